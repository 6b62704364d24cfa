import PyProof.Rows.All
import Wide.All
import OpenK.AllK
import Wide.FinOn
import HandS.ForMost
import HandS.Wide
import HandS.Gcd
import HandS.Lambda
import HandS.EndTab
import HandS.IsInst
import HandS.Zip
import HandS.Flow
import KE.GoesMore
import HandS.Style
import HandS.TupAny
import HandS.TupMul
import HandS.ForExc
import HandS.ExcIs
import HandS.Conv
import PySem.Challenge.RW_advisedplay_k20_across_programs_of_short
section
set_option autoImplicit false
namespace LP

/-! finite sums -/
def sumI (n : Nat) (f : Nat → Int) : Int := match n with
  | 0 => 0
  | n + 1 => sumI n f + f n

theorem sumI_congr {n : Nat} {f g : Nat → Int} (h : ∀ i, i < n → f i = g i) : sumI n f = sumI n g := by
  induction n with
  | zero => rfl
  | succ n ih => simp only [sumI]; rw [ih (fun i hi => h i (by omega)), h n (by omega)]
theorem sumI_add (n : Nat) (f g : Nat → Int) : sumI n (fun i => f i + g i) = sumI n f + sumI n g := by
  induction n with
  | zero => rfl
  | succ n ih => simp only [sumI, ih]; omega
theorem sumI_mul (n : Nat) (a : Int) (f : Nat → Int) : sumI n (fun i => a * f i) = a * sumI n f := by
  induction n with
  | zero => simp [sumI]
  | succ n ih => simp only [sumI, ih]; grind
theorem sumI_mulr (n : Nat) (a : Int) (f : Nat → Int) : sumI n (fun i => f i * a) = sumI n f * a := by
  induction n with
  | zero => simp [sumI]
  | succ n ih => simp only [sumI, ih]; grind
theorem sumI_zero (n : Nat) : sumI n (fun _ => 0) = 0 := by
  induction n with
  | zero => rfl
  | succ n ih => simp only [sumI, ih]; rfl
theorem sumI_zero' {n : Nat} {f : Nat → Int} (h : ∀ i, i < n → f i = 0) : sumI n f = 0 := by
  rw [sumI_congr h, sumI_zero]
theorem sumI_single {n k : Nat} {f : Nat → Int} (hk : k < n) (h : ∀ i, i < n → i ≠ k → f i = 0) : sumI n f = f k := by
  induction n with
  | zero => omega
  | succ n ih =>
    simp only [sumI]
    by_cases e : k = n
    · subst e
      rw [sumI_zero' (fun i hi => h i (by omega) (by omega))]; omega
    · rw [ih (by omega) (fun i hi hne => h i (by omega) hne), h n (by omega) (by omega)]; omega
theorem sumI_two {n k l : Nat} {f : Nat → Int} (hk : k < n) (hl : l < n) (hkl : k ≠ l) (h : ∀ i, i < n → i ≠ k → i ≠ l → f i = 0) : sumI n f = f k + f l := by
  have e : sumI n f = sumI n (fun i => (if i = k then f k else 0) + (if i = l then f l else 0)) := by
    refine sumI_congr fun i hi => ?_
    by_cases h1 : i = k
    · subst h1; simp [hkl]
    · by_cases h2 : i = l
      · subst h2; simp [h1]
      · simp [h1, h2, h i hi h1 h2]
  rw [e, sumI_add, sumI_single hk (fun i _ hne => by simp [hne]), sumI_single hl (fun i _ hne => by simp [hne])]
  simp
theorem sumI_comm (n m : Nat) (f : Nat → Nat → Int) : sumI n (fun i => sumI m (fun j => f i j)) = sumI m (fun j => sumI n (fun i => f i j)) := by
  induction n with
  | zero => simp [sumI, sumI_zero]
  | succ n ih => simp only [sumI, ih, sumI_add]
theorem sumI_le {n : Nat} {f g : Nat → Int} (h : ∀ i, i < n → f i ≤ g i) : sumI n f ≤ sumI n g := by
  induction n with
  | zero => exact Int.le_refl _
  | succ n ih => simp only [sumI]; have := ih (fun i hi => h i (by omega)); have := h n (by omega); omega
theorem sumI_nonneg {n : Nat} {f : Nat → Int} (h : ∀ i, i < n → 0 ≤ f i) : 0 ≤ sumI n f := by
  have := sumI_le (n := n) (f := fun _ => 0) (g := f) h
  rw [sumI_zero] at this; exact this
theorem sumI_pos {n : Nat} {f : Nat → Int} (h : 0 < sumI n f) : ∃ i, i < n ∧ 0 < f i := by
  refine Classical.byContradiction fun c => ?_
  have : sumI n f ≤ sumI n (fun _ => 0) := sumI_le fun i hi => by
    refine Classical.byContradiction fun d => c ⟨i, hi, by omega⟩
  rw [sumI_zero] at this; omega
theorem sumI_neg {n : Nat} {f : Nat → Int} (h : sumI n f < 0) : ∃ i, i < n ∧ f i < 0 := by
  refine Classical.byContradiction fun c => ?_
  have : sumI n (fun _ => 0) ≤ sumI n f := sumI_le fun i hi => by
    refine Classical.byContradiction fun d => c ⟨i, hi, by omega⟩
  rw [sumI_zero] at this; omega
theorem sumI_eq_zero {n : Nat} {f : Nat → Int} (h : ∀ i, i < n → 0 ≤ f i) (e : sumI n f = 0) : ∀ i, i < n → f i = 0 := by
  induction n with
  | zero => intro i hi; omega
  | succ n ih =>
    simp only [sumI] at e
    have h1 := sumI_nonneg (n := n) (f := f) (fun i hi => h i (by omega))
    have h2 := h n (by omega)
    intro i hi
    by_cases q : i = n
    · subst q; omega
    · exact ih (fun i hi => h i (by omega)) (by omega) i (by omega)

/-! determinants: columns f 0 .. f (m-1), each read at coordinates below m -/
def skip (k : Nat) (f : Nat → Nat → Int) : Nat → Nat → Int := fun i => if i < k then f i else f (i + 1)
def sgn (k : Nat) : Int := if k % 2 = 0 then 1 else -1
theorem sgn_succ (k : Nat) : sgn (k + 1) = - sgn k := by
  unfold sgn
  rcases Nat.mod_two_eq_zero_or_one k with h | h
  · rw [if_neg (by omega), if_pos h]
  · rw [if_pos (by omega), if_neg (by omega)]; rfl
def det : Nat → (Nat → Nat → Int) → Int
  | 0, _ => 1
  | m + 1, f => sumI (m + 1) fun k => sgn (m + k) * f k m * det m (skip k f)
def up (f : Nat → Nat → Int) (i : Nat) (v : Nat → Int) : Nat → Nat → Int := fun k => if k = i then v else f k
theorem up_self (f : Nat → Nat → Int) (i : Nat) (v : Nat → Int) : up f i v i = v := by simp [up]
theorem up_ne (f : Nat → Nat → Int) {i k : Nat} (v : Nat → Int) (h : k ≠ i) : up f i v k = f k := by simp [up, h]
theorem up_id (f : Nat → Nat → Int) (i : Nat) : up f i (f i) = f := by
  funext k; unfold up; split
  · rename_i h; rw [h]
  · rfl
theorem up_up (f : Nat → Nat → Int) (i : Nat) (v w : Nat → Int) : up (up f i v) i w = up f i w := by
  funext k; unfold up; split <;> rfl
theorem up_comm (f : Nat → Nat → Int) {i j : Nat} (h : i ≠ j) (v w : Nat → Int) : up (up f i v) j w = up (up f j w) i v := by
  funext k; unfold up
  by_cases h1 : k = j
  · subst h1; simp [Ne.symm h]
  · simp [h1]

/-- det only reads coordinates and positions below m -/
theorem det_congr : ∀ {m : Nat} {f g : Nat → Nat → Int}, (∀ i, i < m → ∀ r, r < m → f i r = g i r) → det m f = det m g
  | 0, _, _, _ => rfl
  | m + 1, f, g, h => by
    simp only [det]
    refine sumI_congr fun k hk => ?_
    rw [h k hk m (by omega), det_congr (m := m) (f := skip k f) (g := skip k g) fun i hi r hr => by
      unfold skip; split
      · exact h i (by omega) r (by omega)
      · exact h (i + 1) (by omega) r (by omega)]
theorem skip_up_self (f : Nat → Nat → Int) (k : Nat) (v : Nat → Int) : skip k (up f k v) = skip k f := by
  funext i; unfold skip up
  split
  · rw [if_neg (by omega)]
  · rw [if_neg (by omega)]
theorem skip_up_lt (f : Nat → Nat → Int) {k i : Nat} (h : i < k) (v : Nat → Int) : skip k (up f i v) = up (skip k f) i v := by
  funext j; unfold skip up
  by_cases h1 : j = i
  · subst h1; simp [h]
  · by_cases h2 : j < k
    · simp [h1, h2]
    · have : ¬ j + 1 = i := by omega
      simp [h1, h2, this]
theorem skip_up_gt (f : Nat → Nat → Int) {k i : Nat} (h : k < i) (v : Nat → Int) : skip k (up f i v) = up (skip k f) (i - 1) v := by
  funext j; unfold skip up
  by_cases h1 : j < k
  · have e1 : ¬ j = i := by omega
    have e2 : ¬ j = i - 1 := by omega
    simp [h1, e1, e2]
  · by_cases h2 : j = i - 1
    · have e1 : j + 1 = i := by omega
      rw [if_neg h1, if_pos e1, if_pos h2]
    · have e1 : ¬ j + 1 = i := by omega
      rw [if_neg h1, if_neg e1, if_neg h2]; dsimp only; rw [if_neg h1]

/-- linear in each column -/
theorem det_lin : ∀ {m : Nat} (f : Nat → Nat → Int) {i : Nat}, i < m → ∀ (a b : Int) (v w : Nat → Int),
    det m (up f i fun r => a * v r + b * w r) = a * det m (up f i v) + b * det m (up f i w)
  | 0, _, _, h, _, _, _, _ => by omega
  | m + 1, f, i, h, a, b, v, w => by
    simp only [det]
    rw [← sumI_mul, ← sumI_mul, ← sumI_add]
    refine sumI_congr fun k hk => ?_
    by_cases h1 : k = i
    · subst h1
      rw [skip_up_self, skip_up_self, skip_up_self, up_self, up_self, up_self]
      grind
    · rw [up_ne f _ h1, up_ne f _ h1, up_ne f _ h1]
      by_cases h2 : i < k
      · rw [skip_up_lt f h2, skip_up_lt f h2, skip_up_lt f h2, det_lin (skip k f) (i := i) (by omega) a b v w]
        grind
      · have h3 : k < i := by omega
        rw [skip_up_gt f h3, skip_up_gt f h3, skip_up_gt f h3, det_lin (skip k f) (i := i - 1) (by omega) a b v w]
        grind
theorem det_smul {m : Nat} (f : Nat → Nat → Int) {i : Nat} (h : i < m) (a : Int) (v : Nat → Int) : det m (up f i fun r => a * v r) = a * det m (up f i v) := by
  have e := det_lin f h a 0 v v
  simp only [Int.zero_mul, Int.add_zero] at e
  exact e
theorem det_zero {m : Nat} (f : Nat → Nat → Int) {i : Nat} (h : i < m) : det m (up f i fun _ => 0) = 0 := by
  have e := det_smul f h 0 fun _ => 0
  simp only [Int.zero_mul] at e
  exact e
theorem det_sum {m : Nat} (f : Nat → Nat → Int) {i : Nat} (h : i < m) (n : Nat) (a : Nat → Int) (v : Nat → Nat → Int) :
    det m (up f i fun r => sumI n fun k => a k * v k r) = sumI n fun k => a k * det m (up f i (v k)) := by
  induction n with
  | zero => simp only [sumI]; exact det_zero f h
  | succ n ih =>
    simp only [sumI]
    have e := det_lin f h 1 (a n) (fun r => sumI n fun k => a k * v k r) (v n)
    simp only [Int.one_mul] at e
    rw [e, ih]
/-- two neighbours alike: 0 -/
theorem det_adj : ∀ {m : Nat} (f : Nat → Nat → Int) {i : Nat}, i + 1 < m → (∀ r, r < m → f i r = f (i + 1) r) → det m f = 0
  | 0, _, _, h, _ => by omega
  | m + 1, f, i, h, e => by
    simp only [det]
    rw [sumI_two (k := i) (l := i + 1) (by omega) (by omega) (by omega)]
    · rw [← Nat.add_assoc, sgn_succ, ← e m (by omega), det_congr (m := m) (f := skip i f) (g := skip (i + 1) f) fun j hj r hr => by
        unfold skip
        by_cases h1 : j < i
        · simp [h1, show j < i + 1 by omega]
        · by_cases h2 : j = i
          · subst h2; simp [e r (by omega)]
          · simp [h1, show ¬ j < i + 1 by omega]]
      grind
    · intro k hk h1 h2
      have : det m (skip k f) = 0 := by
        by_cases h3 : k < i
        · refine det_adj (skip k f) (i := i - 1) (by omega) fun r hr => ?_
          unfold skip
          rw [if_neg (by omega), if_neg (by omega), show i - 1 + 1 = i by omega]
          exact e r (by omega)
        · refine det_adj (skip k f) (i := i) (by omega) fun r hr => ?_
          unfold skip
          rw [if_pos (by omega), if_pos (by omega)]
          exact e r (by omega)
      rw [this]; omega
/-- two neighbours exchanged: the sign turns -/
theorem det_swap_adj {m : Nat} (f : Nat → Nat → Int) {i : Nat} (h : i + 1 < m) : det m (up (up f i (f (i + 1))) (i + 1) (f i)) = - det m f := by
  have z : det m (up (up f i fun r => f i r + f (i + 1) r) (i + 1) fun r => f i r + f (i + 1) r) = 0 :=
    det_adj _ h fun r _ => by rw [up_self, up_ne (k := i) _ _ (by omega), up_self]
  have e1 := det_lin (up f i fun r => f i r + f (i + 1) r) (i := i + 1) h 1 1 (f i) (f (i + 1))
  simp only [Int.one_mul] at e1
  rw [z, up_comm (i := i) (j := i + 1) _ (by omega), up_comm (i := i) (j := i + 1) _ (by omega)] at e1
  have e2 := det_lin (m := m) (up f (i + 1) (f i)) (i := i) (by omega) 1 1 (f i) (f (i + 1))
  have e3 := det_lin (m := m) (up f (i + 1) (f (i + 1))) (i := i) (by omega) 1 1 (f i) (f (i + 1))
  simp only [Int.one_mul] at e2 e3
  rw [e2, e3] at e1
  have a1 : det m (up (up f (i + 1) (f i)) i (f i)) = 0 := det_adj _ h fun r _ => by rw [up_self, up_ne (k := i + 1) _ _ (by omega), up_self]
  have a2 : det m (up (up f (i + 1) (f (i + 1))) i (f (i + 1))) = 0 := det_adj _ h fun r _ => by rw [up_self, up_ne (k := i + 1) _ _ (by omega), up_self]
  have a3 : up (up f (i + 1) (f (i + 1))) i (f i) = f := by rw [up_id, up_id]
  rw [a1, a2, a3, up_comm (i := i + 1) (j := i) _ (by omega)] at e1
  omega
/-- two columns alike: 0 -/
theorem det_alt {m : Nat} : ∀ (d : Nat) (f : Nat → Nat → Int) {i : Nat}, i + 1 + d < m → (∀ r, r < m → f i r = f (i + 1 + d) r) → det m f = 0
  | 0, f, _, h, e => det_adj f h e
  | d + 1, f, i, h, e => by
    have hs := det_swap_adj (m := m) f (i := i + 1 + d) (by omega)
    have z := det_alt (m := m) d (up (up f (i + 1 + d) (f (i + 1 + d + 1))) (i + 1 + d + 1) (f (i + 1 + d))) (i := i) (by omega) fun r hr => by
      rw [up_ne (k := i) (i := i + 1 + d + 1) _ _ (by omega), up_ne (k := i) (i := i + 1 + d) _ _ (by omega), up_ne (k := i + 1 + d) (i := i + 1 + d + 1) _ _ (by omega), up_self]
      exact e r hr
    omega
theorem det_eq {m : Nat} (f : Nat → Nat → Int) {i j : Nat} (hi : i < m) (hj : j < m) (hij : i ≠ j) (e : ∀ r, r < m → f i r = f j r) : det m f = 0 := by
  rcases Nat.lt_or_gt_of_ne hij with h | h
  · refine det_alt (j - i - 1) f (i := i) (by omega) fun r hr => ?_
    rw [show i + 1 + (j - i - 1) = j by omega]; exact e r hr
  · refine det_alt (i - j - 1) f (i := j) (by omega) fun r hr => ?_
    rw [show j + 1 + (i - j - 1) = i by omega]; exact (e r hr).symm
/-- two columns exchanged: the sign turns -/
theorem det_swap {m : Nat} (f : Nat → Nat → Int) {i j : Nat} (hi : i < m) (hj : j < m) (hij : i ≠ j) (v w : Nat → Int) :
    det m (up (up f i v) j w) = - det m (up (up f i w) j v) := by
  have z : det m (up (up f i fun r => v r + w r) j fun r => v r + w r) = 0 :=
    det_eq _ hi hj hij fun r _ => by rw [up_self, up_ne _ _ hij, up_self]
  have e1 := det_lin (up f i fun r => v r + w r) (i := j) hj 1 1 v w
  simp only [Int.one_mul] at e1
  rw [z, up_comm _ hij, up_comm _ hij] at e1
  have e2 := det_lin (up f j v) (i := i) hi 1 1 v w
  have e3 := det_lin (up f j w) (i := i) hi 1 1 v w
  simp only [Int.one_mul] at e2 e3
  rw [e2, e3] at e1
  have a1 : det m (up (up f j v) i v) = 0 := det_eq _ hi hj hij fun r _ => by rw [up_self, up_ne _ _ (Ne.symm hij), up_self]
  have a2 : det m (up (up f j w) i w) = 0 := det_eq _ hi hj hij fun r _ => by rw [up_self, up_ne _ _ (Ne.symm hij), up_self]
  rw [a1, a2, up_comm _ (Ne.symm hij), up_comm _ (Ne.symm hij)] at e1
  omega
/-- the unit columns -/
def unitCol (i : Nat) : Nat → Int := fun r => if r = i then 1 else 0
theorem det_one : ∀ m : Nat, det m unitCol = 1
  | 0 => rfl
  | m + 1 => by
    simp only [det]
    rw [sumI_single (k := m) (by omega)]
    · rw [det_congr (m := m) (f := skip m unitCol) (g := unitCol) fun i hi r _ => by unfold skip; rw [if_pos hi], det_one m]
      have hs : sgn (m + m) = 1 := by unfold sgn; rw [if_pos (by omega)]
      rw [hs]; simp [unitCol]
    · intro i hi hne
      simp [unitCol, Ne.symm hne]
end LP
end

section
set_option autoImplicit false
namespace LP

/-- a tableau by functions: entries, unit, basis -/
structure FS where
  T : Nat → Nat → Int
  u : Int
  b : Nat → Nat

/-- T is s times the minors of the basis -/
structure Inv (m N : Nat) (M : Nat → Nat → Int) (S : FS) : Prop where
  pos : 0 < S.u
  dt : ∃ s : Int, (s = 1 ∨ s = -1) ∧ S.u = s * det m (fun i => M (S.b i)) ∧ ∀ i, i < m → ∀ j, j ≤ N + m → S.T i j = s * det m (up (fun k => M (S.b k)) i (M j))
  comb : ∀ j, j ≤ N + m → ∀ r, r < m → S.u * M j r = sumI m fun i => S.T i j * M (S.b i) r
  rng : ∀ i, i < m → S.b i < N + m

/-- the helper columns -/
def Helped (m N : Nat) (M : Nat → Nat → Int) : Prop := ∀ k, k < m → ∀ r, r < m → M (N + k) r = unitCol k r

variable {m N : Nat} {M : Nat → Nat → Int}

theorem up_b {S : FS} (i k : Nat) : up (fun k => M (S.b k)) i (M (S.b i)) k = M (S.b k) := by
  unfold up; split
  · rename_i h; rw [h]
  · rfl

theorem Inv.start (h : Helped m N M) : Inv m N M ⟨fun i j => M j i, 1, fun i => N + i⟩ := by
  have e1 : det m (fun i => M (N + i)) = 1 := by
    rw [← det_one m]
    exact det_congr fun i hi r hr => h i hi r hr
  refine ⟨Int.one_pos, ⟨1, .inl rfl, by rw [e1]; rfl, fun i hi j hj => ?_⟩, fun j hj r hr => ?_, fun i hi => by show N + i < N + m; omega⟩
  · show M j i = 1 * det m (up (fun k => M (N + k)) i (M j))
    have e2 : det m (up (fun k => M (N + k)) i (M j)) = det m (up unitCol i fun r => sumI m fun k => M j k * unitCol k r) := by
      refine det_congr fun k hk r hr => ?_
      unfold up; split
      · show M j r = sumI m fun k => M j k * unitCol k r
        rw [sumI_single (k := r) hr (fun q _ hne => by simp [unitCol, Ne.symm hne])]
        simp [unitCol]
      · exact h k hk r hr
    rw [e2, det_sum _ hi, sumI_single (k := i) hi]
    · rw [up_id, det_one]; omega
    · intro k hk hne
      rw [det_eq _ hi hk (Ne.symm hne) fun r _ => by rw [up_self, up_ne _ _ hne]]
      omega
  · show 1 * M j r = sumI m fun i => M j i * M (N + i) r
    rw [sumI_single (k := r) hr (fun q hq hne => by rw [h q hq r hr]; simp [unitCol, Ne.symm hne]), h r hr r hr]
    simp [unitCol]

theorem Inv.basis {S : FS} (I : Inv m N M S) {i k : Nat} (hi : i < m) (hk : k < m) : S.T i (S.b k) = if i = k then S.u else 0 := by
  obtain ⟨s, hs, hu, ht⟩ := I.dt
  have hr := I.rng k hk
  rw [ht i hi _ (by omega)]
  by_cases e : i = k
  · subst e
    rw [if_pos rfl, hu, up_id (fun k => M (S.b k)) i]
  · rw [if_neg e, det_eq _ hi hk e fun r _ => by rw [up_self, up_ne _ _ (Ne.symm e)]]
    omega
theorem Inv.inj {S : FS} (I : Inv m N M S) {i k : Nat} (hi : i < m) (hk : k < m) (e : S.b i = S.b k) : i = k := by
  refine Classical.byContradiction fun h => ?_
  have h1 := I.basis hi hi
  have h2 := I.basis hi hk
  rw [if_pos rfl] at h1
  rw [if_neg h, ← e, h1] at h2
  have := I.pos
  omega

/-- two tableaus of the same columns -/
theorem Inv.two {S S' : FS} (I : Inv m N M S) (I' : Inv m N M S') {i j : Nat} (hi : i < m) (hj : j ≤ N + m) :
    S.u * S'.T i j = sumI m fun k => S.T k j * S'.T i (S.b k) := by
  obtain ⟨s, hs, hu, ht⟩ := I'.dt
  rw [ht i hi j hj]
  have e : det m (up (fun k => M (S'.b k)) i fun r => S.u * M j r) = det m (up (fun k => M (S'.b k)) i fun r => sumI m fun k => S.T k j * M (S.b k) r) := by
    refine det_congr fun k hk r hr => ?_
    unfold up; split
    · exact I.comb j hj r hr
    · rfl
  rw [det_smul _ hi, det_sum _ hi] at e
  have e2 : S.u * (s * det m (up (fun k => M (S'.b k)) i (M j))) = s * (S.u * det m (up (fun k => M (S'.b k)) i (M j))) := by grind
  rw [e2, e, ← sumI_mul]
  refine sumI_congr fun k hk => ?_
  have := I.rng k hk
  rw [ht i hi _ (by omega)]
  grind
/-- by the helper columns -/
theorem Inv.help {S : FS} (h : Helped m N M) (I : Inv m N M S) {i j : Nat} (hi : i < m) (hj : j ≤ N + m) :
    S.T i j = sumI m fun k => M j k * S.T i (N + k) := by
  have e := (Inv.start h).two I hi hj
  simp only [Int.one_mul] at e
  exact e

/-- a column is brought into the basis -/
structure Pivot (m N : Nat) (S S' : FS) (p q : Nat) (sg : Int) : Prop where
  hsg : sg = 1 ∨ sg = -1
  u : S'.u = sg * S.T p q
  pos : 0 < S'.u
  bp : S'.b p = q
  bi : ∀ i, i < m → i ≠ p → S'.b i = S.b i
  tp : ∀ j, j ≤ N + m → S'.T p j = sg * S.T p j
  ti : ∀ i, i < m → i ≠ p → ∀ j, j ≤ N + m → S'.T i j = (S.T i j * S'.u - S.T i q * (sg * S.T p j)) / S.u

theorem Inv.pivot' {S S' : FS} {p q : Nat} {sg : Int} (I : Inv m N M S) (P : Pivot m N S S' p q sg) (hp : p < m) (hq : q < N + m) :
    Inv m N M S' ∧ ∀ i, i < m → i ≠ p → ∀ j, j ≤ N + m → S'.T i j * S.u = S.T i j * S'.u - S.T i q * (sg * S.T p j) := by
  obtain ⟨s, hs, hu, ht⟩ := I.dt
  have hB : ∀ k, k < m → M (S'.b k) = up (fun k => M (S.b k)) p (M q) k := fun k hk => by
    unfold up; split
    · rename_i e; rw [e, P.bp]
    · rename_i e; rw [P.bi k hk e]
  have hdB : det m (fun i => M (S'.b i)) = det m (up (fun k => M (S.b k)) p (M q)) := det_congr fun i hi r _ => by rw [hB i hi]
  have hss : s * s = 1 := by rcases hs with rfl | rfl <;> rfl
  have hgg : sg * sg = 1 := by rcases P.hsg with rfl | rfl <;> rfl
  have up2 : ∀ i, i ≠ p → ∀ j, det m (up (fun k => M (S'.b k)) i (M j)) = det m (up (up (fun k => M (S.b k)) p (M q)) i (M j)) := fun i hne j =>
    det_congr fun k hk r _ => by
      by_cases e : k = i
      · subst e; rw [up_self, up_self]
      · rw [up_ne _ _ e, up_ne _ _ e, hB k hk]
  have upp : ∀ j, det m (up (fun k => M (S'.b k)) p (M j)) = det m (up (fun k => M (S.b k)) p (M j)) := fun j =>
    det_congr fun k hk r _ => by
      by_cases e : k = p
      · subst e; rw [up_self, up_self]
      · rw [up_ne _ _ e, up_ne _ _ e, P.bi k hk e]
  -- the Pluecker relation
  have key : ∀ i, i < m → i ≠ p → ∀ j, j ≤ N + m → S.u * det m (up (fun k => M (S'.b k)) i (M j)) = s * (S.T i j * S.T p q - S.T p j * S.T i q) := fun i hi hne j hj => by
    rw [up2 i hne j]
    have e : det m (up (up (fun k => M (S.b k)) p (M q)) i fun r => S.u * M j r) = det m (up (up (fun k => M (S.b k)) p (M q)) i fun r => sumI m fun k => S.T k j * M (S.b k) r) := by
      refine det_congr fun k hk r hr => ?_
      by_cases e : k = i
      · subst e; rw [up_self, up_self]; exact I.comb j hj r hr
      · rw [up_ne _ _ e, up_ne _ _ e]
    rw [det_smul _ hi, det_sum _ hi] at e
    rw [e, sumI_two (k := i) (l := p) hi hp hne]
    · have a1 : det m (up (up (fun k => M (S.b k)) p (M q)) i (M (S.b i))) = s * S.T p q := by
        rw [ht p hp q (by omega), ← Int.mul_assoc, hss, Int.one_mul]
        refine det_congr fun k hk r _ => ?_
        by_cases e : k = i
        · subst e; rw [up_self, up_ne _ _ hne]
        · rw [up_ne _ _ e]
      have a2 : det m (up (up (fun k => M (S.b k)) p (M q)) i (M (S.b p))) = - (s * S.T i q) := by
        rw [ht i hi q (by omega), ← Int.mul_assoc, hss, Int.one_mul, det_swap _ hp hi (Ne.symm hne), up_id (fun k => M (S.b k)) p]
      rw [a1, a2]; grind
    · intro k hk h1 h2
      rw [det_eq _ hi hk (Ne.symm h1) fun r _ => by rw [up_self, up_ne _ _ h1, up_ne _ _ h2]]
      omega
  have hTpq : S.T p q = s * det m (up (fun k => M (S.b k)) p (M q)) := ht p hp q (by omega)
  have hu0 : S.u ≠ 0 := by have := I.pos; omega
  -- the new entries
  have new : ∀ i, i < m → ∀ j, j ≤ N + m → S'.T i j = (sg * s) * det m (up (fun k => M (S'.b k)) i (M j)) := fun i hi j hj => by
    by_cases e : i = p
    · subst e
      rw [P.tp j hj, upp, ht i hi j hj]; grind
    · rw [P.ti i hi e j hj]
      have k1 := key i hi e j hj
      have e1 : S.T i j * S'.u - S.T i q * (sg * S.T p j) = S.u * ((sg * s) * det m (up (fun k => M (S'.b k)) i (M j))) := by
        have : S.u * ((sg * s) * det m (up (fun k => M (S'.b k)) i (M j))) = (sg * s) * (S.u * det m (up (fun k => M (S'.b k)) i (M j))) := by grind
        rw [this, k1, P.u]
        grind
      rw [e1, Int.mul_ediv_cancel_left _ hu0]
  have exact_ : ∀ i, i < m → i ≠ p → ∀ j, j ≤ N + m → S'.T i j * S.u = S.T i j * S'.u - S.T i q * (sg * S.T p j) := fun i hi e j hj => by
    rw [new i hi j hj]
    have k1 := key i hi e j hj
    have : (sg * s) * det m (up (fun k => M (S'.b k)) i (M j)) * S.u = (sg * s) * (S.u * det m (up (fun k => M (S'.b k)) i (M j))) := by grind
    rw [this, k1, P.u]
    grind
  refine ⟨⟨P.pos, ⟨sg * s, ?_, ?_, new⟩, fun j hj r hr => ?_, fun i hi => ?_⟩, exact_⟩
  · rcases hs with rfl | rfl <;> rcases P.hsg with e | e <;> rw [e] <;> simp
  · rw [hdB, P.u, hTpq]; grind
  · -- u' M j = sum T' i j M (b' i)
    have hc := I.comb j hj r hr
    have hcq := I.comb q (by omega) r hr
    have e1 : S.u * (sumI m fun i => S'.T i j * M (S'.b i) r) = S.u * (S'.u * M j r) := by
      rw [← sumI_mul]
      have e2 : (sumI m fun i => S.u * (S'.T i j * M (S'.b i) r)) = sumI m fun i => (S'.u * (S.T i j * M (S.b i) r) - (sg * S.T p j) * (S.T i q * M (S.b i) r)) + (if i = p then S.u * (sg * S.T p j) * M q r else 0) := by
        refine sumI_congr fun i hi => ?_
        by_cases e : i = p
        · subst e
          rw [if_pos rfl, P.tp j hj, P.bp, P.u]; grind
        · rw [if_neg e, P.bi i hi e]
          have := exact_ i hi e j hj
          have : S.u * (S'.T i j * M (S.b i) r) = (S'.T i j * S.u) * M (S.b i) r := by grind
          rw [this, exact_ i hi e j hj]; grind
      rw [e2, sumI_add, sumI_single (f := fun i => if i = p then _ else _) (k := p) hp (fun i _ hne => by rw [if_neg hne]), if_pos rfl]
      have e3 : (sumI m fun i => S'.u * (S.T i j * M (S.b i) r) - (sg * S.T p j) * (S.T i q * M (S.b i) r)) = S'.u * (S.u * M j r) - (sg * S.T p j) * (S.u * M q r) := by
        rw [hc, hcq, ← sumI_mul, ← sumI_mul]
        have : ∀ (f g : Nat → Int), (sumI m fun i => f i - g i) = sumI m f - sumI m g := fun f g => by
          have a := sumI_add m f (fun i => - g i)
          have b : sumI m (fun i => - g i) = - sumI m g := by
            have := sumI_mul m (-1) g
            simp only [Int.neg_mul, Int.one_mul] at this
            exact this
          rw [b] at a
          have c : (sumI m fun i => f i - g i) = sumI m fun i => f i + - g i := sumI_congr fun i _ => by omega
          rw [c, a]; omega
        exact this _ _
      rw [e3]; grind
    exact (Int.eq_of_mul_eq_mul_left hu0 e1).symm
  · by_cases e : i = p
    · subst e; rw [P.bp]; exact hq
    · rw [P.bi i hi e]; exact I.rng i hi
theorem Inv.pivot {S S' : FS} {p q : Nat} {sg : Int} (I : Inv m N M S) (P : Pivot m N S S' p q sg) (hp : p < m) (hq : q < N + m) : Inv m N M S' := (I.pivot' P hp hq).1
theorem Inv.exact {S S' : FS} {p q : Nat} {sg : Int} (I : Inv m N M S) (P : Pivot m N S S' p q sg) (hp : p < m) (hq : q < N + m) {i : Nat} (hi : i < m) (hne : i ≠ p) {j : Nat} (hj : j ≤ N + m) :
    S'.T i j * S.u = S.T i j * S'.u - S.T i q * (sg * S.T p j) := (I.pivot' P hp hq).2 i hi hne j hj

/-! reduced costs -/
def red (m : Nat) (c : Nat → Int) (S : FS) (j : Nat) : Int := S.u * c j - sumI m fun i => c (S.b i) * S.T i j
theorem red_basis {S : FS} (I : Inv m N M S) (c : Nat → Int) {k : Nat} (hk : k < m) : red m c S (S.b k) = 0 := by
  unfold red
  rw [sumI_single (k := k) hk (fun i hi hne => by rw [I.basis hi hk, if_neg hne]; omega), I.basis hk hk, if_pos rfl]
  grind
theorem red_pivot {S S' : FS} {p q : Nat} {sg : Int} (I : Inv m N M S) (P : Pivot m N S S' p q sg) (hp : p < m) (hq : q < N + m) (c : Nat → Int) {j : Nat} (hj : j ≤ N + m) :
    red m c S' j * S.u = red m c S j * S'.u - red m c S q * (sg * S.T p j) := by
  unfold red
  have e : (sumI m fun i => c (S'.b i) * S'.T i j) * S.u = S'.u * (sumI m fun i => c (S.b i) * S.T i j) - (sg * S.T p j) * (sumI m fun i => c (S.b i) * S.T i q) + S.u * c q * (sg * S.T p j) := by
    rw [← sumI_mulr, ← sumI_mul, ← sumI_mul]
    have e2 : (sumI m fun i => c (S'.b i) * S'.T i j * S.u) = sumI m fun i => (S'.u * (c (S.b i) * S.T i j) + - ((sg * S.T p j) * (c (S.b i) * S.T i q))) + (if i = p then S.u * c q * (sg * S.T p j) else 0) := by
      refine sumI_congr fun i hi => ?_
      by_cases e : i = p
      · subst e
        rw [if_pos rfl, P.tp j hj, P.bp, P.u]; grind
      · rw [if_neg e, P.bi i hi e]
        have := I.exact P hp hq hi e hj
        have : c (S.b i) * S'.T i j * S.u = c (S.b i) * (S'.T i j * S.u) := by grind
        rw [this, I.exact P hp hq hi e hj]; grind
    rw [e2, sumI_add, sumI_add, sumI_single (f := fun i => if i = p then _ else _) (k := p) hp (fun i _ hne => by rw [if_neg hne]), if_pos rfl]
    have b : sumI m (fun i => - ((sg * S.T p j) * (c (S.b i) * S.T i q))) = - sumI m (fun i => (sg * S.T p j) * (c (S.b i) * S.T i q)) := by
      have := sumI_mul m (-1) (fun i => (sg * S.T p j) * (c (S.b i) * S.T i q))
      simp only [Int.neg_mul, Int.one_mul] at this
      exact this
    rw [b]; omega
  have e3 : (S'.u * c j - sumI m fun i => c (S'.b i) * S'.T i j) * S.u = S'.u * c j * S.u - (sumI m fun i => c (S'.b i) * S'.T i j) * S.u := by grind
  rw [e3, e]
  grind
/-- reduced costs of two tableaus of the same columns -/
theorem red_two {S S' : FS} (I : Inv m N M S) (I' : Inv m N M S') (c : Nat → Int) {j : Nat} (hj : j ≤ N + m) :
    S.u * red m c S' j - S'.u * red m c S j = sumI m fun k => S.T k j * red m c S' (S.b k) := by
  unfold red
  have e : (sumI m fun k => S.T k j * (S'.u * c (S.b k) - sumI m fun i => c (S'.b i) * S'.T i (S.b k))) = S'.u * (sumI m fun k => c (S.b k) * S.T k j) + - (sumI m fun i => c (S'.b i) * (S.u * S'.T i j)) := by
    have e1 : (sumI m fun k => S.T k j * (S'.u * c (S.b k) - sumI m fun i => c (S'.b i) * S'.T i (S.b k))) = sumI m fun k => S'.u * (c (S.b k) * S.T k j) + - (sumI m fun i => S.T k j * (c (S'.b i) * S'.T i (S.b k))) := by
      refine sumI_congr fun k _ => ?_
      rw [sumI_mul]; grind
    rw [e1, sumI_add, sumI_mul]
    have e2 : (sumI m fun k => - (sumI m fun i => S.T k j * (c (S'.b i) * S'.T i (S.b k)))) = - sumI m (fun k => sumI m fun i => S.T k j * (c (S'.b i) * S'.T i (S.b k))) := by
      have := sumI_mul m (-1) (fun k => sumI m fun i => S.T k j * (c (S'.b i) * S'.T i (S.b k)))
      simp only [Int.neg_mul, Int.one_mul] at this
      exact this
    rw [e2, sumI_comm]
    have e3 : (sumI m fun i => sumI m fun k => S.T k j * (c (S'.b i) * S'.T i (S.b k))) = sumI m fun i => c (S'.b i) * (S.u * S'.T i j) := by
      refine sumI_congr fun i hi => ?_
      rw [I.two I' hi hj, ← sumI_mul]
      exact sumI_congr fun k _ => by grind
    rw [e3]
  rw [e]
  have e4 : (sumI m fun i => c (S'.b i) * (S.u * S'.T i j)) = S.u * sumI m fun i => c (S'.b i) * S'.T i j := by
    rw [← sumI_mul]; exact sumI_congr fun i _ => by grind
  rw [e4]; grind
end LP
end

section
set_option autoImplicit false
namespace LP
variable {m N : Nat} {M : Nat → Nat → Int}

/-! pigeons -/
theorem pigeon : ∀ (K : Nat) (f : Nat → Nat), (∀ k, k ≤ K → f k < K) → ∃ a b, a < b ∧ b ≤ K ∧ f a = f b
  | 0, f, h => absurd (h 0 (Nat.le_refl 0)) (Nat.not_lt_zero _)
  | K + 1, f, h => by
    refine Classical.byContradiction fun c => ?_
    have inj : ∀ a b, a < b → b ≤ K + 1 → f a ≠ f b := fun a b h1 h2 e => c ⟨a, b, h1, h2, e⟩
    obtain ⟨a, b, h1, h2, e⟩ := pigeon K (fun k => if f k = K then f (K + 1) else f k) fun k hk => by
      have hk1 := h k (by omega)
      have hK := h (K + 1) (Nat.le_refl _)
      have := inj k (K + 1) (by omega) (Nat.le_refl _)
      split <;> omega
    have ia := inj a (K + 1) (by omega) (Nat.le_refl _)
    have ib := inj b (K + 1) (by omega) (Nat.le_refl _)
    have iab := inj a b h1 (by omega)
    split at e <;> split at e <;> omega
/-- a number for the first n values of f, each below w -/
def code (w : Nat) : Nat → (Nat → Nat) → Nat
  | 0, _ => 0
  | n + 1, f => code w n f * w + f n
theorem code_lt {w : Nat} : ∀ {n : Nat} {f : Nat → Nat}, (∀ i, i < n → f i < w) → code w n f < w ^ n
  | 0, _, _ => by simp [code]
  | n + 1, f, h => by
    have ih := code_lt (n := n) (f := f) fun i hi => h i (by omega)
    have hn := h n (by omega)
    simp only [code, Nat.pow_succ]
    have : (code w n f + 1) * w ≤ w ^ n * w := Nat.mul_le_mul_right w ih
    rw [Nat.add_mul] at this
    omega
theorem code_inj {w : Nat} : ∀ {n : Nat} {f g : Nat → Nat}, (∀ i, i < n → f i < w) → (∀ i, i < n → g i < w) → code w n f = code w n g → ∀ i, i < n → f i = g i
  | 0, _, _, _, _, _ => fun i hi => by omega
  | n + 1, f, g, hf, hg, e => by
    simp only [code] at e
    have h1 := hf n (by omega)
    have h2 := hg n (by omega)
    have e1 : f n = g n := by
      have := congrArg (· % w) e
      simp only [Nat.mul_add_mod_self_right, Nat.mod_eq_of_lt h1, Nat.mod_eq_of_lt h2] at this
      exact this
    have e2 : code w n f = code w n g := by
      rw [e1] at e
      have : code w n f * w = code w n g * w := by omega
      exact Nat.eq_of_mul_eq_mul_right (by omega) this
    intro i hi
    by_cases q : i = n
    · rw [q]; exact e1
    · exact code_inj (n := n) (fun i hi => hf i (by omega)) (fun i hi => hg i (by omega)) e2 i (by omega)

/-- the same basis: the same tableau -/
structure Alike (m N : Nat) (S S' : FS) : Prop where
  u : S.u = S'.u
  b : ∀ i, i < m → S.b i = S'.b i
  T : ∀ i, i < m → ∀ j, j ≤ N + m → S.T i j = S'.T i j
theorem Inv.alike {S S' : FS} (I : Inv m N M S) (I' : Inv m N M S') (h : ∀ i, i < m → S.b i = S'.b i) : Alike m N S S' := by
  obtain ⟨s, hs, hu, ht⟩ := I.dt
  obtain ⟨s', hs', hu', ht'⟩ := I'.dt
  have e : det m (fun i => M (S.b i)) = det m (fun i => M (S'.b i)) := det_congr fun i hi r _ => by rw [h i hi]
  have p := I.pos
  have p' := I'.pos
  have es : s = s' := by
    rw [e] at hu
    rcases hs with rfl | rfl <;> rcases hs' with rfl | rfl <;> omega
  subst es
  refine ⟨by rw [hu, hu', e], h, fun i hi j hj => ?_⟩
  rw [ht i hi j hj, ht' i hi j hj]
  congr 1
  refine det_congr fun k hk r _ => ?_
  unfold up; split
  · rfl
  · show M (S.b k) r = M (S'.b k) r
    rw [h k hk]

/-- one turn by Bland's rule: the least column that gains comes in, the least of the tight ones leaves -/
structure Step (m N : Nat) (c : Nat → Int) (S S' : FS) (p q : Nat) : Prop where
  piv : Pivot m N S S' p q 1
  hp : p < m
  hq : q < N
  gain : 0 < red m c S q
  first : ∀ j, j < q → red m c S j ≤ 0
  tight : ∀ i, i < m → 0 < S.T i q → S.T p (N + m) * S.T i q < S.T i (N + m) * S.T p q ∨ (S.T p (N + m) * S.T i q = S.T i (N + m) * S.T p q ∧ S.b p ≤ S.b i)
theorem Step.head {c : Nat → Int} {S S' : FS} {p q : Nat} (h : Step m N c S S' p q) : 0 < S.T p q := by
  have e := h.piv.u
  have := h.piv.pos
  omega
/-- right-hand sides from 0 on -/
def Feas (m N : Nat) (S : FS) : Prop := ∀ i, i < m → 0 ≤ S.T i (N + m)
theorem Step.feas {c : Nat → Int} {S S' : FS} {p q : Nat} (h : Step m N c S S' p q) (I : Inv m N M S) (F : Feas m N S) : Feas m N S' := fun i hi => by
  have hd := h.head
  by_cases e : i = p
  · subst e
    rw [h.piv.tp _ (Nat.le_refl _)]
    have := F i hi
    omega
  · have x := I.exact h.piv h.hp (Nat.lt_of_lt_of_le h.hq (Nat.le_add_right _ _)) hi e (j := N + m) (Nat.le_refl _)
    have hu := h.piv.u
    have hb := F i hi
    have hbp := F p h.hp
    have pos := I.pos
    have : 0 ≤ S'.T i (N + m) * S.u := by
      rw [x, hu]
      by_cases t : 0 < S.T i q
      · rcases h.tight i hi t with z | ⟨z, _⟩ <;> grind
      · have a1 : 0 ≤ S.T i (N + m) * S.T p q := Int.mul_nonneg hb (by omega)
        have a2 : S.T i q * S.T p (N + m) ≤ 0 := Int.mul_nonpos_of_nonpos_of_nonneg (by omega) hbp
        grind
    refine Classical.byContradiction fun z => ?_
    have : S'.T i (N + m) * S.u < 0 := Int.mul_neg_of_neg_of_pos (by omega) pos
    omega

theorem div_nn {a b : Rat} (ha : 0 ≤ a) (hb : 0 < b) : 0 ≤ a / b := by
  rw [Rat.div_def]; exact Rat.mul_nonneg ha (Rat.le_of_lt (Rat.inv_pos.mpr hb))
theorem flat_of_mono {f : Nat → Rat} {p : Nat} (hp : 0 < p) (h : ∀ k, f (k + 1) ≤ f k) (e : ∀ k, f (k + p) = f k) : ∀ k, f (k + 1) = f k := fun k => by
  have down : ∀ d, f (k + 1 + d) ≤ f (k + 1) := fun d => by
    induction d with
    | zero => exact Rat.le_refl
    | succ d ih => exact Rat.le_trans (h (k + 1 + d)) ih
  have h1 := down (p - 1)
  rw [show k + 1 + (p - 1) = k + p by omega, e k] at h1
  exact Rat.le_antisymm (h k) h1

/-- Bland: no turning round -/
theorem bland_round {c : Nat → Int} {S : Nat → FS} {sp at_ : Nat → Nat} {p : Nat} (hc : c (N + m) = 0) (hp : 0 < p) (I : ∀ k, Inv m N M (S k)) (F : ∀ k, Feas m N (S k)) (st : ∀ k, Step m N c (S k) (S (k + 1)) (sp k) (at_ k))
    (per : ∀ k, S (k + p) = S k) (perA : ∀ k, at_ (k + p) = at_ k) : False := by
  have hq : ∀ k, at_ k < N + m := fun k => Nat.lt_of_lt_of_le (st k).hq (Nat.le_add_right _ _)
  have hN : N + m ≤ N + m := Nat.le_refl _
  have per' : ∀ n k, S (k + p * n) = S k := fun n => by
    induction n with
    | zero => intro k; rfl
    | succ n ih => intro k; rw [Nat.mul_succ, ← Nat.add_assoc, per, ih]
  -- the objective stays, so each turn's line has the right-hand side 0
  have zero : ∀ k, (S k).T (sp k) (N + m) = 0 := fun k => by
    have mono : ∀ k, ((red m c (S (k + 1)) (N + m) : Int) : Rat) / ((S (k + 1)).u : Rat) = ((red m c (S k) (N + m) : Int) : Rat) / ((S k).u : Rat) - ((red m c (S k) (at_ k) * (S k).T (sp k) (N + m) : Int) : Rat) / (((S k).u * (S (k + 1)).u : Int) : Rat) := fun k => by
      have e := red_pivot (I k) (st k).piv (st k).hp (hq k) c hN
      have u0 : (((S k).u : Int) : Rat) ≠ 0 := by have := (I k).pos; exact_mod_cast (by omega : (S k).u ≠ 0)
      have u1 : (((S (k + 1)).u : Int) : Rat) ≠ 0 := by have := (I (k + 1)).pos; exact_mod_cast (by omega : (S (k + 1)).u ≠ 0)
      have e' : ((red m c (S (k + 1)) (N + m) : Int) : Rat) * ((S k).u : Rat) = ((red m c (S k) (N + m) : Int) : Rat) * ((S (k + 1)).u : Rat) - ((red m c (S k) (at_ k) : Int) : Rat) * (((S k).T (sp k) (N + m) : Int) : Rat) := by
        rw [Int.one_mul] at e
        exact_mod_cast e
      rw [Rat.intCast_mul, Rat.intCast_mul]
      grind
    have nn : ∀ k, 0 ≤ ((red m c (S k) (at_ k) * (S k).T (sp k) (N + m) : Int) : Rat) / (((S k).u * (S (k + 1)).u : Int) : Rat) := fun k => by
      have h1 : 0 ≤ red m c (S k) (at_ k) * (S k).T (sp k) (N + m) := Int.mul_nonneg (Int.le_of_lt (st k).gain) (F k _ (st k).hp)
      have h2 : 0 < (S k).u * (S (k + 1)).u := Int.mul_pos (I k).pos (I (k + 1)).pos
      exact div_nn (by exact_mod_cast h1) (by exact_mod_cast h2)
    have flat := flat_of_mono (f := fun k => ((red m c (S k) (N + m) : Int) : Rat) / ((S k).u : Rat)) hp (fun k => by have := mono k; have := nn k; grind) (fun k => by rw [per k]) k
    have e := mono k
    have n := nn k
    have z : ((red m c (S k) (at_ k) * (S k).T (sp k) (N + m) : Int) : Rat) / (((S k).u * (S (k + 1)).u : Int) : Rat) = 0 := by grind
    have u2 : (((S k).u * (S (k + 1)).u : Int) : Rat) ≠ 0 := by
      have h1 := (I k).pos
      have h2 := (I (k + 1)).pos
      have : 0 < (S k).u * (S (k + 1)).u := Int.mul_pos h1 h2
      exact_mod_cast (by omega : (S k).u * (S (k + 1)).u ≠ 0)
    have z2 : ((red m c (S k) (at_ k) * (S k).T (sp k) (N + m) : Int) : Rat) = 0 := by grind
    have z3 : red m c (S k) (at_ k) * (S k).T (sp k) (N + m) = 0 := by exact_mod_cast z2
    rcases Int.mul_eq_zero.mp z3 with q | q
    · have := (st k).gain; omega
    · exact q
  -- a right-hand side 0 stays 0
  have stay : ∀ i, i < m → ∀ k d, (S k).T i (N + m) = 0 → (S (k + d)).T i (N + m) = 0 := fun i hi k d h => by
    induction d with
    | zero => exact h
    | succ d ih =>
      by_cases e : i = sp (k + d)
      · rw [← Nat.add_assoc, e, (st (k + d)).piv.tp _ hN, zero]; rfl
      · have x := (I (k + d)).exact (st (k + d)).piv (st (k + d)).hp (hq _) hi e hN
        rw [ih, zero, Int.zero_mul, Int.mul_zero, Int.mul_zero] at x
        have pos := (I (k + d)).pos
        rcases Int.mul_eq_zero.mp (show (S (k + d + 1)).T i (N + m) * (S (k + d)).u = 0 by omega) with z | z
        · exact z
        · omega
  have turned : ∀ k i, i < m → (∃ l, sp l = i) → (S k).T i (N + m) = 0 := fun k i hi ⟨l, e⟩ => by
    have h0 : (S l).T i (N + m) = 0 := by rw [← e]; exact zero l
    have := stay i hi l (k + p * l - l) h0
    have le : l ≤ p * l := Nat.le_mul_of_pos_left l hp
    rw [show l + (k + p * l - l) = k + p * l by omega, per'] at this
    exact this
  -- who is in at a line and out later left by a turn of this line
  have left : ∀ i, i < m → ∀ k d, (∀ i', i' < m → (S (k + d)).b i' ≠ (S k).b i) → ∃ l, sp l = i := fun i hi k d h => by
    refine Classical.byContradiction fun no => ?_
    have same : ∀ d, (S (k + d)).b i = (S k).b i := fun d => by
      induction d with
      | zero => rfl
      | succ d ih => rw [← Nat.add_assoc, (st (k + d)).piv.bi i hi fun e => no ⟨k + d, e.symm⟩]; exact ih
    exact h i hi (same d)
  -- who is out and in later came in by a turn
  have came : ∀ (v : Nat) k d, (∀ i', i' < m → (S k).b i' ≠ v) → (∃ i, i < m ∧ (S (k + d)).b i = v) → ∃ l, at_ l = v := fun v k d h => by
    induction d with
    | zero => intro ⟨i, hi, e⟩; exact absurd e (h i hi)
    | succ d ih =>
      intro ⟨i, hi, e⟩
      rw [← Nat.add_assoc] at e
      by_cases q : i = sp (k + d)
      · rw [q, (st (k + d)).piv.bp] at e
        exact ⟨k + d, e⟩
      · rw [(st (k + d)).piv.bi i hi q] at e
        exact ih ⟨i, hi, e⟩
  have perAn : ∀ n k, at_ (k + p * n) = at_ k := fun n => by
    induction n with
    | zero => intro k; rfl
    | succ n ih => intro k; rw [Nat.mul_succ, ← Nat.add_assoc, perA, ih]
  -- the greatest that comes in
  obtain ⟨l, hl⟩ : ∃ l, ∀ k, at_ k ≤ at_ l := by
    have fin : ∀ n, ∃ l, ∀ k, k < n → at_ k ≤ at_ l := fun n => by
      induction n with
      | zero => exact ⟨0, fun k hk => by omega⟩
      | succ n ih =>
        obtain ⟨l, hl⟩ := ih
        by_cases q : at_ l ≤ at_ n
        · exact ⟨n, fun k hk => by
            by_cases z : k = n
            · rw [z]; exact Nat.le_refl _
            · exact Nat.le_trans (hl k (by omega)) q⟩
        · exact ⟨l, fun k hk => by
            by_cases z : k = n
            · rw [z]; omega
            · exact hl k (by omega)⟩
    obtain ⟨l, hl⟩ := fin p
    refine ⟨l, fun k => ?_⟩
    have := perAn (k / p) (k % p)
    rw [Nat.mod_add_div] at this
    rw [this]
    exact hl _ (Nat.mod_lt _ hp)
  have out_l : ∀ i', i' < m → (S l).b i' ≠ at_ l := fun i' hi' e => by
    have z := red_basis (I l) c hi'
    rw [e] at z
    have := (st l).gain
    omega
  -- it leaves at some k
  obtain ⟨k, hk⟩ : ∃ k, (S k).b (sp k) = at_ l := by
    refine Classical.byContradiction fun no => ?_
    have same : ∀ d, (S (l + 1 + d)).b (sp l) = at_ l := fun d => by
      induction d with
      | zero => exact (st l).piv.bp
      | succ d ih =>
        rw [← Nat.add_assoc, (st (l + 1 + d)).piv.bi _ (st l).hp fun e => no ⟨l + 1 + d, by rw [← e]; exact ih⟩]
        exact ih
    have := same (p - 1)
    rw [show l + 1 + (p - 1) = l + p by omega, per] at this
    exact out_l _ (st l).hp this
  have hs : at_ k < at_ l := by
    have := hl k
    refine Nat.lt_of_le_of_ne this fun e => ?_
    have z := red_basis (I k) c (st k).hp
    rw [hk, ← e] at z
    have := (st k).gain
    omega
  have r1 := (st l).first _ hs
  have r0 := (st k).gain
  have two := red_two (I k) (I l) c (j := at_ k) (by have := hq k; omega)
  have neg : (S k).u * red m c (S l) (at_ k) - (S l).u * red m c (S k) (at_ k) < 0 := by
    have a1 : (S k).u * red m c (S l) (at_ k) ≤ 0 := Int.mul_nonpos_of_nonneg_of_nonpos (Int.le_of_lt (I k).pos) r1
    have a2 : 0 < (S l).u * red m c (S k) (at_ k) := Int.mul_pos (I l).pos r0
    omega
  rw [two] at neg
  obtain ⟨i, hi, hneg⟩ := sumI_neg neg
  have rne : red m c (S l) ((S k).b i) ≠ 0 := fun e => by rw [e, Int.mul_zero] at hneg; omega
  have out : ∀ i', i' < m → (S l).b i' ≠ (S k).b i := fun i' hi' e => rne (by rw [← e]; exact red_basis (I l) c hi')
  have hne : i ≠ sp k := fun e => by
    rw [e, hk] at hneg
    have h1 := (st k).head
    have h2 := (st l).gain
    have := Int.mul_pos h1 h2
    omega
  have lp : k ≤ l + p * (k + 1) := by
    have : k + 1 ≤ p * (k + 1) := Nat.le_mul_of_pos_left _ hp
    omega
  have kp : l ≤ k + p * (l + 1) := by
    have : l + 1 ≤ p * (l + 1) := Nat.le_mul_of_pos_left _ hp
    omega
  obtain ⟨e1, he1⟩ := came ((S k).b i) l (k + p * (l + 1) - l) out ⟨i, hi, by rw [show l + (k + p * (l + 1) - l) = k + p * (l + 1) by omega, per']⟩
  have hv : (S k).b i ≤ at_ l := by rw [← he1]; exact hl e1
  have hv2 : (S k).b i < at_ l := Nat.lt_of_le_of_ne hv fun e => hne ((I k).inj hi (st k).hp (by rw [hk, e]))
  have r2 := (st l).first _ hv2
  have tpos : 0 < (S k).T i (at_ k) := by
    refine Classical.byContradiction fun z => ?_
    have : 0 ≤ (S k).T i (at_ k) * red m c (S l) ((S k).b i) := Int.mul_nonneg_of_nonpos_of_nonpos (by omega) r2
    omega
  have b0 : (S k).T i (N + m) = 0 := turned k i hi (left i hi k (l + p * (k + 1) - k) fun i' hi' => by
    rw [show k + (l + p * (k + 1) - k) = l + p * (k + 1) by omega, per']
    exact out i' hi')
  have t := (st k).tight i hi tpos
  rw [zero k, b0, hk] at t
  simp only [Int.zero_mul] at t
  rcases t with t | ⟨_, t⟩ <;> omega

/-- Bland: turns come to an end -/
theorem bland {c : Nat → Int} {S : Nat → FS} {sp at_ : Nat → Nat} (hc : c (N + m) = 0) (I : ∀ k, Inv m N M (S k)) (F : ∀ k, Feas m N (S k)) (st : ∀ k, Step m N c (S k) (S (k + 1)) (sp k) (at_ k)) : False := by
  obtain ⟨a, b, hab, _, e⟩ := pigeon ((N + m) ^ m) (fun k => code (N + m) m (S k).b) fun k _ => code_lt fun i hi => (I k).rng i hi
  have al : Alike m N (S a) (S b) := (I a).alike (I b) (code_inj (fun i hi => (I a).rng i hi) (fun i hi => (I b).rng i hi) e)
  have hp : 0 < b - a := by omega
  refine bland_round (S := fun k => S (a + k % (b - a))) (sp := fun k => sp (a + k % (b - a))) (at_ := fun k => at_ (a + k % (b - a))) hc hp (fun k => I _) (fun k => F _) (fun k => ?_) (fun k => by rw [Nat.add_mod_right]) (fun k => by rw [Nat.add_mod_right])
  have hm := Nat.mod_lt k hp
  by_cases q : k % (b - a) + 1 < b - a
  · have : (k + 1) % (b - a) = k % (b - a) + 1 := by
      rw [Nat.add_mod, Nat.mod_eq_of_lt (a := 1) (by omega), Nat.mod_eq_of_lt q]
    rw [this]
    exact st (a + k % (b - a))
  · have h0 : (k + 1) % (b - a) = 0 := by
      by_cases z : b - a = 1
      · rw [z, Nat.mod_one]
      · rw [Nat.add_mod, Nat.mod_eq_of_lt (a := 1) (by omega), show k % (b - a) + 1 = b - a by omega, Nat.mod_self]
    rw [h0]
    have s := st (a + k % (b - a))
    rw [show a + k % (b - a) + 1 = b by omega] at s
    obtain ⟨P, hp', hq', g, f, t⟩ := s
    refine ⟨⟨P.hsg, by rw [Nat.add_zero, al.u]; exact P.u, by rw [Nat.add_zero, al.u]; exact P.pos, by rw [Nat.add_zero, al.b _ hp']; exact P.bp, fun i hi hne => by rw [Nat.add_zero, al.b i hi]; exact P.bi i hi hne, fun j hj => by rw [Nat.add_zero, al.T _ hp' j hj]; exact P.tp j hj, fun i hi hne j hj => ?_⟩, hp', hq', g, f, t⟩
    rw [Nat.add_zero, al.T i hi j hj, al.u]; exact P.ti i hi hne j hj
end LP
end

section
set_option autoImplicit false
namespace LP

/-! ### the tableau by lists, as the program has it -/
def ent (l : List Int) (j : Nat) : Int := l.getD j 0
def movedL (u : Int) (line own : List Int) (head : Int) (q : Nat) : List Int := List.zipWith (fun x o => (x * head - ent line q * o) / u) line own
structure Tab where
  many : Nat
  lines : List (List Int)
  factors : List Int
  gains : List Int
  scale : Int
  wants : List Int
  unit : Int
  basis : List Nat
def Tab.line (t : Tab) (i : Nat) : List Int := t.lines.getD i []
def Tab.bas (t : Tab) (i : Nat) : Nat := t.basis.getD i 0
def Tab.own (t : Tab) (p q : Nat) : List Int := if ent (t.line p) q < 0 then (t.line p).map (fun x => -x) else t.line p
def Tab.head (t : Tab) (p q : Nat) : Int := ent (t.own p q) q
def Tab.turn (t : Tab) (p q : Nat) : Tab :=
  { t with
    lines := t.lines.mapIdx fun i l => if i = p then t.own p q else movedL t.unit l (t.own p q) (t.head p q) q
    gains := movedL t.unit t.gains (t.own p q) (t.head p q) q
    wants := movedL t.unit t.wants (t.own p q) (t.head p q) q
    unit := t.head p q
    basis := t.basis.set p q }
/-- the last entry -/
def lastE (l : List Int) : Int := ent l (l.length - 1)
def Tab.better (t : Tab) (q i b : Nat) : Bool :=
  decide (lastE (t.line i) * ent (t.line b) q < lastE (t.line b) * ent (t.line i) q) ||
    (decide (lastE (t.line i) * ent (t.line b) q = lastE (t.line b) * ent (t.line i) q) && decide (t.bas i < t.bas b))
def Tab.leaveStep (t : Tab) (q : Nat) (best : Option Nat) (i : Nat) : Option Nat :=
  if 0 < ent (t.line i) q then
    match best with
    | none => some i
    | some b => if t.better q i b = true then some i else some b
  else best
def Tab.leaveTo (t : Tab) (q n : Nat) : Option Nat := (List.range n).foldl (t.leaveStep q) none
def Tab.leaving (t : Tab) (q : Nat) : Option Nat := t.leaveTo q t.lines.length
def gainsL (row : List Int) (n : Nat) : List Nat := (List.range n).filter fun j => decide (0 < ent row j)

theorem leaveTo_succ (t : Tab) (q n : Nat) : t.leaveTo q (n + 1) = t.leaveStep q (t.leaveTo q n) n := by
  unfold Tab.leaveTo; rw [List.range_succ, List.foldl_append]; rfl

/-! the choice of the line that leaves -/
theorem leaving_none {t : Tab} {q : Nat} : ∀ n, t.leaveTo q n = none → ∀ i, i < n → ent (t.line i) q ≤ 0
  | 0, _ => fun i hi => by omega
  | n + 1, h => by
    rw [leaveTo_succ] at h
    unfold Tab.leaveStep at h
    split at h
    · split at h
      · cases h
      · split at h <;> cases h
    · rename_i hn
      intro i hi
      by_cases e : i = n
      · subst e; omega
      · exact leaving_none n h i (by omega)
/-- p is best among the first n -/
structure BestOf (t : Tab) (q n p : Nat) : Prop where
  lt : p < n
  pos : 0 < ent (t.line p) q
  all : ∀ i, i < n → 0 < ent (t.line i) q →
    lastE (t.line p) * ent (t.line i) q < lastE (t.line i) * ent (t.line p) q ∨
    (lastE (t.line p) * ent (t.line i) q = lastE (t.line i) * ent (t.line p) q ∧ t.bas p ≤ t.bas i)
theorem mul_lt_of {a b c d e f : Int} (hb : 0 < b) (hd : 0 < d) (hf : 0 < f) (h1 : a * d < c * b) (h2 : c * f ≤ e * d) : a * f < e * b := by
  -- a/b < c/d ≤ e/f
  have x1 : a * d * f < c * b * f := Int.mul_lt_mul_of_pos_right h1 hf
  have x2 : c * f * b ≤ e * d * b := Int.mul_le_mul_of_nonneg_right h2 (Int.le_of_lt hb)
  have x3 : (a * f) * d < (e * b) * d := by grind
  exact Int.lt_of_mul_lt_mul_right x3 (Int.le_of_lt hd)
theorem mul_lt_of2 {a b c d e f : Int} (hb : 0 < b) (hd : 0 < d) (h1 : a * d = c * b) (h2 : c * f < e * d) : a * f < e * b := by
  have x2 : c * f * b < e * d * b := Int.mul_lt_mul_of_pos_right h2 hb
  have x3 : (a * f) * d < (e * b) * d := by grind
  exact Int.lt_of_mul_lt_mul_right x3 (Int.le_of_lt hd)
theorem mul_le_of {a b c d e f : Int} (hb : 0 < b) (hd : 0 < d) (hf : 0 < f) (h1 : a * d = c * b) (h2 : c * f = e * d) : a * f = e * b := by
  have x3 : (a * f) * d = (e * b) * d := by grind
  exact Int.eq_of_mul_eq_mul_right (by omega) x3
theorem leaving_some {t : Tab} {q : Nat} : ∀ n {p}, t.leaveTo q n = some p → BestOf t q n p
  | 0, _, h => by cases h
  | n + 1, p, h => by
    rw [leaveTo_succ] at h
    unfold Tab.leaveStep at h
    split at h
    · rename_i hpos
      split at h
      · rename_i hnone
        cases h
        refine ⟨by omega, hpos, fun i hi hq => ?_⟩
        by_cases e : i = n
        · subst e; right; exact ⟨rfl, Nat.le_refl _⟩
        · have := leaving_none n hnone i (by omega); omega
      · rename_i b hb
        have B := leaving_some n hb
        split at h
        · rename_i hbet
          cases h
          refine ⟨by omega, hpos, fun i hi hq => ?_⟩
          by_cases e : i = n
          · subst e; right; exact ⟨rfl, Nat.le_refl _⟩
          · have hB := B.all i (by omega) hq
            unfold Tab.better at hbet
            rw [Bool.or_eq_true, Bool.and_eq_true, decide_eq_true_eq, decide_eq_true_eq, decide_eq_true_eq] at hbet
            rcases hbet with z | ⟨z, zb⟩
            · left
              rcases hB with w | ⟨w, _⟩
              · exact mul_lt_of hpos B.pos hq z (Int.le_of_lt w)
              · exact mul_lt_of hpos B.pos hq z (Int.le_of_eq w)
            · rcases hB with w | ⟨w, wb⟩
              · left
                exact mul_lt_of2 hpos B.pos z w
              · right
                exact ⟨mul_le_of hpos B.pos hq z w, by omega⟩
        · rename_i hbet
          cases h
          refine ⟨by have := B.lt; omega, B.pos, fun i hi hq => ?_⟩
          by_cases e : i = n
          · subst e
            unfold Tab.better at hbet
            rw [Bool.or_eq_true, Bool.and_eq_true, decide_eq_true_eq, decide_eq_true_eq, decide_eq_true_eq] at hbet
            rcases Int.lt_trichotomy (lastE (t.line i) * ent (t.line p) q) (lastE (t.line p) * ent (t.line i) q) with z | z | z
            · exact absurd (Or.inl z) hbet
            · right
              refine ⟨z.symm, ?_⟩
              refine Classical.byContradiction fun c => hbet (.inr ⟨z, by omega⟩)
            · left; exact z
          · exact B.all i (by omega) hq
    · rename_i hpos
      have B := leaving_some n h
      refine ⟨by have := B.lt; omega, B.pos, fun i hi hq => ?_⟩
      by_cases e : i = n
      · subst e; exact absurd hq hpos
      · exact B.all i (by omega) hq

/-! the first column that gains -/
theorem gainsL_nil {row : List Int} {n : Nat} (h : gainsL row n = []) : ∀ j, j < n → ent row j ≤ 0 := fun j hj => by
  refine Classical.byContradiction fun c => ?_
  have : j ∈ gainsL row n := List.mem_filter.mpr ⟨List.mem_range.mpr hj, decide_eq_true (by omega)⟩
  rw [h] at this; cases this
theorem head_filter_range (P : Nat → Bool) : ∀ (n q : Nat) (r : List Nat), (List.range n).filter P = q :: r → q < n ∧ P q = true ∧ ∀ j, j < q → P j = false
  | 0, q, r, h => by simp at h
  | n + 1, q, r, h => by
    rw [List.range_succ, List.filter_append] at h
    cases e : (List.range n).filter P with
    | cons a b =>
      rw [e, List.cons_append] at h
      cases h
      obtain ⟨h1, h2, h3⟩ := head_filter_range P n q b e
      exact ⟨by omega, h2, h3⟩
    | nil =>
      rw [e, List.nil_append] at h
      have hp : P n = true := by
        cases hp : P n with
        | true => rfl
        | false => simp [hp] at h
      simp [hp] at h
      obtain ⟨rfl, _⟩ := h
      refine ⟨by omega, hp, fun j hj => ?_⟩
      cases hpj : P j with
      | false => rfl
      | true =>
        have : j ∈ (List.range n).filter P := List.mem_filter.mpr ⟨List.mem_range.mpr hj, hpj⟩
        rw [e] at this; cases this
theorem gainsL_cons {row : List Int} {n q : Nat} {r : List Nat} (h : gainsL row n = q :: r) : q < n ∧ 0 < ent row q ∧ ∀ j, j < q → ent row j ≤ 0 := by
  obtain ⟨h1, h2, h3⟩ := head_filter_range _ n q r h
  refine ⟨h1, of_decide_eq_true h2, fun j hj => ?_⟩
  have := of_decide_eq_false (h3 j hj)
  omega

/-! ### the tableau by functions -/
def fsOf (t : Tab) : FS := ⟨fun i j => ent (t.line i) j, t.unit, t.bas⟩
/-- what holds of a tableau of m lines and N columns, M being its columns at first -/
structure Good (m N : Nat) (M : Nat → Nat → Int) (c hl : Nat → Int) (t : Tab) : Prop where
  many : t.many = N
  ln : t.lines.length = m
  lw : ∀ i, i < m → (t.line i).length = N + m + 1
  bn : t.basis.length = m
  gn : t.gains.length = N + m + 1
  wn : t.wants.length = N + m + 1
  inv : Inv m N M (fsOf t)
  g : ∀ j, j ≤ N + m → ent t.gains j = red m c (fsOf t) j
  w : ∀ j, j ≤ N + m → ent t.wants j = red m (fun k => - hl k) (fsOf t) j + t.unit * hl j

variable {m N : Nat} {M : Nat → Nat → Int} {c hl : Nat → Int}

theorem ent_moved {u : Int} {line own : List Int} {head : Int} {q j : Nat} (h1 : j < line.length) (h2 : j < own.length) : ent (movedL u line own head q) j = (ent line j * head - ent line q * ent own j) / u := by
  unfold movedL
  have : ∀ l : List Int, ∀ k, ent l k = (l[k]?).getD 0 := fun l k => List.getD_eq_getElem?_getD ..
  rw [this _ j, List.getElem?_zipWith, this line j, this own j, List.getElem?_eq_getElem h1, List.getElem?_eq_getElem h2]
  rfl
theorem ent_neg (l : List Int) (j : Nat) : ent (l.map fun x => -x) j = - ent l j := by
  unfold ent
  rw [List.getD_eq_getElem?_getD, List.getD_eq_getElem?_getD, List.getElem?_map]
  cases l[j]? <;> simp
theorem own_len (t : Tab) (p q : Nat) : (t.own p q).length = (t.line p).length := by unfold Tab.own; split <;> simp
theorem turn_line {t : Tab} {p q i : Nat} (hi : i < t.lines.length) : (t.turn p q).line i = if i = p then t.own p q else movedL t.unit (t.line i) (t.own p q) (t.head p q) q := by
  unfold Tab.turn Tab.line
  dsimp only
  rw [List.getD_eq_getElem?_getD, List.getElem?_mapIdx, List.getD_eq_getElem?_getD, List.getElem?_eq_getElem hi]
  rfl
theorem turn_bas {t : Tab} {p q i : Nat} (hp : p < t.basis.length) : (t.turn p q).bas i = if i = p then q else t.bas i := by
  unfold Tab.turn Tab.bas
  dsimp only
  rw [List.getD_eq_getElem?_getD, List.getElem?_set, List.getD_eq_getElem?_getD]
  by_cases e : p = i
  · subst e; simp [hp]
  · simp [e, Ne.symm e]
/-- the sign of the turn -/
def tsgn (t : Tab) (p q : Nat) : Int := if ent (t.line p) q < 0 then -1 else 1
theorem ent_own (t : Tab) (p q j : Nat) : ent (t.own p q) j = tsgn t p q * ent (t.line p) j := by
  unfold Tab.own tsgn; split
  · rw [ent_neg]; omega
  · omega
theorem Good.pivot {t : Tab} {p q : Nat} (G : Good m N M c hl t) (hp : p < m) (hq : q < N) (h0 : ent (t.line p) q ≠ 0) : Pivot m N (fsOf t) (fsOf (t.turn p q)) p q (tsgn t p q) := by
  have hh : t.head p q = tsgn t p q * ent (t.line p) q := ent_own t p q q
  have hpos : 0 < t.head p q := by rw [hh]; unfold tsgn; split <;> omega
  refine ⟨by unfold tsgn; split <;> simp, hh, hpos, ?_, fun i hi hne => ?_, fun j hj => ?_, fun i hi hne j hj => ?_⟩
  · show (t.turn p q).bas p = q
    rw [turn_bas (by rw [G.bn]; exact hp), if_pos rfl]
  · show (t.turn p q).bas i = t.bas i
    rw [turn_bas (by rw [G.bn]; exact hp), if_neg hne]
  · show ent ((t.turn p q).line p) j = _
    rw [turn_line (by rw [G.ln]; exact hp), if_pos rfl, ent_own]; rfl
  · show ent ((t.turn p q).line i) j = _
    rw [turn_line (by rw [G.ln]; exact hi), if_neg hne, ent_moved (by rw [G.lw i hi]; omega) (by rw [own_len, G.lw p hp]; omega), ent_own]
    rfl
theorem moved_len {u : Int} {line own : List Int} {head : Int} {q : Nat} : (movedL u line own head q).length = min line.length own.length := by
  unfold movedL; rw [List.length_zipWith]
theorem Good.turn {t : Tab} {p q : Nat} (hhl : ∀ k, k < N → hl k = 0) (G : Good m N M c hl t) (hp : p < m) (hq : q < N) (h0 : ent (t.line p) q ≠ 0) : Good m N M c hl (t.turn p q) := by
  have P := G.pivot hp hq h0
  have hqm : q < N + m := Nat.lt_of_lt_of_le hq (Nat.le_add_right _ _)
  have u0 : t.unit ≠ 0 := by have : 0 < t.unit := G.inv.pos; omega
  refine ⟨G.many, ?_, fun i hi => ?_, ?_, ?_, ?_, G.inv.pivot P hp hqm, fun j hj => ?_, fun j hj => ?_⟩
  · show (t.lines.mapIdx _).length = m
    rw [List.length_mapIdx, G.ln]
  · rw [turn_line (by rw [G.ln]; exact hi)]
    split
    · rw [own_len, G.lw p hp]
    · rw [moved_len, own_len, G.lw p hp, G.lw i hi]; omega
  · show (t.basis.set p q).length = m
    rw [List.length_set, G.bn]
  · show (movedL _ _ _ _ _).length = _
    rw [moved_len, own_len, G.lw p hp, G.gn]; omega
  · show (movedL _ _ _ _ _).length = _
    rw [moved_len, own_len, G.lw p hp, G.wn]; omega
  · show ent (movedL t.unit t.gains (t.own p q) (t.head p q) q) j = _
    rw [ent_moved (by rw [G.gn]; omega) (by rw [own_len, G.lw p hp]; omega), G.g j hj, G.g q (by omega), ent_own]
    have e := red_pivot G.inv P hp hqm c hj
    have e2 : red m c (fsOf t) j * t.head p q - red m c (fsOf t) q * (tsgn t p q * ent (t.line p) j) = red m c (fsOf (t.turn p q)) j * t.unit := e.symm
    rw [e2, Int.mul_ediv_cancel _ u0]
  · show ent (movedL t.unit t.wants (t.own p q) (t.head p q) q) j = _
    rw [ent_moved (by rw [G.wn]; omega) (by rw [own_len, G.lw p hp]; omega), G.w j hj, G.w q (by omega), ent_own, hhl q hq]
    have e : red m (fun k => - hl k) (fsOf (t.turn p q)) j * t.unit = red m (fun k => - hl k) (fsOf t) j * t.head p q - red m (fun k => - hl k) (fsOf t) q * (tsgn t p q * ent (t.line p) j) := red_pivot G.inv P hp hqm (fun k => - hl k) hj
    have e2 : (red m (fun k => - hl k) (fsOf t) j + t.unit * hl j) * t.head p q - (red m (fun k => - hl k) (fsOf t) q + t.unit * 0) * (tsgn t p q * ent (t.line p) j) = (red m (fun k => - hl k) (fsOf (t.turn p q)) j + t.head p q * hl j) * t.unit := by grind
    rw [e2, Int.mul_ediv_cancel _ u0]
    rfl

/-! ### climbing -/
inductive Climbs (row : Tab → List Int) : Nat → Tab → Tab → Option Nat → Prop
  | done {t : Tab} : gainsL (row t) t.many = [] → Climbs row 0 t t none
  | free {t : Tab} {q : Nat} {r : List Nat} : gainsL (row t) t.many = q :: r → t.leaving q = none → Climbs row 0 t t (some q)
  | turn {t t' : Tab} {n q p : Nat} {r : List Nat} {o : Option Nat} : gainsL (row t) t.many = q :: r → t.leaving q = some p → Climbs row n (t.turn p q) t' o → Climbs row (n + 1) t t' o

/-- right-hand sides from 0 on -/
def FeasT (m N : Nat) (t : Tab) : Prop := Feas m N (fsOf t)

theorem Good.lastE {t : Tab} (G : Good m N M c hl t) {i : Nat} (hi : i < m) : LP.lastE (t.line i) = ent (t.line i) (N + m) := by
  unfold LP.lastE; rw [G.lw i hi]; rfl
/-- a turn that climbs is a step of Bland's -/
theorem Good.step {t : Tab} {p q : Nat} {cc : Nat → Int} {row : List Int} {r : List Nat} (G : Good m N M c hl t) (hrow : ∀ j, j < N → ent row j = red m cc (fsOf t) j) (hg : gainsL row t.many = q :: r) (hl' : t.leaving q = some p) :
    Step m N cc (fsOf t) (fsOf (t.turn p q)) p q := by
  have B := leaving_some t.lines.length hl'
  rw [G.ln] at B
  rw [G.many] at hg
  obtain ⟨h1, h2, h3⟩ := gainsL_cons hg
  have hs : tsgn t p q = 1 := by unfold tsgn; rw [if_neg (by have := B.pos; omega)]
  have P := G.pivot B.lt h1 (by have := B.pos; omega)
  rw [hs] at P
  refine ⟨P, B.lt, h1, by rw [← hrow q h1]; exact h2, fun j hj => by rw [← hrow j (by omega)]; exact h3 j hj, fun i hi hT => ?_⟩
  have := B.all i hi hT
  rw [G.lastE hi, G.lastE B.lt] at this
  exact this
theorem Climbs.keep {row : Tab → List Int} {n : Nat} {t t' : Tab} {o : Option Nat} (C : Climbs row n t t' o) (R : Tab → Prop)
    (hs : ∀ t p q r, R t → gainsL (row t) t.many = q :: r → t.leaving q = some p → R (t.turn p q)) (h : R t) : R t' := by
  induction C with
  | done _ => exact h
  | free _ _ => exact h
  | turn h1 h2 _ ih => exact ih (hs _ _ _ _ h h1 h2)
theorem Climbs.ends {row : Tab → List Int} {n : Nat} {t t' : Tab} {o : Option Nat} (C : Climbs row n t t' o) :
    (o = none ∧ gainsL (row t') t'.many = []) ∨ ∃ q r, o = some q ∧ gainsL (row t') t'.many = q :: r ∧ t'.leaving q = none := by
  induction C with
  | done h => exact .inl ⟨rfl, h⟩
  | free h1 h2 => exact .inr ⟨_, _, rfl, h1, h2⟩
  | turn _ _ _ ih => exact ih
/-- what is kept while it climbs, and that it comes to an end -/
theorem climb_ends {row : Tab → List Int} {cc : Nat → Int} (hcc : cc (N + m) = 0) (R : Tab → Prop) (hG : ∀ t, R t → Good m N M c hl t ∧ FeasT m N t ∧ ∀ j, j < N → ent (row t) j = red m cc (fsOf t) j)
    (hs : ∀ t p q r, R t → gainsL (row t) t.many = q :: r → t.leaving q = some p → R (t.turn p q)) {t : Tab} (h : R t) : ∃ n t' o, Climbs row n t t' o := by
  refine Classical.byContradiction fun no => ?_
  -- the turn that comes next
  let nxt : Tab → Tab × Nat × Nat := fun t => match gainsL (row t) t.many with
    | [] => (t, 0, 0)
    | q :: _ => match t.leaving q with
      | none => (t, 0, 0)
      | some p => (t.turn p q, p, q)
  let S : Nat → Tab := fun k => Nat.rec t (fun _ s => (nxt s).1) k
  have hS : ∀ k, S (k + 1) = (nxt (S k)).1 := fun _ => rfl
  have stuck : ∀ k, R (S k) ∧ ¬ ∃ n t' o, Climbs row n (S k) t' o := fun k => by
    induction k with
    | zero => exact ⟨h, no⟩
    | succ k ih =>
      obtain ⟨hR, hno⟩ := ih
      rw [hS]
      show R (nxt (S k)).1 ∧ ¬ ∃ n t' o, Climbs row n (nxt (S k)).1 t' o
      dsimp only [nxt]
      cases e : gainsL (row (S k)) (S k).many with
      | nil => exact absurd ⟨0, _, _, .done e⟩ hno
      | cons q r =>
        dsimp only
        cases e2 : (S k).leaving q with
        | none => exact absurd ⟨0, _, _, .free e e2⟩ hno
        | some p =>
          dsimp only
          exact ⟨hs _ p q r hR e e2, fun ⟨n, t', o, C⟩ => hno ⟨n + 1, t', o, .turn e e2 C⟩⟩
  refine bland (c := cc) (S := fun k => fsOf (S k)) (sp := fun k => (nxt (S k)).2.1) (at_ := fun k => (nxt (S k)).2.2) hcc (fun k => (hG _ (stuck k).1).1.inv) (fun k => (hG _ (stuck k).1).2.1) fun k => ?_
  obtain ⟨hR, hno⟩ := stuck k
  obtain ⟨G, F, hrow⟩ := hG _ hR
  rw [hS]
  dsimp only [nxt]
  cases e : gainsL (row (S k)) (S k).many with
  | nil => exact absurd ⟨0, _, _, .done e⟩ hno
  | cons q r =>
    dsimp only
    cases e2 : (S k).leaving q with
    | none => exact absurd ⟨0, _, _, .free e e2⟩ hno
    | some p =>
      dsimp only
      exact G.step hrow e e2
end LP
end

section
set_option autoImplicit false
namespace LP

/-! ### sums of ratios -/
def sumQ (n : Nat) (f : Nat → Rat) : Rat := match n with
  | 0 => 0
  | n + 1 => sumQ n f + f n
theorem sumQ_congr {n : Nat} {f g : Nat → Rat} (h : ∀ i, i < n → f i = g i) : sumQ n f = sumQ n g := by
  induction n with
  | zero => rfl
  | succ n ih => simp only [sumQ]; rw [ih (fun i hi => h i (by omega)), h n (by omega)]
theorem sumQ_add (n : Nat) (f g : Nat → Rat) : sumQ n (fun i => f i + g i) = sumQ n f + sumQ n g := by
  induction n with
  | zero => simp only [sumQ]; grind
  | succ n ih => simp only [sumQ, ih]; grind
theorem sumQ_mul (n : Nat) (a : Rat) (f : Nat → Rat) : sumQ n (fun i => a * f i) = a * sumQ n f := by
  induction n with
  | zero => simp only [sumQ]; grind
  | succ n ih => simp only [sumQ, ih]; grind
theorem sumQ_zero' {n : Nat} {f : Nat → Rat} (h : ∀ i, i < n → f i = 0) : sumQ n f = 0 := by
  induction n with
  | zero => rfl
  | succ n ih => simp only [sumQ]; rw [ih (fun i hi => h i (by omega)), h n (by omega)]; grind
theorem sumQ_single {n k : Nat} {f : Nat → Rat} (hk : k < n) (h : ∀ i, i < n → i ≠ k → f i = 0) : sumQ n f = f k := by
  induction n with
  | zero => omega
  | succ n ih =>
    simp only [sumQ]
    by_cases e : k = n
    · subst e
      rw [sumQ_zero' (fun i hi => h i (by omega) (by omega))]; grind
    · rw [ih (by omega) (fun i hi hne => h i (by omega) hne), h n (by omega) (by omega)]; grind
theorem sumQ_comm (n m : Nat) (f : Nat → Nat → Rat) : sumQ n (fun i => sumQ m (fun j => f i j)) = sumQ m (fun j => sumQ n (fun i => f i j)) := by
  induction n with
  | zero => simp only [sumQ]; rw [sumQ_zero' (fun _ _ => rfl)]
  | succ n ih => simp only [sumQ, ih, sumQ_add]
theorem sumQ_le {n : Nat} {f g : Nat → Rat} (h : ∀ i, i < n → f i ≤ g i) : sumQ n f ≤ sumQ n g := by
  induction n with
  | zero => exact Rat.le_refl
  | succ n ih => simp only [sumQ]; have := ih (fun i hi => h i (by omega)); have := h n (by omega); grind
theorem sumQ_nonneg {n : Nat} {f : Nat → Rat} (h : ∀ i, i < n → 0 ≤ f i) : 0 ≤ sumQ n f := by
  induction n with
  | zero => exact Rat.le_refl
  | succ n ih => simp only [sumQ]; have := ih (fun i hi => h i (by omega)); have := h n (by omega); grind
theorem sumQ_cast (n : Nat) (f : Nat → Int) : ((sumI n f : Int) : Rat) = sumQ n fun i => (f i : Rat) := by
  induction n with
  | zero => rfl
  | succ n ih => simp only [sumI, sumQ, Rat.intCast_add, ih]
/-- a sum by one term changed -/
theorem sumQ_change {n k : Nat} {f g : Nat → Rat} (hk : k < n) (h : ∀ i, i < n → i ≠ k → g i = f i) : sumQ n g = sumQ n f + (g k - f k) := by
  have e : sumQ n g = sumQ n fun i => f i + (if i = k then g k - f k else 0) := sumQ_congr fun i hi => by
    by_cases q : i = k
    · subst q; rw [if_pos rfl]; grind
    · rw [if_neg q, h i hi q]; grind
  rw [e, sumQ_add, sumQ_single (f := fun i => if i = k then _ else _) hk (fun i _ q => by rw [if_neg q]), if_pos rfl]

/-! ### weights set one behind the other -/
def at0 (l : List Rat) (k : Nat) : Rat := l.getD k 0
theorem at0_rep (n k : Nat) : at0 (List.replicate n 0) k = 0 := by
  unfold at0; rw [List.getD_eq_getElem?_getD, List.getElem?_replicate]; split <;> rfl
def setFold (N : Nat) (b : Nat → Nat) (v : Nat → Rat) (f0 : List Rat) (n : Nat) : List Rat :=
  (List.range n).foldl (fun f i => if b i < N then f.set (b i) (v i) else f) f0
theorem setFold_succ (N : Nat) (b : Nat → Nat) (v : Nat → Rat) (f0 : List Rat) (n : Nat) :
    setFold N b v f0 (n + 1) = if b n < N then (setFold N b v f0 n).set (b n) (v n) else setFold N b v f0 n := by
  unfold setFold; rw [List.range_succ, List.foldl_append]; rfl
theorem setFold_len (N : Nat) (b : Nat → Nat) (v : Nat → Rat) (f0 : List Rat) : ∀ n, (setFold N b v f0 n).length = f0.length
  | 0 => rfl
  | n + 1 => by rw [setFold_succ]; split <;> simp [setFold_len N b v f0 n]
theorem at0_set {l : List Rat} {k i : Nat} {x : Rat} (hk : k < l.length) : at0 (l.set k x) i = if i = k then x else at0 l i := by
  unfold at0
  rw [List.getD_eq_getElem?_getD, List.getElem?_set, List.getD_eq_getElem?_getD]
  by_cases e : k = i
  · subst e; simp [hk]
  · simp [e, Ne.symm e]
theorem setFold_off {N : Nat} {b : Nat → Nat} {v : Nat → Rat} {f0 : List Rat} (hl : f0.length = N) {k : Nat} : ∀ n, (∀ i, i < n → b i ≠ k) → at0 (setFold N b v f0 n) k = at0 f0 k
  | 0, _ => rfl
  | n + 1, h => by
    rw [setFold_succ]
    split
    · rename_i hb
      rw [at0_set (by rw [setFold_len, hl]; exact hb), if_neg (Ne.symm (h n (by omega))), setFold_off hl n fun i hi => h i (by omega)]
    · exact setFold_off hl n fun i hi => h i (by omega)
theorem setFold_sum {N : Nat} {b : Nat → Nat} {v : Nat → Rat} {f0 : List Rat} (a : Nat → Rat) (hl : f0.length = N) : ∀ n, (∀ i j, i < n → j < n → b i = b j → i = j) → (∀ i, i < n → b i < N → at0 f0 (b i) = 0) →
    sumQ N (fun k => at0 (setFold N b v f0 n) k * a k) = sumQ N (fun k => at0 f0 k * a k) + sumQ n fun i => if b i < N then v i * a (b i) else 0
  | 0, _, _ => by simp only [sumQ, setFold, List.range_zero, List.foldl_nil]; grind
  | n + 1, inj, z => by
    have ih := setFold_sum (v := v) a hl n (fun i j hi hj e => inj i j (by omega) (by omega) e) (fun i hi hb => z i (by omega) hb)
    simp only [sumQ]
    rw [setFold_succ]
    by_cases hb : b n < N
    · rw [if_pos hb, if_pos hb]
      have off : at0 (setFold N b v f0 n) (b n) = 0 := by
        rw [setFold_off hl n fun i hi e => by have := inj i n (by omega) (by omega) e; omega]
        exact z n (by omega) hb
      have hlen : b n < (setFold N b v f0 n).length := by rw [setFold_len, hl]; exact hb
      rw [sumQ_change (k := b n) (f := fun k => at0 (setFold N b v f0 n) k * a k) hb fun i hi hne => by rw [at0_set hlen, if_neg hne]]
      rw [at0_set hlen, if_pos rfl, off, ih]
      grind
    · rw [if_neg hb, if_neg hb, ih]; grind
theorem setFold_nonneg {N : Nat} {b : Nat → Nat} {v : Nat → Rat} {f0 : List Rat} (hl : f0.length = N) (h0 : ∀ k, 0 ≤ at0 f0 k) : ∀ n, (∀ i, i < n → b i < N → 0 ≤ v i) → ∀ k, 0 ≤ at0 (setFold N b v f0 n) k
  | 0, _, k => h0 k
  | n + 1, h, k => by
    rw [setFold_succ]
    split
    · rename_i hb
      rw [at0_set (by rw [setFold_len, hl]; exact hb)]
      split
      · exact h n (by omega) hb
      · exact setFold_nonneg hl h0 n (fun i hi => h i (by omega)) k
    · exact setFold_nonneg hl h0 n (fun i hi => h i (by omega)) k

/-! ### what a tableau tells -/
def quo (a b : Int) : Rat := (a : Rat) / (b : Rat)
def Tab.weights (t : Tab) : List Rat := setFold t.many t.bas (fun i => quo (lastE (t.line i)) t.unit) (List.replicate t.many 0) t.basis.length
def Tab.ray (t : Tab) (q : Nat) : List Rat := setFold t.many t.bas (fun i => quo (- ent (t.line i) q) t.unit) ((List.replicate t.many (0 : Rat)).set q 1) t.basis.length
def pricesL (t : Tab) (line : List Int) (scale : Int) : List Rat := t.factors.mapIdx fun i f => quo (- ent line (t.many + i) * f) (t.unit * scale)

/-- the program: A k r the limits' rows, bd their bounds, g the goal; f the factors -/
structure Told (m N : Nat) (M : Nat → Nat → Int) (c hl : Nat → Int) (A : Nat → Nat → Rat) (bd g : Nat → Rat) (f : Nat → Int) (sc : Int) : Prop where
  helped : Helped m N M
  fne : ∀ r, r < m → f r ≠ 0
  scp : 0 < sc
  mA : ∀ k, k < N → ∀ r, r < m → (M k r : Rat) = f r * A k r
  mg : ∀ r, r < m → (M (N + m) r : Rat) = f r * g r
  cb : ∀ k, k < N → (c k : Rat) = sc * bd k
  c0 : ∀ k, N ≤ k → c k = 0
  hl0 : ∀ k, k < N → hl k = 0
  hl1 : ∀ k, N ≤ k → k < N + m → hl k = 1
  hl2 : hl (N + m) = 0
variable {m N : Nat} {M : Nat → Nat → Int} {c hl : Nat → Int} {A : Nat → Nat → Rat} {bd g : Nat → Rat} {f : Nat → Int} {sc : Int}

theorem cast_ne {a : Int} (h : a ≠ 0) : (a : Rat) ≠ 0 := by exact_mod_cast h
theorem cast_pos {a : Int} (h : 0 < a) : (0 : Rat) < (a : Rat) := by exact_mod_cast h
theorem quo_nonneg {a b : Int} (ha : 0 ≤ a) (hb : 0 < b) : 0 ≤ quo a b := div_nn (by exact_mod_cast ha) (cast_pos hb)

/-- helper lines are 0 in the columns and on the right -/
structure Clean (m N : Nat) (t : Tab) : Prop where
  rhs : ∀ i, i < m → N ≤ t.bas i → ent (t.line i) (N + m) = 0
  cols : ∀ i, i < m → N ≤ t.bas i → ∀ j, j < N → ent (t.line i) j = 0

theorem Good.wsum {t : Tab} (G : Good m N M c hl t) {j : Nat} (hj : j ≤ N + m) : ent t.wants j = sumI m fun i => hl (t.bas i) * ent (t.line i) j := by
  rw [G.w j hj]
  unfold red
  have e : (sumI m fun i => - hl ((fsOf t).b i) * (fsOf t).T i j) = - sumI m fun i => hl (t.bas i) * ent (t.line i) j := by
    have := sumI_mul m (-1) (fun i => hl (t.bas i) * ent (t.line i) j)
    rw [show (-1 : Int) * (sumI m fun i => hl (t.bas i) * ent (t.line i) j) = - sumI m fun i => hl (t.bas i) * ent (t.line i) j by omega] at this
    rw [← this]
    exact sumI_congr fun i _ => by show - hl (t.bas i) * ent (t.line i) j = _; grind
  rw [e]
  show t.unit * - hl j - - (sumI m fun i => hl (t.bas i) * ent (t.line i) j) + t.unit * hl j = _
  grind

/-- any line that is a sum of lines, by the helpers -/
theorem Good.byHelp {t : Tab} (T : Told m N M c hl A bd g f sc) (G : Good m N M c hl t) (w : Nat → Int) {j : Nat} (hj : j ≤ N + m) :
    (sumI m fun i => w i * ent (t.line i) j) = sumI m fun k => M j k * sumI m fun i => w i * ent (t.line i) (N + k) := by
  have e : (sumI m fun i => w i * ent (t.line i) j) = sumI m fun i => sumI m fun k => w i * (M j k * ent (t.line i) (N + k)) := by
    refine sumI_congr fun i hi => ?_
    have := G.inv.help T.helped hi hj
    rw [sumI_mul]
    exact congrArg (w i * ·) this
  rw [e, sumI_comm]
  refine sumI_congr fun k _ => ?_
  rw [← sumI_mul]
  exact sumI_congr fun i _ => by grind

theorem Good.wneg {t : Tab} (T : Told m N M c hl A bd g f sc) (G : Good m N M c hl t) {j : Nat} (hj : j ≤ N + m) :
    ent t.wants j = sumI m fun k => M j k * ent t.wants (N + k) := by
  rw [G.wsum hj, G.byHelp T _ hj]
  exact sumI_congr fun k hk => by rw [G.wsum (by omega)]
theorem Good.gneg {t : Tab} (T : Told m N M c hl A bd g f sc) (G : Good m N M c hl t) {j : Nat} (hj : j ≤ N + m) :
    ent t.gains j - t.unit * c j = sumI m fun k => M j k * ent t.gains (N + k) := by
  have e : ∀ j, j ≤ N + m → ent t.gains j - t.unit * c j = - sumI m fun i => c (t.bas i) * ent (t.line i) j := fun j hj => by
    rw [G.g j hj]; unfold red
    show t.unit * c j - (sumI m fun i => c (t.bas i) * ent (t.line i) j) - t.unit * c j = _
    omega
  rw [e j hj, G.byHelp T _ hj]
  have e2 : ∀ F : Nat → Int, - sumI m F = sumI m fun i => - F i := fun F => by
    have := sumI_mul m (-1) F
    simp only [Int.neg_mul, Int.one_mul] at this
    exact this.symm
  rw [e2]
  refine sumI_congr fun k hk => ?_
  have := e (N + k) (by omega)
  rw [T.c0 _ (by omega)] at this
  grind

theorem at0_mapIdx {F : Nat → Int → Rat} {fs : List Int} {i : Nat} (hi : i < fs.length) : at0 (fs.mapIdx F) i = F i (fs.getD i 0) := by
  unfold at0
  rw [List.getD_eq_getElem?_getD, List.getElem?_mapIdx, List.getD_eq_getElem?_getD, List.getElem?_eq_getElem hi]; rfl

/-- the factors of a tableau -/
structure Facts (m : Nat) (f : Nat → Int) (t : Tab) : Prop where
  len : t.factors.length = m
  val : ∀ i, i < m → t.factors.getD i 0 = f i

/-- a ray that shows that there are no prices -/
theorem ray_of {t : Tab} (T : Told m N M c hl A bd g f sc) (G : Good m N M c hl t) (Fs : Facts m f t) (F : FeasT m N t) (h : ∀ j, j < N → ent t.wants j ≤ 0) (hne : ent t.wants (N + m) ≠ 0) :
    (∀ k, k < N → 0 ≤ sumQ m fun r => A k r * at0 (pricesL t t.wants 1) r) ∧ (sumQ m fun r => g r * at0 (pricesL t t.wants 1) r) < 0 := by
  have up : 0 < t.unit := G.inv.pos
  have u0 : (t.unit : Rat) ≠ 0 := cast_ne (by omega)
  have val : ∀ r, r < m → at0 (pricesL t t.wants 1) r = - (ent t.wants (N + r) : Rat) * f r / t.unit := fun r hr => by
    unfold pricesL
    rw [at0_mapIdx (by rw [Fs.len]; exact hr), Fs.val r hr, G.many]
    unfold quo
    rw [Int.mul_one, Rat.intCast_mul, Rat.intCast_neg]
  have sum : ∀ (j : Nat) (B : Nat → Rat), j ≤ N + m → (∀ r, r < m → (M j r : Rat) = f r * B r) → (sumQ m fun r => B r * at0 (pricesL t t.wants 1) r) = - (ent t.wants j : Rat) / t.unit := fun j B hj hB => by
    rw [G.wneg T hj, sumQ_cast]
    have e : (sumQ m fun r => B r * at0 (pricesL t t.wants 1) r) = sumQ m fun r => (- 1 / (t.unit : Rat)) * ((M j r * ent t.wants (N + r) : Int) : Rat) := sumQ_congr fun r hr => by
      rw [val r hr, Rat.intCast_mul, hB r hr]; grind
    rw [e, sumQ_mul]; grind
  refine ⟨fun k hk => ?_, ?_⟩
  · rw [sum k (A k) (by omega) (T.mA k hk)]
    have := h k hk
    have h2 : (0 : Rat) ≤ ((- ent t.wants k : Int) : Rat) := by exact_mod_cast (by omega : 0 ≤ - ent t.wants k)
    rw [Rat.intCast_neg] at h2
    exact div_nn h2 (cast_pos up)
  · rw [sum (N + m) g (Nat.le_refl _) T.mg]
    have nn : 0 ≤ ent t.wants (N + m) := by
      rw [G.wsum (Nat.le_refl _)]
      refine sumI_nonneg fun i hi => Int.mul_nonneg ?_ (F i hi)
      by_cases q : t.bas i < N
      · rw [T.hl0 _ q]; omega
      · rw [T.hl1 _ (by omega) (show t.bas i < N + m from G.inv.rng i hi)]; omega
    have h2 : (0 : Rat) < ((ent t.wants (N + m) : Int) : Rat) := cast_pos (by omega)
    have h3 : 0 < ((ent t.wants (N + m) : Int) : Rat) / t.unit := by
      rw [Rat.div_def]; exact Rat.mul_pos h2 (Rat.inv_pos.mpr (cast_pos up))
    grind

/-- prices and a point that show the least -/
theorem best_of {t : Tab} (T : Told m N M c hl A bd g f sc) (G : Good m N M c hl t) (Fs : Facts m f t) (F : FeasT m N t) (C : Clean m N t) (h : ∀ j, j < N → ent t.gains j ≤ 0) :
    (∀ k, k < N → bd k ≤ sumQ m fun r => A k r * at0 (pricesL t t.gains sc) r) ∧ (∀ k, 0 ≤ at0 t.weights k) ∧ (∀ r, r < m → (sumQ N fun k => at0 t.weights k * A k r) = g r) ∧
    (sumQ m fun r => g r * at0 (pricesL t t.gains sc) r) = sumQ N fun k => at0 t.weights k * bd k := by
  have up : 0 < t.unit := G.inv.pos
  have u0 : (t.unit : Rat) ≠ 0 := cast_ne (by omega)
  have s0 : (sc : Rat) ≠ 0 := cast_ne (by have := T.scp; omega)
  have val : ∀ r, r < m → at0 (pricesL t t.gains sc) r = - (ent t.gains (N + r) : Rat) * f r / (t.unit * sc) := fun r hr => by
    unfold pricesL
    rw [at0_mapIdx (by rw [Fs.len]; exact hr), Fs.val r hr, G.many]
    unfold quo
    rw [Rat.intCast_mul, Rat.intCast_neg, Rat.intCast_mul]
  have sum : ∀ (j : Nat) (B : Nat → Rat), j ≤ N + m → (∀ r, r < m → (M j r : Rat) = f r * B r) → (sumQ m fun r => B r * at0 (pricesL t t.gains sc) r) = - ((ent t.gains j - t.unit * c j : Int) : Rat) / (t.unit * sc) := fun j B hj hB => by
    rw [G.gneg T hj, sumQ_cast]
    have e : (sumQ m fun r => B r * at0 (pricesL t t.gains sc) r) = sumQ m fun r => (- 1 / ((t.unit : Rat) * sc)) * ((M j r * ent t.gains (N + r) : Int) : Rat) := sumQ_congr fun r hr => by
      rw [val r hr, Rat.intCast_mul, hB r hr]; grind
    rw [e, sumQ_mul]; grind
  have bl : t.basis.length = m := G.bn
  have inj : ∀ i j, i < m → j < m → t.bas i = t.bas j → i = j := fun i j hi hj e => G.inv.inj hi hj e
  have wsum : ∀ a : Nat → Rat, (sumQ N fun k => at0 t.weights k * a k) = sumQ m fun i => if t.bas i < N then quo (lastE (t.line i)) t.unit * a (t.bas i) else 0 := fun a => by
    unfold Tab.weights
    rw [bl, G.many, setFold_sum a (by rw [List.length_replicate]) m inj fun i _ _ => at0_rep N _]
    rw [sumQ_zero' (n := N) (f := fun k => at0 (List.replicate N 0) k * a k) fun k _ => by rw [at0_rep]; grind]
    grind
  refine ⟨fun k hk => ?_, fun k => ?_, fun r hr => ?_, ?_⟩
  · rw [sum k (A k) (by omega) (T.mA k hk)]
    have h1 := h k hk
    have h2 : (0 : Rat) ≤ ((- ent t.gains k : Int) : Rat) := by exact_mod_cast (by omega : 0 ≤ - ent t.gains k)
    have h3 : 0 ≤ ((- ent t.gains k : Int) : Rat) / (t.unit * sc) := div_nn h2 (Rat.mul_pos (cast_pos up) (cast_pos T.scp))
    rw [Rat.intCast_sub, Rat.intCast_mul, T.cb k hk]
    rw [Rat.intCast_neg] at h3
    have e : - ((ent t.gains k : Rat) - t.unit * (sc * bd k)) / (t.unit * sc) = - (ent t.gains k : Rat) / (t.unit * sc) + bd k := by grind
    rw [e]; grind
  · unfold Tab.weights
    refine setFold_nonneg (by rw [List.length_replicate]) (fun k => by rw [at0_rep]; exact Rat.le_refl) _ (fun i hi _ => ?_) k
    · rw [bl] at hi
      rw [G.lastE hi]
      exact quo_nonneg (F i hi) up
  · rw [wsum]
    have hc := G.inv.comb (N + m) (Nat.le_refl _) r hr
    have f0 : (f r : Rat) ≠ 0 := cast_ne (T.fne r hr)
    have e : ((t.unit * M (N + m) r : Int) : Rat) = sumQ m fun i => ((ent (t.line i) (N + m) * M (t.bas i) r : Int) : Rat) := by
      rw [← sumQ_cast]; exact congrArg _ hc
    have e2 : (sumQ m fun i => if t.bas i < N then quo (lastE (t.line i)) t.unit * A (t.bas i) r else 0) = sumQ m fun i => (1 / ((t.unit : Rat) * f r)) * ((ent (t.line i) (N + m) * M (t.bas i) r : Int) : Rat) := sumQ_congr fun i hi => by
      by_cases q : t.bas i < N
      · rw [if_pos q, G.lastE hi, Rat.intCast_mul, T.mA _ q r hr]; unfold quo; grind
      · rw [if_neg q, C.rhs i hi (by omega)]; simp
    rw [e2, sumQ_mul, ← e, Rat.intCast_mul, T.mg r hr]
    grind
  · rw [sum (N + m) g (Nat.le_refl _) T.mg, wsum, T.c0 _ (by omega), Int.mul_zero, Int.sub_zero]
    have hg := G.g (N + m) (Nat.le_refl _)
    rw [hg]
    unfold red
    rw [T.c0 _ (by omega), Int.mul_zero]
    have e : ((0 - sumI m fun i => c ((fsOf t).b i) * (fsOf t).T i (N + m) : Int) : Rat) = - sumQ m fun i => ((c (t.bas i) * ent (t.line i) (N + m) : Int) : Rat) := by
      rw [Rat.intCast_sub, sumQ_cast]
      show ((0 : Int) : Rat) - (sumQ m fun i => ((c (t.bas i) * ent (t.line i) (N + m) : Int) : Rat)) = _
      have : ((0 : Int) : Rat) = 0 := rfl
      grind
    rw [e]
    have e2 : (sumQ m fun i => if t.bas i < N then quo (lastE (t.line i)) t.unit * bd (t.bas i) else 0) = sumQ m fun i => (1 / ((t.unit : Rat) * sc)) * ((c (t.bas i) * ent (t.line i) (N + m) : Int) : Rat) := sumQ_congr fun i hi => by
      by_cases q : t.bas i < N
      · rw [if_pos q, G.lastE hi, Rat.intCast_mul, T.cb _ q]; unfold quo; grind
      · rw [if_neg q, C.rhs i hi (by omega)]; simp
    rw [e2, sumQ_mul]; grind

/-- weights that show that no point is within -/
theorem empty_of {t : Tab} {q : Nat} (T : Told m N M c hl A bd g f sc) (G : Good m N M c hl t) (C : Clean m N t) (hq : q < N) (h : 0 < ent t.gains q) (hl' : ∀ i, i < m → ent (t.line i) q ≤ 0) :
    (∀ k, 0 ≤ at0 (t.ray q) k) ∧ (∀ r, r < m → (sumQ N fun k => at0 (t.ray q) k * A k r) = 0) ∧ 0 < sumQ N fun k => at0 (t.ray q) k * bd k := by
  have up : 0 < t.unit := G.inv.pos
  have u0 : (t.unit : Rat) ≠ 0 := cast_ne (by omega)
  have s0 : (sc : Rat) ≠ 0 := cast_ne (by have := T.scp; omega)
  have bl : t.basis.length = m := G.bn
  have inj : ∀ i j, i < m → j < m → t.bas i = t.bas j → i = j := fun i j hi hj e => G.inv.inj hi hj e
  have hrl : ((List.replicate N (0 : Rat)).set q 1).length = N := by rw [List.length_set, List.length_replicate]
  have at_f0 : ∀ k, at0 ((List.replicate N (0 : Rat)).set q 1) k = if k = q then 1 else 0 := fun k => by
    rw [at0_set (by rw [List.length_replicate]; exact hq)]
    split
    · rfl
    · exact at0_rep N k
  have wsum : ∀ a : Nat → Rat, (sumQ N fun k => at0 (t.ray q) k * a k) = a q + sumQ m fun i => if t.bas i < N then quo (- ent (t.line i) q) t.unit * a (t.bas i) else 0 := fun a => by
    unfold Tab.ray
    rw [bl, G.many, setFold_sum a hrl m inj fun i hi hb => by
      rw [at_f0, if_neg]
      intro e
      have z := red_basis G.inv c hi
      have z2 := G.g q (by omega)
      have z3 : red m c (fsOf t) (t.bas i) = 0 := z
      rw [e] at z3
      omega]
    rw [sumQ_single (f := fun k => at0 ((List.replicate N (0 : Rat)).set q 1) k * a k) hq fun k _ hne => by rw [at_f0, if_neg hne]; grind]
    rw [at_f0, if_pos rfl]; grind
  refine ⟨fun k => ?_, fun r hr => ?_, ?_⟩
  · unfold Tab.ray
    refine setFold_nonneg (by rw [G.many]; exact hrl) (fun k => ?_) _ (fun i hi _ => ?_) k
    · rw [G.many, at_f0]; split
      · exact (by decide : (0 : Rat) ≤ 1)
      · exact Rat.le_refl
    · rw [bl] at hi
      exact quo_nonneg (by have := hl' i hi; omega) up
  · rw [wsum]
    have hc := G.inv.comb q (by omega) r hr
    have f0 : (f r : Rat) ≠ 0 := cast_ne (T.fne r hr)
    have e : ((t.unit * M q r : Int) : Rat) = sumQ m fun i => ((ent (t.line i) q * M (t.bas i) r : Int) : Rat) := by
      rw [← sumQ_cast]; exact congrArg _ hc
    have e2 : (sumQ m fun i => if t.bas i < N then quo (- ent (t.line i) q) t.unit * A (t.bas i) r else 0) = sumQ m fun i => (- 1 / ((t.unit : Rat) * f r)) * ((ent (t.line i) q * M (t.bas i) r : Int) : Rat) := sumQ_congr fun i hi => by
      by_cases z : t.bas i < N
      · rw [if_pos z, Rat.intCast_mul, T.mA _ z r hr]; unfold quo; rw [Rat.intCast_neg]; grind
      · rw [if_neg z, C.cols i hi (by omega) q hq]; simp
    rw [e2, sumQ_mul, ← e, Rat.intCast_mul, T.mA q hq r hr]
    grind
  · rw [wsum]
    have e2 : (sumQ m fun i => if t.bas i < N then quo (- ent (t.line i) q) t.unit * bd (t.bas i) else 0) = sumQ m fun i => (- 1 / ((t.unit : Rat) * sc)) * ((c (t.bas i) * ent (t.line i) q : Int) : Rat) := sumQ_congr fun i hi => by
      by_cases z : t.bas i < N
      · rw [if_pos z, Rat.intCast_mul, T.cb _ z]; unfold quo; rw [Rat.intCast_neg]; grind
      · rw [if_neg z, T.c0 _ (by omega)]; simp
    rw [e2, sumQ_mul, ← sumQ_cast]
    have hg := G.g q (by omega)
    unfold red at hg
    have hg2 : ent t.gains q = t.unit * c q - sumI m fun i => c (t.bas i) * ent (t.line i) q := hg
    have e3 : ((sumI m fun i => c (t.bas i) * ent (t.line i) q : Int) : Rat) = t.unit * (sc * bd q) - (ent t.gains q : Rat) := by
      have : (sumI m fun i => c (t.bas i) * ent (t.line i) q) = t.unit * c q - ent t.gains q := by omega
      rw [this, Rat.intCast_sub, Rat.intCast_mul, T.cb q hq]
    rw [e3]
    have h2 : 0 < (ent t.gains q : Rat) / (t.unit * sc) := by
      rw [Rat.div_def]; exact Rat.mul_pos (cast_pos h) (Rat.inv_pos.mpr (Rat.mul_pos (cast_pos up) (cast_pos T.scp)))
    have : bd q + -1 / ((t.unit : Rat) * sc) * (t.unit * (sc * bd q) - (ent t.gains q : Rat)) = (ent t.gains q : Rat) / (t.unit * sc) := by grind
    rw [this]; exact h2
end LP
end

section
set_option autoImplicit false
namespace LP

/-! ### bounds of determinants -/
theorem abs_le_iff {a : Int} {b : Nat} : a.natAbs ≤ b ↔ a ≤ b ∧ -a ≤ b := by omega
theorem sumI_abs {n : Nat} {f : Nat → Int} {B : Nat} (h : ∀ i, i < n → (f i).natAbs ≤ B) : (sumI n f).natAbs ≤ n * B := by
  induction n with
  | zero => simp [sumI]
  | succ n ih =>
    have h1 := ih fun i hi => h i (by omega)
    have h2 := h n (by omega)
    simp only [sumI]
    rw [Nat.succ_mul]; omega
theorem det_abs : ∀ {m : Nat} {f : Nat → Nat → Int} {C : Nat}, (∀ i, i < m → ∀ r, r < m → (f i r).natAbs ≤ C) → (det m f).natAbs ≤ (m * C) ^ m
  | 0, _, _, _ => by simp [det]
  | m + 1, f, C, h => by
    have h1 : ∀ k, k < m + 1 → (sgn (m + k) * f k m * det m (skip k f)).natAbs ≤ C * (m * C) ^ m := fun k hk => by
      have a := h k hk m (by omega)
      have b := det_abs (m := m) (f := skip k f) (C := C) fun i hi r hr => by
        unfold skip; split
        · exact h i (by omega) r (by omega)
        · exact h (i + 1) (by omega) r (by omega)
      have s : (sgn (m + k)).natAbs = 1 := by unfold sgn; split <;> rfl
      rw [Int.natAbs_mul, Int.natAbs_mul, s, Nat.one_mul]
      exact Nat.mul_le_mul a b
    have h2 := sumI_abs h1
    simp only [det]
    refine Nat.le_trans h2 ?_
    rw [Nat.pow_succ]
    have : (m * C) ^ m ≤ ((m + 1) * C) ^ m := Nat.pow_le_pow_left (Nat.mul_le_mul_right C (by omega)) m
    calc (m + 1) * (C * (m * C) ^ m) = (m * C) ^ m * ((m + 1) * C) := by
            rw [Nat.mul_comm ((m * C) ^ m), Nat.mul_assoc]
      _ ≤ ((m + 1) * C) ^ m * ((m + 1) * C) := Nat.mul_le_mul_right _ this
variable {m N : Nat} {M : Nat → Nat → Int} {c hl : Nat → Int}
theorem Inv.small {S : FS} {C : Nat} (I : Inv m N M S) (h : ∀ j, j ≤ N + m → ∀ r, r < m → (M j r).natAbs ≤ C) :
    S.u.natAbs ≤ (m * C) ^ m ∧ ∀ i, i < m → ∀ j, j ≤ N + m → (S.T i j).natAbs ≤ (m * C) ^ m := by
  obtain ⟨s, hs, hu, ht⟩ := I.dt
  have s1 : s.natAbs = 1 := by rcases hs with rfl | rfl <;> rfl
  refine ⟨?_, fun i hi j hj => ?_⟩
  · rw [hu, Int.natAbs_mul, s1, Nat.one_mul]
    exact det_abs fun i hi r hr => h _ (Nat.le_of_lt (I.rng i hi)) r hr
  · rw [ht i hi j hj, Int.natAbs_mul, s1, Nat.one_mul]
    refine det_abs fun k hk r hr => ?_
    unfold up; split
    · exact h j hj r hr
    · exact h _ (Nat.le_of_lt (I.rng k hk)) r hr

/-- all numbers of a tableau are at most B -/
structure Small (B : Nat) (t : Tab) : Prop where
  unit : t.unit.natAbs ≤ B
  lines : ∀ i j, (ent (t.line i) j).natAbs ≤ B
  gains : ∀ j, (ent t.gains j).natAbs ≤ B
  wants : ∀ j, (ent t.wants j).natAbs ≤ B
theorem ent_off {l : List Int} {j : Nat} (h : l.length ≤ j) : ent l j = 0 := by
  unfold ent; rw [List.getD_eq_getElem?_getD, List.getElem?_eq_none h]; rfl
theorem line_off {t : Tab} {i : Nat} (h : t.lines.length ≤ i) : t.line i = [] := by
  unfold Tab.line; rw [List.getD_eq_getElem?_getD, List.getElem?_eq_none h]; rfl
def bigB (m C Cg : Nat) : Nat := (m + 1) * (Cg + 1) * (m * C) ^ m
theorem Good.small {t : Tab} {C Cg : Nat} (G : Good m N M c hl t) (hhl : ∀ k, hl k = 0 ∨ hl k = 1) (hM : ∀ j, j ≤ N + m → ∀ r, r < m → (M j r).natAbs ≤ C) (hc : ∀ k, (c k).natAbs ≤ Cg) : Small (bigB m C Cg) t := by
  obtain ⟨h1, h2⟩ := G.inv.small hM
  have b1 : (m * C) ^ m ≤ bigB m C Cg := by
    unfold bigB
    refine Nat.le_mul_of_pos_left _ ?_
    exact Nat.mul_pos (by omega) (by omega)
  have hL : ∀ i j, (ent (t.line i) j).natAbs ≤ (m * C) ^ m := fun i j => by
    by_cases q : i < m
    · by_cases z : j ≤ N + m
      · exact h2 i q j z
      · rw [ent_off (by rw [G.lw i q]; omega)]; exact Nat.zero_le _
    · rw [line_off (by rw [G.ln]; omega)]; exact Nat.zero_le _
  refine ⟨Nat.le_trans h1 b1, fun i j => Nat.le_trans (hL i j) b1, fun j => ?_, fun j => ?_⟩
  · by_cases z : j ≤ N + m
    · rw [G.g j z]
      unfold red
      have s := sumI_abs (n := m) (f := fun i => c ((fsOf t).b i) * (fsOf t).T i j) (B := Cg * (m * C) ^ m) fun i hi => by
        rw [Int.natAbs_mul]; exact Nat.mul_le_mul (hc _) (hL i j)
      have s2 : ((fsOf t).u * c j).natAbs ≤ Cg * (m * C) ^ m := by
        rw [Int.natAbs_mul, Nat.mul_comm]; exact Nat.mul_le_mul (hc j) h1
      have : bigB m C Cg = m * (Cg * (m * C) ^ m) + Cg * (m * C) ^ m + (m + 1) * (m * C) ^ m := by
        unfold bigB; grind
      omega
    · rw [ent_off (by rw [G.gn]; omega)]; exact Nat.zero_le _
  · by_cases z : j ≤ N + m
    · rw [G.wsum z]
      have s := sumI_abs (n := m) (f := fun i => hl (t.bas i) * ent (t.line i) j) (B := (m * C) ^ m) fun i hi => by
        rw [Int.natAbs_mul]
        rcases hhl (t.bas i) with e | e <;> rw [e]
        · simp
        · simpa using hL i j
      refine Nat.le_trans s ?_
      unfold bigB
      refine Nat.mul_le_mul_right _ ?_
      rw [Nat.mul_add]; omega
    · rw [ent_off (by rw [G.wn]; omega)]; exact Nat.zero_le _

/-! ### driving helpers out -/
def nonzeros (row : List Int) (n : Nat) : List Nat := (List.range n).filter fun j => decide (ent row j ≠ 0)
def Tab.driveStep (t : Tab) (p : Nat) : Tab :=
  if t.many ≤ t.bas p then
    match nonzeros (t.line p) t.many with
    | [] => t
    | q :: _ => t.turn p q
  else t
def Tab.driveTo (t : Tab) (n : Nat) : Tab := (List.range n).foldl Tab.driveStep t
def Tab.driveOut (t : Tab) : Tab := t.driveTo t.lines.length
theorem driveTo_succ (t : Tab) (n : Nat) : t.driveTo (n + 1) = (t.driveTo n).driveStep n := by
  unfold Tab.driveTo; rw [List.range_succ, List.foldl_append]; rfl
structure CleanTo (m N k : Nat) (t : Tab) : Prop where
  rhs : ∀ i, i < m → N ≤ t.bas i → ent (t.line i) (N + m) = 0
  cols : ∀ i, i < k → i < m → N ≤ t.bas i → ∀ j, j < N → ent (t.line i) j = 0
theorem nonzeros_nil {row : List Int} {n : Nat} (h : nonzeros row n = []) : ∀ j, j < n → ent row j = 0 := fun j hj => by
  refine Classical.byContradiction fun cc => ?_
  have : j ∈ nonzeros row n := List.mem_filter.mpr ⟨List.mem_range.mpr hj, decide_eq_true cc⟩
  rw [h] at this; cases this
theorem nonzeros_cons {row : List Int} {n q : Nat} {r : List Nat} (h : nonzeros row n = q :: r) : q < n ∧ ent row q ≠ 0 := by
  obtain ⟨h1, h2, _⟩ := head_filter_range _ n q r h
  exact ⟨h1, of_decide_eq_true h2⟩
theorem drive_step {t : Tab} {p : Nat} (hhl : ∀ k, k < N → hl k = 0) (G : Good m N M c hl t) (F : FeasT m N t) (Cl : CleanTo m N p t) (hp : p < m) :
    Good m N M c hl (t.driveStep p) ∧ FeasT m N (t.driveStep p) ∧ CleanTo m N (p + 1) (t.driveStep p) := by
  unfold Tab.driveStep
  split
  · rename_i hb
    rw [G.many] at hb
    split
    · rename_i hz
      refine ⟨G, F, Cl.rhs, fun i hi him hb' j hj => ?_⟩
      by_cases e : i = p
      · subst e; rw [G.many] at hz; exact nonzeros_nil hz j hj
      · exact Cl.cols i (by omega) him hb' j hj
    · rename_i q r hz
      rw [G.many] at hz
      obtain ⟨hq, h0⟩ := nonzeros_cons hz
      have P := G.pivot hp hq h0
      have G' := G.turn hhl hp hq h0
      have hqm : q < N + m := Nat.lt_of_lt_of_le hq (Nat.le_add_right _ _)
      have rp : ent (t.line p) (N + m) = 0 := Cl.rhs p hp hb
      have up : 0 < t.unit := G.inv.pos
      have hd : 0 < t.head p q := P.pos
      have line : ∀ i, i < m → i ≠ p → ∀ j, j ≤ N + m → ent ((t.turn p q).line i) j * t.unit = ent (t.line i) j * t.head p q - ent (t.line i) q * (tsgn t p q * ent (t.line p) j) := fun i hi hne j hj => G.inv.exact P hp hqm hi hne hj
      have zero_of : ∀ x : Int, x * t.unit = 0 → x = 0 := fun x h => by
        rcases Int.mul_eq_zero.mp h with z | z
        · exact z
        · omega
      refine ⟨G', fun i hi => ?_, fun i hi hb' => ?_, fun i hi him hb' j hj => ?_⟩
      · show 0 ≤ ent ((t.turn p q).line i) (N + m)
        by_cases e : i = p
        · subst e
          rw [turn_line (by rw [G.ln]; exact hp), if_pos rfl, ent_own, rp]; omega
        · have x := line i hi e (N + m) (Nat.le_refl _)
          rw [rp, Int.mul_zero, Int.mul_zero] at x
          have y : 0 ≤ ent (t.line i) (N + m) * t.head p q := Int.mul_nonneg (F i hi) (Int.le_of_lt hd)
          refine Classical.byContradiction fun z => ?_
          have : ent ((t.turn p q).line i) (N + m) * t.unit < 0 := Int.mul_neg_of_neg_of_pos (by omega) up
          omega
      · by_cases e : i = p
        · subst e
          rw [turn_bas (by rw [G.bn]; exact hp), if_pos rfl] at hb'; omega
        · rw [turn_bas (by rw [G.bn]; exact hp), if_neg e] at hb'
          have x := line i hi e (N + m) (Nat.le_refl _)
          rw [rp, Cl.rhs i hi hb', Int.mul_zero, Int.mul_zero, Int.zero_mul] at x
          exact zero_of _ x
      · by_cases e : i = p
        · subst e
          rw [turn_bas (by rw [G.bn]; exact hp), if_pos rfl] at hb'; omega
        · rw [turn_bas (by rw [G.bn]; exact hp), if_neg e] at hb'
          have x := line i him e j (by omega)
          rw [Cl.cols i (by omega) him hb' j hj, Cl.cols i (by omega) him hb' q hq, Int.zero_mul, Int.zero_mul] at x
          exact zero_of _ x
  · rename_i hb
    rw [G.many] at hb
    refine ⟨G, F, Cl.rhs, fun i hi him hb' j hj => ?_⟩
    by_cases e : i = p
    · subst e; exact absurd hb' hb
    · exact Cl.cols i (by omega) him hb' j hj
theorem drive_to {t : Tab} (hhl : ∀ k, k < N → hl k = 0) (G : Good m N M c hl t) (F : FeasT m N t) (h0 : ∀ i, i < m → N ≤ t.bas i → ent (t.line i) (N + m) = 0) : ∀ k, k ≤ m →
    Good m N M c hl (t.driveTo k) ∧ FeasT m N (t.driveTo k) ∧ CleanTo m N k (t.driveTo k)
  | 0, _ => ⟨G, F, h0, fun i hi => by omega⟩
  | k + 1, hk => by
    obtain ⟨a, b, d⟩ := drive_to hhl G F h0 k (by omega)
    rw [driveTo_succ]
    exact drive_step hhl a b d (by omega)

theorem facts_turn {f : Nat → Int} {t : Tab} {p q : Nat} (F : Facts m f t) : Facts m f (t.turn p q) := ⟨F.len, F.val⟩
theorem facts_drive {f : Nat → Int} {t : Tab} (F : Facts m f t) : ∀ k, Facts m f (t.driveTo k) ∧ (t.driveTo k).scale = t.scale
  | 0 => ⟨F, rfl⟩
  | k + 1 => by
    rw [driveTo_succ]
    obtain ⟨a, b⟩ := facts_drive F k
    unfold Tab.driveStep
    split
    · split
      · exact ⟨a, b⟩
      · exact ⟨facts_turn a, b⟩
    · exact ⟨a, b⟩

/-- climbing with cleaned helper lines -/
theorem clean_turn {t : Tab} {p q : Nat} {r : List Nat} {row : List Int} (G : Good m N M c hl t) (Cl : Clean m N t) (hg : gainsL row t.many = q :: r) (hl' : t.leaving q = some p) : Clean m N (t.turn p q) := by
  have B := leaving_some t.lines.length hl'
  rw [G.ln] at B
  rw [G.many] at hg
  obtain ⟨hq, _, _⟩ := gainsL_cons hg
  have h0 : ent (t.line p) q ≠ 0 := by have := B.pos; omega
  have P := G.pivot B.lt hq h0
  have hqm : q < N + m := Nat.lt_of_lt_of_le hq (Nat.le_add_right _ _)
  have up : 0 < t.unit := G.inv.pos
  have line : ∀ i, i < m → i ≠ p → ∀ j, j ≤ N + m → ent ((t.turn p q).line i) j * t.unit = ent (t.line i) j * t.head p q - ent (t.line i) q * (tsgn t p q * ent (t.line p) j) := fun i hi hne j hj => G.inv.exact P B.lt hqm hi hne hj
  have zero_of : ∀ x : Int, x * t.unit = 0 → x = 0 := fun x h => by
    rcases Int.mul_eq_zero.mp h with z | z
    · exact z
    · omega
  refine ⟨fun i hi hb => ?_, fun i hi hb j hj => ?_⟩
  · by_cases e : i = p
    · subst e
      rw [turn_bas (by rw [G.bn]; exact hi), if_pos rfl] at hb; omega
    · rw [turn_bas (by rw [G.bn]; exact B.lt), if_neg e] at hb
      have x := line i hi e (N + m) (Nat.le_refl _)
      rw [Cl.rhs i hi hb, Cl.cols i hi hb q hq, Int.zero_mul, Int.zero_mul] at x
      exact zero_of _ x
  · by_cases e : i = p
    · subst e
      rw [turn_bas (by rw [G.bn]; exact hi), if_pos rfl] at hb; omega
    · rw [turn_bas (by rw [G.bn]; exact B.lt), if_neg e] at hb
      have x := line i hi e j (by omega)
      rw [Cl.cols i hi hb j hj, Cl.cols i hi hb q hq, Int.zero_mul, Int.zero_mul] at x
      exact zero_of _ x
theorem Good.turn_by {t : Tab} {p q : Nat} {r : List Nat} {row : List Int} (hhl : ∀ k, k < N → hl k = 0) (G : Good m N M c hl t) (hg : gainsL row t.many = q :: r) (hl' : t.leaving q = some p) : Good m N M c hl (t.turn p q) := by
  have B := leaving_some t.lines.length hl'
  rw [G.ln] at B
  rw [G.many] at hg
  obtain ⟨hq, _, _⟩ := gainsL_cons hg
  exact G.turn hhl B.lt hq (by have := B.pos; omega)

/-! ### the whole -/
variable {A : Nat → Nat → Rat} {bd g : Nat → Rat} {f : Nat → Int} {sc : Int}
/-- how a program comes out, for the functions A, bd, g -/
inductive Out (m N : Nat) (A : Nat → Nat → Rat) (bd g : Nat → Rat) : Prop
structure BestFor (m N : Nat) (A : Nat → Nat → Rat) (bd g : Nat → Rat) (x w : List Rat) : Prop where
  within : ∀ k, k < N → bd k ≤ sumQ m fun r => A k r * at0 x r
  nonneg : ∀ k, 0 ≤ at0 w k
  goal : ∀ r, r < m → (sumQ N fun k => at0 w k * A k r) = g r
  worth : (sumQ m fun r => g r * at0 x r) = sumQ N fun k => at0 w k * bd k
structure EmptyFor (m N : Nat) (A : Nat → Nat → Rat) (bd : Nat → Rat) (w : List Rat) : Prop where
  nonneg : ∀ k, 0 ≤ at0 w k
  zero : ∀ r, r < m → (sumQ N fun k => at0 w k * A k r) = 0
  above : 0 < sumQ N fun k => at0 w k * bd k
structure RayFor (m N : Nat) (A : Nat → Nat → Rat) (g : Nat → Rat) (y : List Rat) : Prop where
  lines : ∀ k, k < N → 0 ≤ sumQ m fun r => A k r * at0 y r
  goal : (sumQ m fun r => g r * at0 y r) < 0

theorem phase1 {t : Tab} (T : Told m N M c hl A bd g f sc) (G : Good m N M c hl t) (F : FeasT m N t) : ∃ n t' o, Climbs Tab.wants n t t' o := by
  refine climb_ends (cc := fun k => - hl k) (by rw [T.hl2]; rfl) (fun t => Good m N M c hl t ∧ FeasT m N t) (fun t h => ⟨h.1, h.2, fun j hj => ?_⟩) (fun t p q r h hg hl' => ⟨h.1.turn_by T.hl0 hg hl', ?_⟩) ⟨G, F⟩
  · rw [h.1.w j (by omega), T.hl0 j hj]; omega
  · refine (h.1.step (cc := fun k => - hl k) (row := t.wants) (fun j hj => ?_) hg hl').feas h.1.inv h.2
    rw [h.1.w j (by omega), T.hl0 j hj]; omega
theorem phase1_end {n : Nat} {t t' : Tab} {o : Option Nat} (T : Told m N M c hl A bd g f sc) (G : Good m N M c hl t) (F : FeasT m N t) (C : Climbs Tab.wants n t t' o) :
    Good m N M c hl t' ∧ FeasT m N t' ∧ o = none ∧ ∀ j, j < N → ent t'.wants j ≤ 0 := by
  obtain ⟨G', F'⟩ := C.keep (fun t => Good m N M c hl t ∧ FeasT m N t) (fun t p q r h hg hl' => ⟨h.1.turn_by T.hl0 hg hl', by
    refine (h.1.step (cc := fun k => - hl k) (row := t.wants) (fun j hj => ?_) hg hl').feas h.1.inv h.2
    rw [h.1.w j (by omega), T.hl0 j hj]; omega⟩) ⟨G, F⟩
  rcases C.ends with ⟨ho, hg⟩ | ⟨q, r, ho, hg, hl'⟩
  · rw [G'.many] at hg
    exact ⟨G', F', ho, gainsL_nil hg⟩
  · rw [G'.many] at hg
    obtain ⟨hq, hpos, _⟩ := gainsL_cons hg
    rw [G'.wsum (by omega)] at hpos
    obtain ⟨i, hi, hip⟩ := sumI_pos hpos
    have h0 := leaving_none _ hl' i (by rw [G'.ln]; exact hi)
    have : hl (t'.bas i) * ent (t'.line i) q ≤ 0 := by
      by_cases z : t'.bas i < N
      · rw [T.hl0 _ z]; omega
      · rw [T.hl1 _ (by omega) (show t'.bas i < N + m from G'.inv.rng i hi)]; omega
    omega
theorem rhs_zero {t : Tab} (T : Told m N M c hl A bd g f sc) (G : Good m N M c hl t) (F : FeasT m N t) (h : ent t.wants (N + m) = 0) : ∀ i, i < m → N ≤ t.bas i → ent (t.line i) (N + m) = 0 := fun i hi hb => by
  rw [G.wsum (Nat.le_refl _)] at h
  have z := sumI_eq_zero (fun i hi => Int.mul_nonneg (by
    by_cases q : t.bas i < N
    · rw [T.hl0 _ q]; exact Int.le_refl 0
    · rw [T.hl1 _ (by omega) (show t.bas i < N + m from G.inv.rng i hi)]; decide) (F i hi)) h i hi
  have z2 : hl (t.bas i) * ent (t.line i) (N + m) = 0 := z
  rw [T.hl1 _ hb (show t.bas i < N + m from G.inv.rng i hi)] at z2
  omega
theorem phase2 {t : Tab} (T : Told m N M c hl A bd g f sc) (G : Good m N M c hl t) (F : FeasT m N t) : ∃ n t' o, Climbs Tab.gains n t t' o := by
  refine climb_ends (cc := c) (T.c0 _ (by omega)) (fun t => Good m N M c hl t ∧ FeasT m N t) (fun t h => ⟨h.1, h.2, fun j hj => h.1.g j (by omega)⟩) (fun t p q r h hg hl' => ⟨h.1.turn_by T.hl0 hg hl', ?_⟩) ⟨G, F⟩
  exact (h.1.step (cc := c) (row := t.gains) (fun j hj => h.1.g j (by omega)) hg hl').feas h.1.inv h.2
theorem phase2_end {n : Nat} {t t' : Tab} {o : Option Nat} (T : Told m N M c hl A bd g f sc) (G : Good m N M c hl t) (F : FeasT m N t) (Cl : Clean m N t) (Fs : Facts m f t) (hs : t.scale = sc) (C : Climbs Tab.gains n t t' o) :
    Good m N M c hl t' ∧ (o = none ∧ BestFor m N A bd g (pricesL t' t'.gains t'.scale) t'.weights ∨ ∃ q, q < N ∧ o = some q ∧ EmptyFor m N A bd (t'.ray q)) := by
  obtain ⟨G', F', C', Fs', hs'⟩ := C.keep (fun t => Good m N M c hl t ∧ FeasT m N t ∧ Clean m N t ∧ Facts m f t ∧ t.scale = sc) (fun t p q r h hg hl' => ⟨h.1.turn_by T.hl0 hg hl',
    (h.1.step (cc := c) (row := t.gains) (fun j hj => h.1.g j (by omega)) hg hl').feas h.1.inv h.2.1, clean_turn h.1 h.2.2.1 hg hl', facts_turn h.2.2.2.1, h.2.2.2.2⟩) ⟨G, F, Cl, Fs, hs⟩
  refine ⟨G', ?_⟩
  rcases C.ends with ⟨ho, hg⟩ | ⟨q, r, ho, hg, hl'⟩
  · rw [G'.many] at hg
    left
    rw [hs']
    obtain ⟨a, b, d, e⟩ := best_of T G' Fs' F' C' (gainsL_nil hg)
    exact ⟨ho, a, b, d, e⟩
  · rw [G'.many] at hg
    obtain ⟨hq, hpos, _⟩ := gainsL_cons hg
    right
    obtain ⟨a, b, d⟩ := empty_of T G' C' hq hpos fun i hi => leaving_none _ hl' i (by rw [G'.ln]; exact hi)
    exact ⟨q, hq, ho, a, b, d⟩

/-! ### the tableau at first -/
def lcmL (row : List Rat) : Nat := row.foldl (fun a x => Nat.lcm a x.den) 1
def clr (row : List Rat) : List Int := row.map fun x => x.num * ((lcmL row : Int) / (x.den : Int))
abbrev Lims := List (List Rat × Rat)
def rowAt (goal : List Rat) (lims : Lims) (i : Nat) : List Rat := lims.map (fun l => at0 l.1 i) ++ [at0 goal i]
def sgnOf (row : List Rat) : Int := if lastE (clr row) < 0 then -1 else 1
def helpL (m i : Nat) : List Int := (List.range m).map fun a => if a = i then 1 else 0
def initLine (m : Nat) (row : List Rat) (i : Nat) : List Int := (clr row).dropLast.map (fun x => sgnOf row * x) ++ helpL m i ++ [sgnOf row * lastE (clr row)]
def initTab (goal : List Rat) (lims : Lims) : Tab where
  many := lims.length
  lines := (List.range goal.length).map fun i => initLine goal.length (rowAt goal lims i) i
  factors := (List.range goal.length).map fun i => sgnOf (rowAt goal lims i) * lcmL (rowAt goal lims i)
  gains := clr (lims.map (·.2)) ++ List.replicate (goal.length + 1) 0
  scale := lcmL (lims.map (·.2))
  wants := (List.range (lims.length + goal.length + 1)).map fun j => ((List.range goal.length).map fun i => ent (initLine goal.length (rowAt goal lims i) i) j).sum
  unit := 1
  basis := (List.range goal.length).map fun i => lims.length + i

theorem lcmL_step (row : List Rat) : ∀ (a : Nat), 0 < a → 0 < row.foldl (fun a x => Nat.lcm a x.den) a ∧ a ∣ row.foldl (fun a x => Nat.lcm a x.den) a ∧ ∀ x ∈ row, x.den ∣ row.foldl (fun a x => Nat.lcm a x.den) a := by
  induction row with
  | nil => intro a ha; exact ⟨ha, Nat.dvd_refl _, fun x hx => by cases hx⟩
  | cons y row ih =>
    intro a ha
    have hp : 0 < Nat.lcm a y.den := Nat.lcm_pos ha (Nat.pos_of_ne_zero y.den_nz)
    obtain ⟨h1, h2, h3⟩ := ih (Nat.lcm a y.den) hp
    rw [List.foldl_cons]
    refine ⟨h1, Nat.dvd_trans (Nat.dvd_lcm_left _ _) h2, fun x hx => ?_⟩
    rcases List.mem_cons.mp hx with e | e
    · rw [e]; exact Nat.dvd_trans (Nat.dvd_lcm_right _ _) h2
    · exact h3 x e
theorem lcmL_pos (row : List Rat) : 0 < lcmL row := (lcmL_step row 1 (by omega)).1
theorem lcmL_dvd {row : List Rat} {x : Rat} (h : x ∈ row) : x.den ∣ lcmL row := (lcmL_step row 1 (by omega)).2.2 x h
theorem clr_len (row : List Rat) : (clr row).length = row.length := by unfold clr; rw [List.length_map]
theorem clr_one {x : Rat} {L : Nat} (h : x.den ∣ L) : ((x.num * ((L : Int) / (x.den : Int)) : Int) : Rat) = (L : Rat) * x := by
  obtain ⟨k, rfl⟩ := h
  have d0 : (x.den : Int) ≠ 0 := by have := x.den_nz; omega
  have d0' : ((x.den : Nat) : Rat) ≠ 0 := by exact_mod_cast x.den_nz
  have e : ((x.den * k : Nat) : Int) / (x.den : Int) = k := by
    rw [Int.natCast_mul]; exact Int.mul_ediv_cancel_left _ d0
  rw [e]
  have hx : x = (x.num : Rat) / (x.den : Rat) := by rw [← Rat.mkRat_eq_div, Rat.mkRat_self]
  have h2 : (x.den : Rat) * x = x.num := by grind
  rw [Rat.intCast_mul]
  have : ((x.den * k : Nat) : Rat) = (x.den : Rat) * (k : Rat) := by exact_mod_cast rfl
  rw [this]
  have : (((k : Nat) : Int) : Rat) = (k : Rat) := rfl
  rw [this]; grind
theorem ent_clr {row : List Rat} {k : Nat} (h : k < row.length) : ((ent (clr row) k : Int) : Rat) = (lcmL row : Rat) * at0 row k := by
  have e : ent (clr row) k = (row[k]).num * ((lcmL row : Int) / ((row[k]).den : Int)) := by
    unfold ent clr
    rw [List.getD_eq_getElem?_getD, List.getElem?_map, List.getElem?_eq_getElem h]; rfl
  have e2 : at0 row k = row[k] := by
    unfold at0; rw [List.getD_eq_getElem?_getD, List.getElem?_eq_getElem h]; rfl
  rw [e, e2, clr_one (lcmL_dvd (List.getElem_mem h))]
theorem lastE_clr {row : List Rat} (h : 0 < row.length) : ((lastE (clr row) : Int) : Rat) = (lcmL row : Rat) * at0 row (row.length - 1) := by
  unfold lastE; rw [clr_len]; exact ent_clr (by omega)

theorem ent_initLine {m N : Nat} {row : List Rat} {i j : Nat} (hr : row.length = N + 1) : ent (initLine m row i) j =
    if j < N then sgnOf row * ent (clr row) j else if j < N + m then (if j = N + i then 1 else 0) else if j = N + m then sgnOf row * lastE (clr row) else 0 := by
  have l1 : ((clr row).dropLast.map (fun x => sgnOf row * x)).length = N := by rw [List.length_map, List.length_dropLast, clr_len, hr]; omega
  have l2 : (helpL m i).length = m := by unfold helpL; rw [List.length_map, List.length_range]
  unfold ent initLine
  rw [List.getD_eq_getElem?_getD, List.append_assoc, List.getElem?_append]
  rw [l1]
  split
  · rename_i h
    rw [List.getElem?_map, List.getElem?_dropLast, List.getD_eq_getElem?_getD, clr_len, hr, if_pos (by omega), List.getElem?_eq_getElem (by rw [clr_len, hr]; omega)]
    rfl
  · rename_i h
    rw [List.getElem?_append, l2]
    split
    · rename_i h2
      rw [if_pos (by omega)]
      unfold helpL
      rw [List.getElem?_map, List.getElem?_range (by omega)]
      by_cases e : j = N + i
      · rw [if_pos e]; simp [show j - N = i by omega]
      · rw [if_neg e]; simp [show ¬ j - N = i by omega]
    · rename_i h2
      rw [if_neg (by omega)]
      by_cases e : j = N + m
      · rw [if_pos e, show j - N - m = 0 by omega]; rfl
      · rw [if_neg e, List.getElem?_eq_none (by simp; omega)]; rfl
theorem rowAt_len (goal : List Rat) (lims : Lims) (i : Nat) : (rowAt goal lims i).length = lims.length + 1 := by unfold rowAt; simp
theorem initLine_len {m N : Nat} {row : List Rat} {i : Nat} (hr : row.length = N + 1) : (initLine m row i).length = N + m + 1 := by
  unfold initLine helpL; simp [clr_len, hr]; omega
theorem init_line {goal : List Rat} {lims : Lims} {i : Nat} (h : i < goal.length) : (initTab goal lims).line i = initLine goal.length (rowAt goal lims i) i := by
  unfold initTab Tab.line
  dsimp only
  rw [List.getD_eq_getElem?_getD, List.getElem?_map, List.getElem?_range h]; rfl
def colM (goal : List Rat) (lims : Lims) : Nat → Nat → Int := fun j r => ent ((initTab goal lims).line r) j
def costC (lims : Lims) : Nat → Int := fun k => if k < lims.length then ent (clr (lims.map (·.2))) k else 0
def helpC (m N : Nat) : Nat → Int := fun k => if N ≤ k ∧ k < N + m then 1 else 0
def rowsA (lims : Lims) : Nat → Nat → Rat := fun k r => at0 ((lims.getD k ([], 0)).1) r
def bdsB (lims : Lims) : Nat → Rat := fun k => (lims.getD k ([], 0)).2
theorem sgnOf_sq (row : List Rat) : sgnOf row = 1 ∨ sgnOf row = -1 := by unfold sgnOf; split <;> simp
theorem rowAt_lt {goal : List Rat} {lims : Lims} {i k : Nat} (h : k < lims.length) : at0 (rowAt goal lims i) k = rowsA lims k i := by
  unfold at0 rowAt rowsA
  rw [List.getD_eq_getElem?_getD, List.getElem?_append_left (by simpa using h), List.getElem?_map, List.getD_eq_getElem?_getD, List.getElem?_eq_getElem h]; rfl
theorem rowAt_last {goal : List Rat} {lims : Lims} {i : Nat} : at0 (rowAt goal lims i) lims.length = at0 goal i := by
  unfold rowAt
  rw [at0, List.getD_eq_getElem?_getD, List.getElem?_append_right (by simp)]
  simp
theorem init_told (goal : List Rat) (lims : Lims) : Told goal.length lims.length (colM goal lims) (costC lims) (helpC goal.length lims.length) (rowsA lims) (bdsB lims) (at0 goal)
    (fun i => sgnOf (rowAt goal lims i) * lcmL (rowAt goal lims i)) (lcmL (lims.map (·.2))) := by
  have hL : ∀ r, (lcmL (rowAt goal lims r) : Int) ≠ 0 := fun r => by have := lcmL_pos (rowAt goal lims r); omega
  refine ⟨fun k hk r hr => ?_, fun r hr => ?_, ?_, fun k hk r hr => ?_, fun r hr => ?_, fun k hk => ?_, fun k hk => ?_, fun k hk => ?_, fun k hk hk2 => ?_, ?_⟩
  · unfold colM
    rw [init_line hr, ent_initLine (N := lims.length) (rowAt_len goal lims r), if_neg (by omega), if_pos (by omega)]
    unfold unitCol
    by_cases e : r = k
    · subst e; simp
    · rw [if_neg (by omega), if_neg e]
  · have := hL r
    rcases sgnOf_sq (rowAt goal lims r) with e | e <;> rw [e] <;> omega
  · have := lcmL_pos (lims.map (·.2)); omega
  · unfold colM
    rw [init_line hr, ent_initLine (N := lims.length) (rowAt_len goal lims r), if_pos hk, Rat.intCast_mul, ent_clr (by rw [rowAt_len]; omega), rowAt_lt hk, Rat.intCast_mul]
    have : (((lcmL (rowAt goal lims r) : Nat) : Int) : Rat) = (lcmL (rowAt goal lims r) : Rat) := rfl
    rw [this]; grind
  · unfold colM
    rw [init_line hr, ent_initLine (N := lims.length) (rowAt_len goal lims r), if_neg (by omega), if_neg (by omega), if_pos rfl, Rat.intCast_mul, lastE_clr (by rw [rowAt_len]; omega), rowAt_len, Nat.add_sub_cancel, rowAt_last, Rat.intCast_mul]
    have : (((lcmL (rowAt goal lims r) : Nat) : Int) : Rat) = (lcmL (rowAt goal lims r) : Rat) := rfl
    rw [this]; grind
  · unfold costC
    rw [if_pos hk, ent_clr (by simpa using hk)]
    have e : at0 (lims.map (·.2)) k = bdsB lims k := by
      unfold at0 bdsB
      rw [List.getD_eq_getElem?_getD, List.getElem?_map, List.getD_eq_getElem?_getD, List.getElem?_eq_getElem hk]; rfl
    rw [e]; rfl
  · unfold costC; rw [if_neg (by omega)]
  · unfold helpC; rw [if_neg (by omega)]
  · unfold helpC; rw [if_pos ⟨hk, hk2⟩]
  · unfold helpC; rw [if_neg (by omega)]
theorem Inv.congr {S S' : FS} (I : Inv m N M S) (al : Alike m N S S') : Inv m N M S' := by
  obtain ⟨s, hs, hu, ht⟩ := I.dt
  have e1 : det m (fun i => M (S.b i)) = det m (fun i => M (S'.b i)) := det_congr fun i hi r _ => by rw [al.b i hi]
  refine ⟨by rw [← al.u]; exact I.pos, ⟨s, hs, by rw [← al.u, hu, e1], fun i hi j hj => ?_⟩, fun j hj r hr => ?_, fun i hi => by rw [← al.b i hi]; exact I.rng i hi⟩
  · rw [← al.T i hi j hj, ht i hi j hj]
    congr 1
    refine det_congr fun k hk r _ => ?_
    unfold up; split
    · rfl
    · show M (S.b k) r = M (S'.b k) r
      rw [al.b k hk]
  · rw [← al.u, I.comb j hj r hr]
    exact sumI_congr fun i hi => by rw [al.T i hi j hj, al.b i hi]
theorem sumI_list (n : Nat) (f : Nat → Int) : ((List.range n).map f).sum = sumI n f := by
  induction n with
  | zero => rfl
  | succ n ih => rw [List.range_succ, List.map_append, List.sum_append, ih]; simp [sumI]
theorem init_bas {goal : List Rat} {lims : Lims} {i : Nat} (h : i < goal.length) : (initTab goal lims).bas i = lims.length + i := by
  unfold initTab Tab.bas
  dsimp only
  rw [List.getD_eq_getElem?_getD, List.getElem?_map, List.getElem?_range h]; rfl
theorem init_good (goal : List Rat) (lims : Lims) : Good goal.length lims.length (colM goal lims) (costC lims) (helpC goal.length lims.length) (initTab goal lims) ∧ FeasT goal.length lims.length (initTab goal lims) := by
  have T := init_told goal lims
  have I : Inv goal.length lims.length (colM goal lims) (fsOf (initTab goal lims)) := (Inv.start T.helped).congr ⟨rfl, fun i hi => (init_bas hi).symm, fun i hi j hj => rfl⟩
  refine ⟨⟨rfl, ?_, fun i hi => ?_, ?_, ?_, ?_, I, fun j hj => ?_, fun j hj => ?_⟩, fun i hi => ?_⟩
  · unfold initTab; simp
  · rw [init_line hi, initLine_len (rowAt_len goal lims i)]
  · unfold initTab; simp
  · unfold initTab; simp [clr_len]; omega
  · unfold initTab; simp
  · unfold red
    rw [sumI_zero' fun i hi => by
      have : (fsOf (initTab goal lims)).b i = lims.length + i := init_bas hi
      rw [this, T.c0 _ (by omega)]; omega]
    show ent (clr (lims.map (·.2)) ++ List.replicate (goal.length + 1) 0) j = 1 * costC lims j - 0
    unfold costC
    split
    · rename_i h
      unfold ent
      rw [List.getD_eq_getElem?_getD, List.getElem?_append_left (by rw [clr_len]; simpa using h), List.getD_eq_getElem?_getD]; omega
    · rename_i h
      unfold ent
      rw [List.getD_eq_getElem?_getD, List.getElem?_append_right (by rw [clr_len]; simpa using h), List.getElem?_replicate]
      split <;> rfl
  · unfold red
    have e : (sumI goal.length fun i => - helpC goal.length lims.length ((fsOf (initTab goal lims)).b i) * (fsOf (initTab goal lims)).T i j) = - sumI goal.length fun i => colM goal lims j i := by
      have := sumI_mul goal.length (-1) (fun i => colM goal lims j i)
      rw [show (-1 : Int) * (sumI goal.length fun i => colM goal lims j i) = - sumI goal.length fun i => colM goal lims j i by omega] at this
      rw [← this]
      refine sumI_congr fun i hi => ?_
      have : (fsOf (initTab goal lims)).b i = lims.length + i := init_bas hi
      rw [this, T.hl1 _ (by omega) (by omega)]; rfl
    rw [e]
    have e2 : ent (initTab goal lims).wants j = sumI goal.length fun i => colM goal lims j i := by
      unfold initTab ent
      dsimp only
      rw [List.getD_eq_getElem?_getD, List.getElem?_map, List.getElem?_range (by omega)]
      show ((List.range goal.length).map _).sum = _
      rw [sumI_list]
      exact sumI_congr fun i hi => by unfold colM; rw [init_line hi]; rfl
    rw [e2]
    show _ = 1 * - helpC goal.length lims.length j - - _ + 1 * _
    omega
  · show 0 ≤ ent ((initTab goal lims).line i) (lims.length + goal.length)
    rw [init_line hi, ent_initLine (N := lims.length) (rowAt_len goal lims i), if_neg (by omega), if_neg (by omega), if_pos rfl]
    unfold sgnOf; split <;> omega
theorem init_facts (goal : List Rat) (lims : Lims) : Facts goal.length (fun i => sgnOf (rowAt goal lims i) * lcmL (rowAt goal lims i)) (initTab goal lims) := by
  refine ⟨by unfold initTab; simp, fun i hi => ?_⟩
  unfold initTab
  dsimp only
  rw [List.getD_eq_getElem?_getD, List.getElem?_map, List.getElem?_range hi]; rfl

/-! ### what the solving gives -/
inductive Ans where
  | best (worth : Rat) (point prices : List Rat)
  | empty (weights : List Rat)
  | endless (point ray : List Rat)
def Valid (goal : List Rat) (lims : Lims) : Ans → Prop
  | .best w x p => x.length = goal.length ∧ p.length = lims.length ∧ BestFor goal.length lims.length (rowsA lims) (bdsB lims) (at0 goal) x p ∧ w = sumQ lims.length fun k => at0 p k * bdsB lims k
  | .empty p => p.length = lims.length ∧ EmptyFor goal.length lims.length (rowsA lims) (bdsB lims) p
  | .endless x y => x.length = goal.length ∧ y.length = goal.length ∧ (∀ k, k < lims.length → bdsB lims k ≤ sumQ goal.length fun r => rowsA lims k r * at0 x r) ∧ RayFor goal.length lims.length (rowsA lims) (at0 goal) y
/-- the runs of the program -/
inductive Run (lims : Lims) : List Rat → Ans → Prop
  | best {goal : List Rat} {n1 n2 : Nat} {t1 t3 : Tab} {o1 : Option Nat} : Climbs Tab.wants n1 (initTab goal lims) t1 o1 → lastE t1.wants = 0 → Climbs Tab.gains n2 t1.driveOut t3 none →
      Run lims goal (.best (sumQ lims.length fun k => at0 t3.weights k * bdsB lims k) (pricesL t3 t3.gains t3.scale) t3.weights)
  | empty {goal : List Rat} {n1 n2 q : Nat} {t1 t3 : Tab} {o1 : Option Nat} : Climbs Tab.wants n1 (initTab goal lims) t1 o1 → lastE t1.wants = 0 → Climbs Tab.gains n2 t1.driveOut t3 (some q) →
      Run lims goal (.empty (t3.ray q))
  | endless {goal : List Rat} {n1 : Nat} {t1 : Tab} {o1 : Option Nat} {w : Rat} {x p : List Rat} : Climbs Tab.wants n1 (initTab goal lims) t1 o1 → lastE t1.wants ≠ 0 → Run lims (List.replicate goal.length 0) (.best w x p) →
      Run lims goal (.endless x (pricesL t1 t1.wants 1))
  | none {goal : List Rat} {n1 : Nat} {t1 : Tab} {o1 : Option Nat} {p : List Rat} : Climbs Tab.wants n1 (initTab goal lims) t1 o1 → lastE t1.wants ≠ 0 → Run lims (List.replicate goal.length 0) (.empty p) →
      Run lims goal (.empty p)
theorem prices_len {t : Tab} {f : Nat → Int} (F : Facts m f t) (l : List Int) (s : Int) : (pricesL t l s).length = m := by unfold pricesL; rw [List.length_mapIdx, F.len]
theorem weights_len (t : Tab) : t.weights.length = t.many := by unfold Tab.weights; rw [setFold_len, List.length_replicate]
theorem ray_len (t : Tab) (q : Nat) : (t.ray q).length = t.many := by unfold Tab.ray; rw [setFold_len, List.length_set, List.length_replicate]
theorem climbs_facts {row : Tab → List Int} {n : Nat} {t t' : Tab} {o : Option Nat} (C : Climbs row n t t' o) {f : Nat → Int} (F : Facts m f t) : Facts m f t' ∧ t'.scale = t.scale :=
  C.keep (fun t'' => Facts m f t'' ∧ t''.scale = t.scale) (fun _ _ _ _ h _ _ => ⟨facts_turn h.1, h.2⟩) ⟨F, rfl⟩
theorem Good.lastW {t : Tab} (G : Good m N M c hl t) : LP.lastE t.wants = ent t.wants (N + m) := by unfold LP.lastE; rw [G.wn]; rfl
theorem solved (goal : List Rat) (lims : Lims) : ∀ {n1 : Nat} {t1 : Tab} {o1 : Option Nat}, Climbs Tab.wants n1 (initTab goal lims) t1 o1 → lastE t1.wants = 0 → ∃ a, Run lims goal a ∧ Valid goal lims a ∧ ∀ x y, a ≠ .endless x y := by
  intro n1 t1 o1 C hz
  have T := init_told goal lims
  obtain ⟨G0, F0⟩ := init_good goal lims
  obtain ⟨G1, F1, ho, hw⟩ := phase1_end T G0 F0 C
  obtain ⟨Fa1, hs1⟩ := climbs_facts C (init_facts goal lims)
  have hz' := hz
  rw [G1.lastW] at hz'
  obtain ⟨G2, F2, C2⟩ := drive_to T.hl0 G1 F1 (rhs_zero T G1 F1 hz') goal.length (Nat.le_refl _)
  have e : t1.driveTo goal.length = t1.driveOut := by unfold Tab.driveOut; rw [G1.ln]
  rw [e] at G2 F2 C2
  have Fa2 := facts_drive Fa1 t1.lines.length
  have hs2 : t1.driveOut.scale = lcmL (lims.map (·.2)) := by rw [show t1.driveOut.scale = t1.scale from Fa2.2, hs1]; rfl
  obtain ⟨n2, t3, o3, Cg⟩ := phase2 T G2 F2
  obtain ⟨Fa3, hs3⟩ := climbs_facts Cg Fa2.1
  obtain ⟨G3, h⟩ := phase2_end T G2 F2 ⟨C2.rhs, fun i hi => C2.cols i hi hi⟩ Fa2.1 hs2 Cg
  rcases h with ⟨ho3, B⟩ | ⟨q, hq, ho3, E⟩
  · subst ho3
    exact ⟨_, .best C hz Cg, ⟨prices_len Fa3 _ _, by rw [weights_len, G3.many], B, rfl⟩, fun x y => by intro z; cases z⟩
  · subst ho3
    exact ⟨_, .empty C hz Cg, ⟨by rw [ray_len, G3.many], E⟩, fun x y => by intro z; cases z⟩
theorem zero_goal {n1 : Nat} {k : Nat} {lims : Lims} {t1 : Tab} {o1 : Option Nat} (C : Climbs Tab.wants n1 (initTab (List.replicate k 0) lims) t1 o1) : lastE t1.wants = 0 := by
  have T := init_told (List.replicate k 0) lims
  obtain ⟨G0, F0⟩ := init_good (List.replicate k 0) lims
  obtain ⟨G1, F1, ho, hw⟩ := phase1_end T G0 F0 C
  obtain ⟨Fa1, hs1⟩ := climbs_facts C (init_facts _ _)
  rw [G1.lastW]
  refine Classical.byContradiction fun h => ?_
  obtain ⟨_, r2⟩ := ray_of T G1 Fa1 F1 hw h
  rw [sumQ_zero' fun r _ => by rw [at0_rep]; grind] at r2
  exact absurd r2 (by decide)
theorem solve_ends (goal : List Rat) (lims : Lims) : ∃ a, Run lims goal a ∧ Valid goal lims a := by
  have T := init_told goal lims
  obtain ⟨G0, F0⟩ := init_good goal lims
  obtain ⟨n1, t1, o1, C⟩ := phase1 T G0 F0
  by_cases hz : lastE t1.wants = 0
  · obtain ⟨a, h1, h2, _⟩ := solved goal lims C hz
    exact ⟨a, h1, h2⟩
  · obtain ⟨G1, F1, ho, hw⟩ := phase1_end T G0 F0 C
    obtain ⟨Fa1, hs1⟩ := climbs_facts C (init_facts goal lims)
    have hz' := hz
    rw [G1.lastW] at hz'
    obtain ⟨r1, r2⟩ := ray_of T G1 Fa1 F1 hw hz'
    obtain ⟨G0', F0'⟩ := init_good (List.replicate goal.length 0) lims
    obtain ⟨n1', t1', o1', C'⟩ := phase1 (init_told (List.replicate goal.length 0) lims) G0' F0'
    obtain ⟨a, h1, h2, h3⟩ := solved _ lims C' (zero_goal C')
    cases a with
    | best w x p =>
      refine ⟨_, .endless C hz h1, ?_⟩
      obtain ⟨l1, _, B, _⟩ := h2
      rw [List.length_replicate] at l1 B
      exact ⟨l1, prices_len Fa1 _ _, B.within, r1, r2⟩
    | empty p =>
      refine ⟨_, .none C hz h1, ?_⟩
      obtain ⟨l1, E⟩ := h2
      rw [List.length_replicate] at E
      exact ⟨l1, E⟩
    | endless x y => exact absurd rfl (h3 x y)
end LP
end

section
set_option autoImplicit false
namespace LP

/-! ### ratios as the program has them -/
theorem quo_mk {n d : Int} (hd : 0 < d) : quo n d = mkRat n d.toNat := by
  unfold quo
  have e : ((d.toNat : Nat) : Int) = d := by omega
  rw [Rat.mkRat_eq_div]
  have : ((d.toNat : Nat) : Rat) = ((d : Int) : Rat) := by
    have : (((d.toNat : Nat) : Int) : Rat) = ((d : Int) : Rat) := by rw [e]
    exact this
  rw [this]
theorem quo_num {n d : Int} (hd : 0 < d) : (quo n d).num = n / ((Nat.gcd n.natAbs d.natAbs : Nat) : Int) := by
  rw [quo_mk hd, Rat.num_mkRat, if_neg (by omega), Nat.gcd_comm]
  have : d.toNat = d.natAbs := by omega
  rw [this]
theorem quo_den {n d : Int} (hd : 0 < d) : ((quo n d).den : Int) = d / ((Nat.gcd n.natAbs d.natAbs : Nat) : Int) := by
  rw [quo_mk hd, Rat.den_mkRat, if_neg (by omega), Nat.gcd_comm]
  have : d.toNat = d.natAbs := by omega
  rw [this]
  have e : ((d.natAbs : Nat) : Int) = d := by omega
  rw [Int.natCast_ediv, e]
theorem quo_self (q : Rat) : quo q.num q.den = q := by
  rw [quo_mk (by exact_mod_cast q.den_pos)]
  exact Rat.mkRat_self q
theorem quo_plus (a b : Rat) : quo (a.num * b.den + b.num * a.den) (a.den * b.den) = a + b := by
  have : (0 : Int) < (a.den : Int) * (b.den : Int) := Int.mul_pos (by exact_mod_cast a.den_pos) (by exact_mod_cast b.den_pos)
  rw [quo_mk this, Rat.add_def']
  congr 1
theorem quo_times (a b : Rat) : quo (a.num * b.num) (a.den * b.den) = a * b := by
  have : (0 : Int) < (a.den : Int) * (b.den : Int) := Int.mul_pos (by exact_mod_cast a.den_pos) (by exact_mod_cast b.den_pos)
  rw [quo_mk this, Rat.mul_def']
  congr 1
theorem gcd_dvd_num {n d : Int} : ((Nat.gcd n.natAbs d.natAbs : Nat) : Int) ∣ n := Int.ofNat_dvd_left.mpr (Nat.gcd_dvd_left _ _)
theorem gcd_dvd_den {n d : Int} : ((Nat.gcd n.natAbs d.natAbs : Nat) : Int) ∣ d := Int.ofNat_dvd_left.mpr (Nat.gcd_dvd_right _ _)
/-- what // asks when a ratio is made -/
def LowOk (n d : Int) : Prop := 0 < d ∧ (Nat.gcd n.natAbs d.natAbs < 2 ^ 9000 ∨ ((quo n d).num.natAbs ≤ 2 ^ 4400 ∧ (quo n d).den ≤ 2 ^ 4400))
theorem LowOk.pos {n d : Int} (h : LowOk n d) : 0 < d := h.1
theorem gcd_pos' {n d : Int} (hd : 0 < d) : 0 < Nat.gcd n.natAbs d.natAbs := Nat.gcd_pos_of_pos_right _ (by omega)
theorem num_mul {n d : Int} (hd : 0 < d) : n = (quo n d).num * ((Nat.gcd n.natAbs d.natAbs : Nat) : Int) := by
  rw [quo_num hd]; exact (Int.ediv_mul_cancel gcd_dvd_num).symm
theorem den_mul {n d : Int} (hd : 0 < d) : d = ((quo n d).den : Int) * ((Nat.gcd n.natAbs d.natAbs : Nat) : Int) := by
  rw [quo_den hd]; exact (Int.ediv_mul_cancel gcd_dvd_den).symm
theorem LowOk.of_den {n d : Int} (h : 0 < d) (k : d.natAbs < 2 ^ 9000) : LowOk n d :=
  ⟨h, .inl (Nat.lt_of_le_of_lt (Nat.le_of_dvd (by omega) (Nat.gcd_dvd_right _ _)) k)⟩
/-- each // in lowest -/
theorem LowOk.num {n d : Int} (h : LowOk n d) : (Nat.gcd n.natAbs d.natAbs < 2 ^ 9000) ∨ n.natAbs ≤ 2 ^ 4400 * Nat.gcd n.natAbs d.natAbs := by
  rcases h.2 with z | z
  · exact .inl z
  · right
    have e := congrArg Int.natAbs (num_mul (n := n) h.1)
    rw [Int.natAbs_mul, Int.natAbs_natCast] at e
    have z1 := Nat.mul_le_mul_right (Nat.gcd n.natAbs d.natAbs) z.1
    rw [← e] at z1
    exact z1
theorem LowOk.den {n d : Int} (h : LowOk n d) : (Nat.gcd n.natAbs d.natAbs < 2 ^ 9000) ∨ d.natAbs ≤ 2 ^ 4400 * Nat.gcd n.natAbs d.natAbs := by
  rcases h.2 with z | z
  · exact .inl z
  · right
    have e := congrArg Int.natAbs (den_mul (n := n) h.1)
    rw [Int.natAbs_mul, Int.natAbs_natCast, Int.natAbs_natCast] at e
    have z1 := Nat.mul_le_mul_right (Nat.gcd n.natAbs d.natAbs) z.2
    rw [← e] at z1
    exact z1
/-- of a sum's denominator no more goes than the square of what both have in common -/
theorem gcd_plus (a b : Rat) : Nat.gcd (a.num * b.den + b.num * a.den).natAbs (a.den * b.den) ≤ (a.den.gcd b.den) * (a.den.gcd b.den) := by
  have aux := Rat.add.aux a b (g := a.den.gcd b.den) rfl rfl rfl
  simp only at aux
  have hg : 0 < a.den.gcd b.den := Nat.gcd_pos_of_pos_left _ a.den_pos
  have ea : a.den / (a.den.gcd b.den) * (a.den.gcd b.den) = a.den := Nat.div_mul_cancel (Nat.gcd_dvd_left _ _)
  have eb : b.den / (a.den.gcd b.den) * (a.den.gcd b.den) = b.den := Nat.div_mul_cancel (Nat.gcd_dvd_right _ _)
  have e1 : a.num * (b.den : Int) + b.num * (a.den : Int) = (a.num * ((b.den / (a.den.gcd b.den) : Nat) : Int) + b.num * ((a.den / (a.den.gcd b.den) : Nat) : Int)) * ((a.den.gcd b.den : Nat) : Int) := by
    have ea' : (a.den : Int) = ((a.den / (a.den.gcd b.den) : Nat) : Int) * ((a.den.gcd b.den : Nat) : Int) := by exact_mod_cast ea.symm
    have eb' : (b.den : Int) = ((b.den / (a.den.gcd b.den) : Nat) : Int) * ((a.den.gcd b.den : Nat) : Int) := by exact_mod_cast eb.symm
    conv => lhs; rw [ea', eb']
    grind
  have e2 : a.den * b.den = (a.den / (a.den.gcd b.den) * b.den) * (a.den.gcd b.den) := by
    conv => lhs; rw [← ea]
    exact Nat.mul_right_comm _ _ _
  rw [e1, e2, Int.natAbs_mul, Int.natAbs_natCast, Nat.gcd_mul_right, ← aux]
  exact Nat.mul_le_mul_right _ (Nat.le_of_dvd hg (Nat.gcd_dvd_right _ _))
theorem low_plus {a b : Rat} (h : a.den < 2 ^ 4500 ∨ b.den < 2 ^ 4500) : LowOk (a.num * b.den + b.num * a.den) (a.den * b.den) := by
  have hd : (0 : Int) < (a.den : Int) * (b.den : Int) := Int.mul_pos (by exact_mod_cast a.den_pos) (by exact_mod_cast b.den_pos)
  refine ⟨hd, .inl ?_⟩
  have e : ((a.den : Int) * (b.den : Int)).natAbs = a.den * b.den := by rw [Int.natAbs_mul, Int.natAbs_natCast, Int.natAbs_natCast]
  rw [e]
  refine Nat.lt_of_le_of_lt (gcd_plus a b) ?_
  have hg : a.den.gcd b.den < 2 ^ 4500 := by
    rcases h with h | h
    · exact Nat.lt_of_le_of_lt (Nat.le_of_dvd a.den_pos (Nat.gcd_dvd_left _ _)) h
    · exact Nat.lt_of_le_of_lt (Nat.le_of_dvd b.den_pos (Nat.gcd_dvd_right _ _)) h
  have : a.den.gcd b.den * a.den.gcd b.den < 2 ^ 4500 * 2 ^ 4500 := Nat.mul_lt_mul'' hg hg
  rw [← Nat.pow_add] at this
  exact this
theorem low_times {a b : Rat} (h : a.den * b.den < 2 ^ 9000) : LowOk (a.num * b.num) (a.den * b.den) := by
  have hd : (0 : Int) < (a.den : Int) * (b.den : Int) := Int.mul_pos (by exact_mod_cast a.den_pos) (by exact_mod_cast b.den_pos)
  refine .of_den hd ?_
  have e : ((a.den : Int) * (b.den : Int)).natAbs = a.den * b.den := by rw [Int.natAbs_mul, Int.natAbs_natCast, Int.natAbs_natCast]
  rw [e]; exact h
/-- numbers that * may take -/
def Fits (q : Rat) : Prop := q.num.natAbs < 2 ^ 400000 ∧ q.den < 2 ^ 400000
def FitsI (i : Int) : Prop := i.natAbs < 2 ^ 400000
def PlusOk (a b : Rat) : Prop := Fits a ∧ Fits b ∧ LowOk (a.num * b.den + b.num * a.den) (a.den * b.den)
def TimesOk (a b : Rat) : Prop := Fits a ∧ Fits b ∧ LowOk (a.num * b.num) (a.den * b.den)
/-- the sum from the left, from a on -/
def sumFrom (a : Rat) : List Rat → Rat
  | [] => a
  | x :: xs => sumFrom (a + x) xs
def sumL (xs : List Rat) : Rat := sumFrom 0 xs
def TotFrom (a : Rat) : List Rat → Prop
  | [] => True
  | x :: xs => PlusOk a x ∧ TotFrom (a + x) xs
def TotOk (xs : List Rat) : Prop := TotFrom 0 xs
theorem sumFrom_eq : ∀ (a : Rat) (xs : List Rat), sumFrom a xs = a + sumFrom 0 xs
  | a, [] => by show a = a + 0; grind
  | a, x :: xs => by
    show sumFrom (a + x) xs = a + sumFrom (0 + x) xs
    rw [sumFrom_eq (a + x) xs, sumFrom_eq (0 + x) xs]; grind
theorem sumL_cons (x : Rat) (xs : List Rat) : sumL (x :: xs) = x + sumL xs := by
  show sumFrom (0 + x) xs = _
  rw [sumFrom_eq]; unfold sumL; grind
theorem sumL_eq (xs : List Rat) : sumL xs = xs.sum := by
  induction xs with
  | nil => rfl
  | cons x xs ih => rw [sumL_cons, ih, List.sum_cons]
theorem sumFrom_app : ∀ (a : Rat) (xs : List Rat) (x : Rat), sumFrom a (xs ++ [x]) = sumFrom a xs + x
  | a, [], x => rfl
  | a, y :: xs, x => sumFrom_app (a + y) xs x
/-- the i-th step of a sum -/
theorem tot_at : ∀ {a : Rat} {xs : List Rat} {i : Nat} {x : Rat}, TotFrom a xs → xs[i]? = some x → PlusOk (sumFrom a (xs.take i)) x
  | _, [], _, _, _, e => by simp at e
  | a, y :: xs, 0, x, h, e => by
    simp at e; subst e; exact h.1
  | a, y :: xs, i + 1, x, h, e => tot_at (a := a + y) (i := i) h.2 (by simpa using e)
theorem sum_take {a : Rat} {xs : List Rat} {i : Nat} {x : Rat} (e : xs[i]? = some x) : sumFrom a (xs.take (i + 1)) = sumFrom a (xs.take i) + x := by
  rw [List.take_add_one, e]
  exact sumFrom_app a _ x
end LP
end

section
set_option autoImplicit false
namespace LP
/-! ### a program and its prices, by functions -/
theorem sumQ_split (n N : Nat) (F : Nat → Rat) : sumQ (2 * n + N) F = sumQ n (fun j => F (2 * j) + F (2 * j + 1)) + sumQ N fun k => F (2 * n + k) := by
  induction N with
  | zero =>
    induction n with
    | zero => simp only [sumQ]; grind
    | succ n ih =>
      have e : 2 * (n + 1) + 0 = 2 * n + 0 + 1 + 1 := by omega
      rw [e]
      simp only [sumQ, Nat.add_zero] at ih ⊢
      rw [ih]
      grind
  | succ N ih =>
    show sumQ (2 * n + N) F + F (2 * n + N) = _
    rw [ih]; simp only [sumQ]; grind
theorem sumQ_neg (n : Nat) (f : Nat → Rat) : sumQ n (fun i => - f i) = - sumQ n f := by
  have := sumQ_mul n (-1) f
  rw [show (-1 : Rat) * sumQ n f = - sumQ n f by grind] at this
  rw [← this]; exact sumQ_congr fun i _ => by grind
/-- the sum of a mixture of rows with a point, both ways -/
theorem two_ways {n N : Nat} {A : Nat → Nat → Rat} {y x c : Nat → Rat} (h : ∀ j, j < n → (sumQ N fun r => y r * A r j) = c j) :
    (sumQ n fun j => c j * x j) = sumQ N fun r => y r * sumQ n fun j => A r j * x j := by
  have e : (sumQ n fun j => c j * x j) = sumQ n fun j => sumQ N fun r => y r * (A r j * x j) := sumQ_congr fun j hj => by
    rw [← h j hj]
    have := sumQ_mul N (x j) fun r => y r * A r j
    rw [show (sumQ N fun r => y r * A r j) * x j = x j * sumQ N fun r => y r * A r j by grind, ← this]
    exact sumQ_congr fun r _ => by grind
  rw [e, sumQ_comm]
  exact sumQ_congr fun r _ => sumQ_mul n (y r) _
theorem weak {n N : Nat} {A : Nat → Nat → Rat} {b y x c : Nat → Rat} (h : ∀ j, j < n → (sumQ N fun r => y r * A r j) = c j) (hy : ∀ r, r < N → 0 ≤ y r) (hx : ∀ r, r < N → b r ≤ sumQ n fun j => A r j * x j) :
    (sumQ N fun r => y r * b r) ≤ sumQ n fun j => c j * x j := by
  rw [two_ways h]
  exact sumQ_le fun r hr => Rat.mul_le_mul_of_nonneg_left (hx r hr) (hy r hr)
structure Dual (n N : Nat) (A : Nat → Nat → Rat) (b g : Nat → Rat) (A' : Nat → Nat → Rat) (b' g' : Nat → Rat) : Prop where
  e0 : ∀ j, j < n → ∀ r, r < N → A' (2 * j) r = A r j
  o0 : ∀ j, j < n → ∀ r, r < N → A' (2 * j + 1) r = - A r j
  u0 : ∀ k, k < N → ∀ r, r < N → A' (2 * n + k) r = if r = k then 1 else 0
  be : ∀ j, j < n → b' (2 * j) = g j
  bo : ∀ j, j < n → b' (2 * j + 1) = - g j
  bu : ∀ k, k < N → b' (2 * n + k) = 0
  gg : ∀ r, r < N → g' r = - b r
section
variable {n N : Nat} {A A' : Nat → Nat → Rat} {b g b' g' : Nat → Rat}
theorem Dual.even (D : Dual n N A b g A' b' g') {j : Nat} (hj : j < n) (x : Nat → Rat) : (sumQ N fun r => A' (2 * j) r * x r) = sumQ N fun r => x r * A r j :=
  sumQ_congr fun r hr => by rw [D.e0 j hj r hr]; grind
theorem Dual.odd (D : Dual n N A b g A' b' g') {j : Nat} (hj : j < n) (x : Nat → Rat) : (sumQ N fun r => A' (2 * j + 1) r * x r) = - sumQ N fun r => x r * A r j := by
  rw [← sumQ_neg]
  exact sumQ_congr fun r hr => by rw [D.o0 j hj r hr]; grind
theorem Dual.unit (D : Dual n N A b g A' b' g') {k : Nat} (hk : k < N) (x : Nat → Rat) : (sumQ N fun r => A' (2 * n + k) r * x r) = x k := by
  rw [sumQ_single (k := k) hk fun r hr hne => by rw [D.u0 k hk r hr, if_neg hne]; grind, D.u0 k hk k hk, if_pos rfl]; grind
theorem Dual.sum (D : Dual n N A b g A' b' g') (w : Nat → Rat) {r : Nat} (hr : r < N) : (sumQ (2 * n + N) fun k => w k * A' k r) = w (2 * n + r) - sumQ n fun j => A r j * (w (2 * j + 1) - w (2 * j)) := by
  rw [sumQ_split, sumQ_single (k := r) (n := N) hr fun k hk hne => by rw [D.u0 k hk r hr, if_neg (Ne.symm hne)]; grind, D.u0 r hr r hr, if_pos rfl]
  have : (sumQ n fun j => w (2 * j) * A' (2 * j) r + w (2 * j + 1) * A' (2 * j + 1) r) = sumQ n fun j => - (A r j * (w (2 * j + 1) - w (2 * j))) := sumQ_congr fun j hj => by
    rw [D.e0 j hj r hr, D.o0 j hj r hr]; grind
  rw [this, sumQ_neg]; grind
theorem Dual.bd (D : Dual n N A b g A' b' g') (w : Nat → Rat) : (sumQ (2 * n + N) fun k => w k * b' k) = - sumQ n fun j => g j * (w (2 * j + 1) - w (2 * j)) := by
  rw [sumQ_split, sumQ_zero' (n := N) fun k hk => by rw [D.bu k hk]; grind]
  have : (sumQ n fun j => w (2 * j) * b' (2 * j) + w (2 * j + 1) * b' (2 * j + 1)) = sumQ n fun j => - (g j * (w (2 * j + 1) - w (2 * j))) := sumQ_congr fun j hj => by
    rw [D.be j hj, D.bo j hj]; grind
  rw [this, sumQ_neg]; grind
theorem Dual.gl (D : Dual n N A b g A' b' g') (x : Nat → Rat) : (sumQ N fun r => g' r * x r) = - sumQ N fun r => x r * b r := by
  rw [← sumQ_neg]
  exact sumQ_congr fun r hr => by rw [D.gg r hr]; grind
/-- a point of the program of prices -/
theorem Dual.pt (D : Dual n N A b g A' b' g') {x : Nat → Rat} (h : ∀ k, k < 2 * n + N → b' k ≤ sumQ N fun r => A' k r * x r) : (∀ j, j < n → (sumQ N fun r => x r * A r j) = g j) ∧ ∀ r, r < N → 0 ≤ x r := by
  refine ⟨fun j hj => ?_, fun r hr => ?_⟩
  · have h1 := h (2 * j) (by omega)
    have h2 := h (2 * j + 1) (by omega)
    rw [D.even hj, D.be j hj] at h1
    rw [D.odd hj, D.bo j hj] at h2
    grind
  · have h1 := h (2 * n + r) (by omega)
    rwa [D.unit hr, D.bu r hr] at h1
theorem Dual.ry (D : Dual n N A b g A' b' g') {x : Nat → Rat} (h : ∀ k, k < 2 * n + N → 0 ≤ sumQ N fun r => A' k r * x r) : (∀ j, j < n → (sumQ N fun r => x r * A r j) = 0) ∧ ∀ r, r < N → 0 ≤ x r := by
  refine ⟨fun j hj => ?_, fun r hr => ?_⟩
  · have h1 := h (2 * j) (by omega)
    have h2 := h (2 * j + 1) (by omega)
    rw [D.even hj] at h1
    rw [D.odd hj] at h2
    grind
  · have h1 := h (2 * n + r) (by omega)
    rwa [D.unit hr] at h1
theorem Dual.ry' (D : Dual n N A b g A' b' g') {x : Nat → Rat} (h : ∀ j, j < n → (sumQ N fun r => x r * A r j) = 0) (hx : ∀ r, r < N → 0 ≤ x r) {k : Nat} (hk : k < 2 * n + N) : 0 ≤ sumQ N fun r => A' k r * x r := by
  by_cases q : k < 2 * n
  · by_cases e : k % 2 = 0
    · rw [show k = 2 * (k / 2) by omega, D.even (by omega), h _ (by omega)]; exact Rat.le_refl
    · rw [show k = 2 * (k / 2) + 1 by omega, D.odd (by omega), h _ (by omega)]; decide
  · rw [show k = 2 * n + (k - 2 * n) by omega, D.unit (by omega)]; exact hx _ (by omega)
/-- prices of the program of prices are a point -/
theorem Dual.back (D : Dual n N A b g A' b' g') {w : Nat → Rat} (hw : ∀ k, 0 ≤ w k) (h : ∀ r, r < N → (sumQ (2 * n + N) fun k => w k * A' k r) = g' r) {r : Nat} (hr : r < N) : b r ≤ sumQ n fun j => A r j * (w (2 * j + 1) - w (2 * j)) := by
  have h1 := h r hr
  rw [D.sum w hr, D.gg r hr] at h1
  have := hw (2 * n + r)
  grind
end
end LP
end

section
set_option autoImplicit false
namespace LP
/-! ### Cramer's rule by a basis -/
def prodI (n : Nat) (f : Nat → Int) : Int := match n with
  | 0 => 1
  | n + 1 => prodI n f * f n
theorem prodI_congr {n : Nat} {f g : Nat → Int} (h : ∀ i, i < n → f i = g i) : prodI n f = prodI n g := by
  induction n with
  | zero => rfl
  | succ n ih => simp only [prodI]; rw [ih fun i hi => h i (by omega), h n (by omega)]
theorem prodI_ne {n : Nat} {f : Nat → Int} (h : ∀ i, i < n → f i ≠ 0) : prodI n f ≠ 0 := by
  induction n with
  | zero => simp only [prodI]; decide
  | succ n ih => simp only [prodI]; exact Int.mul_ne_zero (ih fun i hi => h i (by omega)) (h n (by omega))
/-- one factor put in the place of another one -/
theorem prodI_swap {n i : Nat} {f g : Nat → Int} (hi : i < n) (h : ∀ k, k < n → k ≠ i → g k = f k) : prodI n g * f i = prodI n f * g i := by
  induction n with
  | zero => omega
  | succ n ih =>
    simp only [prodI]
    by_cases e : i = n
    · subst e
      rw [prodI_congr (f := g) (g := f) fun k hk => h k (by omega) (by omega)]; grind
    · have := ih (by omega) fun k hk hne => h k (by omega) hne
      rw [h n (by omega) (Ne.symm e)]; grind
theorem det_rows {m : Nat} (f : Nat → Nat → Int) (c : Nat → Int) : det m (fun i r => c i * f i r) = prodI m c * det m f := by
  have key : ∀ n, n ≤ m → det m (fun i r => if i < n then c i * f i r else f i r) = prodI n c * det m f := by
    intro n
    induction n with
    | zero => intro _; simp only [prodI]; rw [Int.one_mul]; exact det_congr fun i _ r _ => by rw [if_neg (by omega)]
    | succ n ih =>
      intro hn
      have e : det m (fun i r => if i < n + 1 then c i * f i r else f i r) = det m (up (fun i r => if i < n then c i * f i r else f i r) n fun r => c n * f n r) := by
        refine det_congr fun i _ r _ => ?_
        by_cases q : i = n
        · subst q; rw [up_self, if_pos (by omega)]
        · rw [up_ne _ _ q]
          by_cases z : i < n
          · rw [if_pos z, if_pos (by omega)]
          · rw [if_neg z, if_neg (by omega)]
      rw [e, det_smul _ (by omega)]
      have e2 : det m (up (fun i r => if i < n then c i * f i r else f i r) n fun r => f n r) = det m (fun i r => if i < n then c i * f i r else f i r) := by
        refine det_congr fun i _ r _ => ?_
        by_cases q : i = n
        · subst q; rw [up_self, if_neg (by omega)]
        · rw [up_ne _ _ q]
      rw [e2, ih (by omega)]; simp only [prodI]; grind
  rw [← key m (Nat.le_refl _)]
  exact det_congr fun i hi r _ => by rw [if_pos hi]
theorem det_cols : ∀ {m : Nat} (f : Nat → Nat → Int) (c : Nat → Int), det m (fun i r => c r * f i r) = prodI m c * det m f
  | 0, _, _ => by simp only [det, prodI]; rfl
  | m + 1, f, c => by
    simp only [det, prodI]
    rw [← sumI_mul]
    refine sumI_congr fun k _ => ?_
    have e : skip k (fun i r => c r * f i r) = fun i r => c r * skip k f i r := by
      funext i r; unfold skip; split <;> rfl
    rw [e, det_cols (m := m) (skip k f) c]
    grind
def prodN (n : Nat) (f : Nat → Nat) : Nat := match n with
  | 0 => 1
  | n + 1 => prodN n f * f n
theorem prodN_le {n : Nat} {f g : Nat → Nat} (h : ∀ i, i < n → f i ≤ g i) : prodN n f ≤ prodN n g := by
  induction n with
  | zero => exact Nat.le_refl _
  | succ n ih => simp only [prodN]; exact Nat.mul_le_mul (ih fun i hi => h i (by omega)) (h n (by omega))
theorem prodN_pow {n b : Nat} {f : Nat → Nat} (h : ∀ i, i < n → f i ≤ 2 ^ b) : prodN n f ≤ 2 ^ (b * n) := by
  induction n with
  | zero => exact Nat.le_refl _
  | succ n ih => simp only [prodN]; rw [Nat.mul_succ, Nat.pow_add]; exact Nat.mul_le_mul (ih fun i hi => h i (by omega)) (h n (by omega))
theorem prodN_app (n k : Nat) (f : Nat → Nat) : prodN (n + k) f = prodN n f * prodN k fun i => f (n + i) := by
  induction k with
  | zero => simp only [prodN]; rw [Nat.mul_one]; rfl
  | succ k ih => show prodN (n + k) f * f (n + k) = _; rw [ih]; simp only [prodN]; rw [Nat.mul_assoc]
theorem det_abs2 : ∀ {m : Nat} {f : Nat → Nat → Int} {C : Nat → Nat}, (∀ i, i < m → ∀ r, r < m → (f i r).natAbs ≤ C r) → (det m f).natAbs ≤ prodN m fun r => (r + 1) * C r
  | 0, _, _, _ => by simp [det, prodN]
  | m + 1, f, C, h => by
    have h1 : ∀ k, k < m + 1 → (sgn (m + k) * f k m * det m (skip k f)).natAbs ≤ C m * prodN m fun r => (r + 1) * C r := fun k hk => by
      have a := h k hk m (by omega)
      have b := det_abs2 (m := m) (f := skip k f) (C := C) fun i hi r hr => by
        unfold skip; split
        · exact h i (by omega) r (by omega)
        · exact h (i + 1) (by omega) r (by omega)
      have s : (sgn (m + k)).natAbs = 1 := by unfold sgn; split <;> rfl
      rw [Int.natAbs_mul, Int.natAbs_mul, s, Nat.one_mul]
      exact Nat.mul_le_mul a b
    have h2 := sumI_abs h1
    simp only [det, prodN]
    refine Nat.le_trans h2 (Nat.le_of_eq ?_)
    rw [Nat.mul_comm (prodN m _), Nat.mul_assoc]
variable {m N : Nat} {M : Nat → Nat → Int} {c hl : Nat → Int} {A : Nat → Nat → Rat} {bd g : Nat → Rat} {f : Nat → Int} {sc : Int}
theorem Inv.small2 {S : FS} {C : Nat → Nat} (I : Inv m N M S) (h : ∀ j, j ≤ N + m → ∀ r, r < m → (M j r).natAbs ≤ C r) :
    S.u.natAbs ≤ (prodN m fun r => (r + 1) * C r) ∧ ∀ i, i < m → ∀ j, j ≤ N + m → (S.T i j).natAbs ≤ prodN m fun r => (r + 1) * C r := by
  obtain ⟨s, hs, hu, ht⟩ := I.dt
  have s1 : s.natAbs = 1 := by rcases hs with rfl | rfl <;> rfl
  refine ⟨?_, fun i hi j hj => ?_⟩
  · rw [hu, Int.natAbs_mul, s1, Nat.one_mul]
    exact det_abs2 fun i hi r hr => h _ (Nat.le_of_lt (I.rng i hi)) r hr
  · rw [ht i hi j hj, Int.natAbs_mul, s1, Nat.one_mul]
    refine det_abs2 fun k hk r hr => ?_
    unfold up; split
    · exact h j hj r hr
    · exact h _ (Nat.le_of_lt (I.rng k hk)) r hr
/-- the sizes of a tableau of which the minors are at most D -/
theorem Good.small2 {t : Tab} {D Cg : Nat} (G : Good m N M c hl t) (hhl : ∀ k, hl k = 0 ∨ hl k = 1) (h1 : t.unit.natAbs ≤ D) (h2 : ∀ i, i < m → ∀ j, j ≤ N + m → (ent (t.line i) j).natAbs ≤ D) (hc : ∀ k, (c k).natAbs ≤ Cg) :
    (∀ i j, (ent (t.line i) j).natAbs ≤ D) ∧ (∀ j, (ent t.gains j).natAbs ≤ (m + 1) * Cg * D) ∧ ∀ j, (ent t.wants j).natAbs ≤ m * D := by
  have hL : ∀ i j, (ent (t.line i) j).natAbs ≤ D := fun i j => by
    by_cases q : i < m
    · by_cases z : j ≤ N + m
      · exact h2 i q j z
      · rw [ent_off (by rw [G.lw i q]; omega)]; exact Nat.zero_le _
    · rw [line_off (by rw [G.ln]; omega)]; exact Nat.zero_le _
  refine ⟨hL, fun j => ?_, fun j => ?_⟩
  · by_cases z : j ≤ N + m
    · rw [G.g j z]
      unfold red
      have s := sumI_abs (n := m) (f := fun i => c ((fsOf t).b i) * (fsOf t).T i j) (B := Cg * D) fun i hi => by
        rw [Int.natAbs_mul]; exact Nat.mul_le_mul (hc _) (hL i j)
      have s2 : ((fsOf t).u * c j).natAbs ≤ Cg * D := by
        rw [Int.natAbs_mul, Nat.mul_comm]; exact Nat.mul_le_mul (hc j) h1
      have : (m + 1) * Cg * D = m * (Cg * D) + Cg * D := by grind
      omega
    · rw [ent_off (by rw [G.gn]; omega)]; exact Nat.zero_le _
  · by_cases z : j ≤ N + m
    · rw [G.wsum z]
      exact sumI_abs (n := m) (f := fun i => hl (t.bas i) * ent (t.line i) j) (B := D) fun i hi => by
        rw [Int.natAbs_mul]
        rcases hhl (t.bas i) with e | e <;> rw [e]
        · simp
        · simpa using hL i j
    · rw [ent_off (by rw [G.wn]; omega)]; exact Nat.zero_le _
/-- the basis' vectors by whole numbers of each limit's own -/
def basF (N : Nat) (b : Nat → Nat) (Ah : Nat → Nat → Int) : Nat → Nat → Int := fun i => if b i < N then Ah (b i) else unitCol (b i - N)
theorem cramer {t : Tab} (T : Told m N M c hl A bd g f sc) (G : Good m N M c hl t) (Fs : Facts m f t) {Lk : Nat → Nat} {Ah : Nat → Nat → Int} {be : Nat → Int} (hL : ∀ k, k < N → 0 < Lk k)
    (hA : ∀ k, k < N → ∀ r, r < m → (Ah k r : Rat) = (Lk k : Rat) * A k r) (hb : ∀ k, k < N → (be k : Rat) = (Lk k : Rat) * bd k) {r : Nat} (hr : r < m) :
    det m (basF N t.bas Ah) ≠ 0 ∧ ∃ Y : Int, at0 (pricesL t t.gains sc) r * ((det m (basF N t.bas Ah) : Int) : Rat) = (Y : Rat) := by
  obtain ⟨s, hs, hu, ht⟩ := G.inv.dt
  have s0 : s ≠ 0 := by rcases hs with rfl | rfl <;> decide
  have rng : ∀ i, i < m → t.bas i < N + m := G.inv.rng
  have lamdef : ∃ lam : Nat → Int, ∀ i, lam i = if t.bas i < N then (Lk (t.bas i) : Int) else f (t.bas i - N) := ⟨_, fun _ => rfl⟩
  obtain ⟨lam, hlam⟩ := lamdef
  have bedef : ∃ be' : Nat → Int, ∀ i, be' i = if t.bas i < N then be (t.bas i) else 0 := ⟨_, fun _ => rfl⟩
  obtain ⟨be', hbe⟩ := bedef
  have lam0 : ∀ i, i < m → lam i ≠ 0 := fun i hi => by
    rw [hlam]; split
    · rename_i q; have := hL _ q; omega
    · exact T.fne _ (by have := rng i hi; omega)
  have unitf : ∀ k, k < m → ∀ r', r' < m → f k * unitCol k r' = f r' * unitCol k r' := fun k hk r' hr' => by
    unfold unitCol; split
    · rename_i e; rw [e]
    · simp
  have toInt : ∀ {a b : Int}, (a : Rat) = (b : Rat) → a = b := fun h => by exact_mod_cast h
  have R1 : ∀ i, i < m → ∀ r', r' < m → lam i * M (t.bas i) r' = f r' * basF N t.bas Ah i r' := fun i hi r' hr' => by
    rw [hlam]; unfold basF
    by_cases q : t.bas i < N
    · rw [if_pos q, if_pos q]
      refine toInt ?_
      rw [Rat.intCast_mul, Rat.intCast_mul, T.mA _ q r' hr', hA _ q r' hr']
      have : (((Lk (t.bas i) : Nat) : Int) : Rat) = (Lk (t.bas i) : Rat) := rfl
      rw [this]; grind
    · rw [if_neg q, if_neg q]
      have hk : t.bas i - N < m := by have := rng i hi; omega
      have e := T.helped (t.bas i - N) hk r' hr'
      rw [show N + (t.bas i - N) = t.bas i by omega] at e
      rw [e]; exact unitf _ hk r' hr'
  have R2 : prodI m lam * det m (fun i => M (t.bas i)) = prodI m f * det m (basF N t.bas Ah) := by
    rw [← det_rows, ← det_cols]
    exact det_congr fun i hi r' hr' => R1 i hi r' hr'
  have R3 : ∀ i, i < m → prodI m lam * f r * det m (up (fun k => M (t.bas k)) i (M (N + r))) = prodI m f * (lam i * det m (up (basF N t.bas Ah) i (unitCol r))) := fun i hi => by
    have e1 : prodI m (fun k => if k = i then f r else lam k) * lam i = prodI m lam * f r := by
      have := prodI_swap (f := lam) (g := fun k => if k = i then f r else lam k) hi fun k _ hne => if_neg hne
      rw [if_pos rfl] at this; exact this
    have e2 : prodI m (fun k => if k = i then f r else lam k) * det m (up (fun k => M (t.bas k)) i (M (N + r))) = prodI m f * det m (up (basF N t.bas Ah) i (unitCol r)) := by
      rw [← det_rows, ← det_cols]
      refine det_congr fun k hk r' hr' => ?_
      by_cases q : k = i
      · subst q
        rw [up_self, up_self, if_pos rfl, T.helped r hr r' hr']; exact unitf r hr r' hr'
      · rw [up_ne _ _ q, up_ne _ _ q, if_neg q]; exact R1 k hk r' hr'
    rw [← e1, Int.mul_comm (prodI m _) (lam i), Int.mul_assoc, e2]; grind
  have pf0 : prodI m f ≠ 0 := prodI_ne fun i hi => T.fne i hi
  have pl0 : prodI m lam ≠ 0 := prodI_ne lam0
  have R4 : prodI m lam * t.unit = s * (prodI m f * det m (basF N t.bas Ah)) := by
    have : t.unit = s * det m (fun i => M (t.bas i)) := hu
    rw [this, ← R2]; grind
  have d0 : det m (basF N t.bas Ah) ≠ 0 := fun z => by
    rw [z, Int.mul_zero, Int.mul_zero] at R4
    rcases Int.mul_eq_zero.mp R4 with e | e
    · exact pl0 e
    · have : 0 < t.unit := G.inv.pos
      omega
  have cl : ∀ i, i < m → c (t.bas i) * lam i = sc * be' i := fun i hi => by
    rw [hlam, hbe]
    by_cases q : t.bas i < N
    · rw [if_pos q, if_pos q]
      refine toInt ?_
      rw [Rat.intCast_mul, Rat.intCast_mul, T.cb _ q, hb _ q]
      have : (((Lk (t.bas i) : Nat) : Int) : Rat) = (Lk (t.bas i) : Rat) := rfl
      rw [this]; grind
    · rw [if_neg q, if_neg q, T.c0 _ (by omega)]; simp
  have gs : - ent t.gains (N + r) = sumI m fun i => c (t.bas i) * ent (t.line i) (N + r) := by
    rw [G.g (N + r) (by omega)]
    unfold red
    rw [T.c0 _ (by omega)]
    show - ((fsOf t).u * 0 - sumI m fun i => c (t.bas i) * ent (t.line i) (N + r)) = _
    omega
  have R5 : prodI m lam * (f r * - ent t.gains (N + r)) = s * (sc * (prodI m f * sumI m fun i => be' i * det m (up (basF N t.bas Ah) i (unitCol r)))) := by
    rw [gs, ← Int.mul_assoc, ← sumI_mul, ← sumI_mul, ← sumI_mul, ← sumI_mul]
    refine sumI_congr fun i hi => ?_
    have hti : ent (t.line i) (N + r) = s * det m (up (fun k => M (t.bas k)) i (M (N + r))) := ht i hi (N + r) (by omega)
    have r3 := R3 i hi
    have c3 := cl i hi
    rw [hti]
    have : prodI m lam * f r * (c (t.bas i) * (s * det m (up (fun k => M (t.bas k)) i (M (N + r))))) = s * (c (t.bas i) * (prodI m lam * f r * det m (up (fun k => M (t.bas k)) i (M (N + r))))) := by grind
    rw [this, r3]
    have : s * (c (t.bas i) * (prodI m f * (lam i * det m (up (basF N t.bas Ah) i (unitCol r))))) = s * ((c (t.bas i) * lam i) * (prodI m f * det m (up (basF N t.bas Ah) i (unitCol r)))) := by grind
    rw [this, c3]; grind
  refine ⟨d0, sumI m fun i => be' i * det m (up (basF N t.bas Ah) i (unitCol r)), ?_⟩
  have up0 : (t.unit : Rat) ≠ 0 := cast_ne (by have : 0 < t.unit := G.inv.pos; omega)
  have sc0 : (sc : Rat) ≠ 0 := cast_ne (by have := T.scp; omega)
  have val : at0 (pricesL t t.gains sc) r = - (ent t.gains (N + r) : Rat) * f r / (t.unit * sc) := by
    unfold pricesL
    rw [at0_mapIdx (by rw [Fs.len]; exact hr), Fs.val r hr, G.many]
    unfold quo
    rw [Rat.intCast_mul, Rat.intCast_neg, Rat.intCast_mul]
  have q4 := congrArg (fun z : Int => (z : Rat)) R4
  have q5 := congrArg (fun z : Int => (z : Rat)) R5
  simp only [Rat.intCast_mul, Rat.intCast_neg] at q4 q5
  have l0 : ((prodI m lam : Int) : Rat) ≠ 0 := cast_ne pl0
  have f0 : ((prodI m f : Int) : Rat) ≠ 0 := cast_ne pf0
  have s0' : (s : Rat) ≠ 0 := cast_ne s0
  generalize ((prodI m lam : Int) : Rat) = a at *
  generalize ((prodI m f : Int) : Rat) = b at *
  generalize ((det m (basF N t.bas Ah) : Int) : Rat) = d at *
  generalize ((sumI m fun i => be' i * det m (up (basF N t.bas Ah) i (unitCol r)) : Int) : Rat) = y at *
  generalize at0 (pricesL t t.gains sc) r = x at *
  have v2 : x * (t.unit * sc) = - (ent t.gains (N + r) : Rat) * f r := by rw [val]; grind
  have v3 : x * sc * (a * t.unit) = s * (sc * (b * y)) := by rw [← q5]; grind
  rw [q4] at v3
  have v4 : (sc * s * b) * (x * d) = (sc * s * b) * y := by grind
  have nz : (sc * s * b : Rat) ≠ 0 := fun z => by
    rcases Rat.mul_eq_zero.mp z with z | z
    · rcases Rat.mul_eq_zero.mp z with z | z
      · exact sc0 z
      · exact s0' z
    · exact f0 z
  grind
end LP
end

section
set_option Elab.async false
set_option linter.all false
set_option maxRecDepth 100000
set_option maxHeartbeats 1000000
namespace WB
open PySem PySem.Spec PyProof.Rows L2 LamX

/-! ### what stays -/
abbrev NT (o : HO) : Prop := ∀ ps, o ≠ .tbl ps
/-- all but the tables and what is in S stays; tables stay tables -/
structure Ex (T : List (Addr × Str)) (S : Addr → Prop) (H H' : Hp) : Prop where
  e : ∀ b o, ¬ S b → H b = some o → (∀ ps, o ≠ .tbl ps) → H' b = some o
  t : Tabs T H → Tabs T H'
  k : ∀ b o, H b = some o → NT o → ∃ o', H' b = some o' ∧ NT o'
abbrev No : Addr → Prop := fun _ => False
variable {T : List (Addr × Str)} {S S' : Addr → Prop} {H H1 H2 H' : Hp} {K : PySem.W.Frag}
theorem Ex.refl : Ex T S H H := ⟨fun _ _ _ h _ => h, id, fun _ o h t => ⟨o, h, t⟩⟩
theorem Ex.trans (a : Ex T S H H1) (b : Ex T S H1 H2) : Ex T S H H2 := ⟨fun c o n h t => b.e c o n (a.e c o n h t) t, fun h => b.t (a.t h), fun c o h t => let ⟨o1, h1, t1⟩ := a.k c o h t; b.k c o1 h1 t1⟩
theorem Ex.mono (a : Ex T S H H1) (h : ∀ b, S b → S' b) : Ex T S' H H1 := ⟨fun c o n e t => a.e c o (fun s => n (h c s)) e t, a.t, a.k⟩
theorem Ex.of_no (a : Ex T No H H1) : Ex T S H H1 := a.mono fun _ h => h.elim
theorem tabs_same {H H' : Hp} (h : Tabs T H) (e : ∀ b o, H b = some o → H' b = some o) : Tabs T H' := fun p hp => (h p hp).ext e
theorem Ex.same (e : ∀ b o, H b = some o → H' b = some o) : Ex T S H H' := ⟨fun b o _ h _ => e b o h, fun t => tabs_same t e, fun b o h t => ⟨o, e b o h, t⟩⟩
theorem same_upd {p : Addr} {o : HO} (h : H p = none) : ∀ b x, H b = some x → upd H p o b = some x := fun b x e => by rw [upd_ne (ne_of_none e h)]; exact e
theorem Ex.new {p : Addr} {o : HO} (h : H p = none) : Ex T S H (upd H p o) := .same (same_upd h)
theorem Ex.more {p : Addr} {o : HO} (a : Ex T S H H1) (h : H1 p = none) : Ex T S H (upd H1 p o) := a.trans (.new h)
/-- what may be written -/
inductive Wr : HO → Prop
  | lst (xs : List V) : Wr (.lst xs)
  | ins (C dx : Addr) (fs : List (Str × V)) : Wr (.ins C dx fs)
  | dK (kvs : List (L2.Key × V)) : Wr (.dK kvs)
  | dT (kvs : List (List L2.Key × V)) : Wr (.dT kvs)
theorem Ex.set {p : Addr} {o u : HO} (a : Ex T S H H1) (hp : S p) (hn : H1 p = some u) (hw : Wr u) (ho : NT o := by intro ps z; cases z) : Ex T S H (upd H1 p o) :=
  ⟨fun b x n e t => by rw [upd_ne (fun z => n (by rw [z]; exact hp))]; exact a.e b x n e t, fun t => by
    intro q hq
    obtain ⟨ps, h1, h2, h3⟩ := a.t t q hq
    have hne : q.1 ≠ p := fun z => by
      rw [z, hn] at h1
      cases h1
      cases hw
    refine ⟨ps, by rw [upd_ne hne]; exact h1, h2, fun pos cv hc => ?_⟩
    obtain ⟨c, e1, e2⟩ := h3 pos cv hc
    refine ⟨c, e1, ?_⟩
    rw [upd_ne]
    · exact e2
    · intro z
      rw [z, hn] at e2
      have e3 : u = CodeO p q.2 := Option.some.inj (z ▸ e2)
      unfold CodeO at e3
      rw [e3] at hw
      (cases hw), fun b x h t => by
    by_cases q : b = p
    · exact ⟨o, by rw [q, upd_same], ho⟩
    · obtain ⟨x', h1, t1⟩ := a.k b x h t
      exact ⟨x', by rw [upd_ne q]; exact h1, t1⟩⟩
/-- nothing, or a table -/
def Nw (H : Hp) (p : Addr) : Prop := ∀ o, H p = some o → NT o → False
theorem Nw.of {p : Addr} (h : H p = none) : Nw H p := fun o e _ => by rw [h] at e; cases e
theorem Ex.freeN (a : Ex T S H H') {p : Addr} (h : Nw H' p) : Nw H p := fun o e t => by
  obtain ⟨o', h1, t1⟩ := a.k p o e t
  exact h o' h1 t1
theorem Ex.free (a : Ex T S H H') {p : Addr} (h : H' p = none) : Nw H p := a.freeN (.of h)
theorem Ex.lst (a : Ex T S H H') {p : Addr} {xs : List V} (h : H p = some (.lst xs)) (hs : ¬ S p) : H' p = some (.lst xs) := a.e p _ hs h (fun ps z => by cases z)
theorem Ex.ins (a : Ex T S H H') {p C dx : Addr} {fs : List (Str × V)} (h : H p = some (.ins C dx fs)) (hs : ¬ S p) : H' p = some (.ins C dx fs) := a.e p _ hs h (fun ps z => by cases z)
theorem Ex.tup (a : Ex T No H H') {p : Addr} {xs : List V} (h : H p = some (.tup xs)) : H' p = some (.tup xs) := a.e p _ id h (fun ps z => by cases z)
theorem Ex.sqT (a : Ex T No H H') {p : Addr} {xs : List V} (h : SqT K H p xs) : SqT K H' p xs := by
  rcases h with (h | ⟨o, h⟩) | h
  · exact .inl (.inl (a.e p _ id h (fun ps z => by cases z)))
  · exact .inl (.inr ⟨o, a.e p _ id h (fun ps z => by cases z)⟩)
  · exact .inr h
theorem Ex.sqL (a : Ex T No H H') {p : Addr} {xs : List V} (h : SqL K H p xs) : SqL K H' p xs := by
  rcases h with (h | ⟨o, h⟩) | h
  · exact .inl (.inl (a.e p _ id h (fun ps z => by cases z)))
  · exact .inl (.inr ⟨o, a.e p _ id h (fun ps z => by cases z)⟩)
  · exact .inr h

/-! ### data without lists: kept by all that keeps tuples -/
/-- all tuples stay -/
structure Tu (H H' : Hp) : Prop where
  t : ∀ a xs, H a = some (.tup xs) → H' a = some (.tup xs)
  f : ∀ a o xs, H a = some (.frz o (.tup xs)) → H' a = some (.frz o (.tup xs))
theorem Tu.refl : Tu H H := ⟨fun _ _ h => h, fun _ _ _ h => h⟩
theorem Tu.trans (a : Tu H H1) (b : Tu H1 H2) : Tu H H2 := ⟨fun c xs h => b.t c xs (a.t c xs h), fun c o xs h => b.f c o xs (a.f c o xs h)⟩
theorem Ex.tu (a : Ex T No H H') : Tu H H' := ⟨fun c xs h => a.e c _ id h (fun ps z => by cases z), fun c o xs h => a.e c _ id h (fun ps z => by cases z)⟩
theorem Tu.new {p : Addr} {o : HO} (h : H p = none) : Tu H (upd H p o) := ⟨fun c xs e => by rw [upd_ne (ne_of_none e h)]; exact e, fun c u xs e => by rw [upd_ne (ne_of_none e h)]; exact e⟩
theorem Tu.set {p : Addr} {o u : HO} (hn : H p = some u) (hw : Wr u) : Tu H (upd H p o) :=
  ⟨fun c xs e => (by
    rw [upd_ne]
    · exact e
    · intro z; rw [z, hn] at e; cases e; cases hw), fun c v xs e => (by
    rw [upd_ne]
    · exact e
    · intro z; rw [z, hn] at e; cases e; cases hw)⟩
theorem Tu.sqT (a : Tu H H') {p : Addr} {xs : List V} (h : SqT K H p xs) : SqT K H' p xs := by
  rcases h with (h | ⟨o, h⟩) | h
  · exact .inl (.inl (a.t _ _ h))
  · exact .inl (.inr ⟨o, a.f _ _ _ h⟩)
  · exact .inr h
/-- what is written leaves tuples: S holds no tuple -/
theorem Ex.tuS (a : Ex T S H H') (hS : ∀ p, S p → ∀ u, H p = some u → Wr u) : Tu H H' :=
  ⟨fun c xs h => a.e c _ (fun s => by have := hS c s _ h; cases this) h (fun ps z => by cases z), fun c o xs h => a.e c _ (fun s => by have := hS c s _ h; cases this) h (fun ps z => by cases z)⟩
mutual
/-- no lists in it -/
def flatD : PyData → Bool
  | .none | .bool _ | .int _ | .str _ => true
  | .tuple xs => flatAll xs
  | _ => false
def flatAll : List PyData → Bool
  | [] => true
  | x :: xs => flatD x && flatAll xs
end
theorem flatAll_of : ∀ {xs : List PyData}, (∀ x ∈ xs, flatD x = true) → flatAll xs = true
  | [], _ => rfl
  | x :: xs, h => by
    rw [flatAll, h x List.mem_cons_self, flatAll_of fun y hy => h y (List.mem_cons_of_mem _ hy)]; rfl
mutual
theorem dp_tu (a : Tu H H') : ∀ {d : PyData} {v : V}, flatD d = true → Dp K H v d → Dp K H' v d
  | .none, _, _, h => by cases h; exact .non
  | .bool _, _, _, h => by cases h; exact .bl _
  | .int _, _, _, h => by cases h; exact .int _
  | .str _, _, _, h => by cases h; exact .str _
  | .tuple ds, _, f, h => by
    cases h with
    | tup hs ha => exact .tup (a.sqT hs) (dpAll_tu a (by rwa [flatD] at f) ha)
  | .list _, _, f, _ => by simp [flatD] at f
  | .dict _, _, f, _ => by simp [flatD] at f
theorem dpAll_tu (a : Tu H H') : ∀ {ds : List PyData} {vs : List V}, flatAll ds = true → DpAll K H vs ds → DpAll K H' vs ds
  | [], _, _, h => by cases h; exact .nil
  | d :: ds, _, f, h => by
    rw [flatAll, Bool.and_eq_true] at f
    cases h with
    | cons h1 h2 => exact .cons (dp_tu a f.1 h1) (dpAll_tu a f.2 h2)
end
theorem dpAll_len : ∀ {ds : List PyData} {vs : List V}, DpAll K H vs ds → vs.length = ds.length
  | [], _, h => by cases h; rfl
  | _ :: _, _, h => by
    cases h with
    | cons _ h2 => rw [List.length_cons, List.length_cons, dpAll_len h2]
theorem dpAll_get : ∀ {ds : List PyData} {vs : List V} {i : Nat} {v : V}, DpAll K H vs ds → vs[i]? = some v → ∃ d, ds[i]? = some d ∧ Dp K H v d
  | [], _, _, _, h, e => by cases h; simp at e
  | _ :: _, _, 0, _, h, e => by
    cases h with
    | cons h1 _ => simp at e; subst e; exact ⟨_, rfl, h1⟩
  | _ :: _, _, i + 1, _, h, e => by
    cases h with
    | cons _ h2 => exact dpAll_get (i := i) h2 (by simpa using e)
theorem dpAll_of : ∀ {ds : List PyData} {vs : List V}, vs.length = ds.length → (∀ (i : Nat) v d, vs[i]? = some v → ds[i]? = some d → Dp K H v d) → DpAll K H vs ds
  | [], [], _, _ => .nil
  | d :: ds, v :: vs, h, q => .cons (q 0 v d rfl rfl) (dpAll_of (by simpa using h) fun i v d h1 h2 => q (i + 1) v d (by simpa using h1) (by simpa using h2))
  | [], _ :: _, h, _ => by simp at h
  | _ :: _, [], h, _ => by simp at h
theorem dp_int {i : Int} {v : V} (h : Dp K H v (.int i)) : v = .int i := by cases h; rfl
theorem dp_str {x : Str} {v : V} (h : Dp K H v (.str x)) : v = .str x := by cases h; rfl
theorem dp_tup {ds : List PyData} {v : V} (h : Dp K H v (.tuple ds)) : ∃ a xs, v = .ref a ∧ SqT K H a xs ∧ DpAll K H xs ds := by
  cases h with
  | tup h1 h2 => exact ⟨_, _, rfl, h1, h2⟩

/-! ### ratios, vectors, programs as data -/
def dq (q : Rat) : PyData := .tuple [.int q.num, .int q.den]
def dv (xs : List Rat) : PyData := .tuple (xs.map dq)
def dlim (l : List Rat × Rat) : PyData := .tuple [dv l.1, dq l.2]
def dlims (ls : List (List Rat × Rat)) : PyData := .tuple (ls.map dlim)
def dprog (goal : List Rat) (ls : List (List Rat × Rat)) : PyData := .tuple [.str "program", dv goal, dlims ls]
theorem flat_dq (q : Rat) : flatD (dq q) = true := rfl
theorem flat_dv (xs : List Rat) : flatD (dv xs) = true := by
  unfold dv; rw [flatD]
  exact flatAll_of fun x hx => by obtain ⟨q, _, rfl⟩ := List.mem_map.mp hx; rfl
theorem flat_dlim (l : List Rat × Rat) : flatD (dlim l) = true := by
  unfold dlim; rw [flatD, flatAll, flatAll, flat_dv, flat_dq]; rfl
theorem flat_dlims (ls : List (List Rat × Rat)) : flatD (dlims ls) = true := by
  unfold dlims; rw [flatD]
  exact flatAll_of fun x hx => by obtain ⟨q, _, rfl⟩ := List.mem_map.mp hx; exact flat_dlim q
theorem flat_dprog (g : List Rat) (ls : List (List Rat × Rat)) : flatD (dprog g ls) = true := by
  unfold dprog; rw [flatD, flatAll, flatAll, flatAll, flat_dv, flat_dlims]; rfl
/-- a ratio: a tuple of two ints -/
theorem dp_q {q : Rat} {v : V} (h : Dp K H v (dq q)) : ∃ a, v = .ref a ∧ SqT K H a [.int q.num, .int q.den] := by
  obtain ⟨a, xs, rfl, hs, ha⟩ := dp_tup h
  cases ha with
  | cons h1 h2 => cases h2 with
    | cons h2 h3 => cases h3; cases h1; cases h2; exact ⟨a, rfl, hs⟩
theorem dp_q_of {q : Rat} {a : Addr} (h : SqT K H a [.int q.num, .int q.den]) : Dp K H (.ref a) (dq q) := .tup h (.cons (.int _) (.cons (.int _) .nil))
theorem dp_v {xs : List Rat} {v : V} (h : Dp K H v (dv xs)) : ∃ a vs, v = .ref a ∧ SqT K H a vs ∧ vs.length = xs.length ∧ ∀ (i : Nat) (y : V), vs[i]? = some y → ∃ q, xs[i]? = some q ∧ Dp K H y (dq q) := by
  obtain ⟨a, vs, rfl, hs, ha⟩ := dp_tup h
  refine ⟨a, vs, rfl, hs, by simpa using dpAll_len ha, fun i y e => ?_⟩
  obtain ⟨d, e2, h2⟩ := dpAll_get ha e
  rw [List.getElem?_map] at e2
  cases e3 : xs[i]? with
  | none => rw [e3] at e2; cases e2
  | some q => rw [e3] at e2; cases e2; exact ⟨q, rfl, h2⟩
theorem dp_v_of {xs : List Rat} {a : Addr} {vs : List V} (h : SqT K H a vs) (hl : vs.length = xs.length) (hi : ∀ (i : Nat) (y : V) (q : Rat), vs[i]? = some y → xs[i]? = some q → Dp K H y (dq q)) : Dp K H (.ref a) (dv xs) :=
  .tup h (dpAll_of (by simpa using hl) fun i v d h1 h2 => by
    rw [List.getElem?_map] at h2
    cases e3 : xs[i]? with
    | none => rw [e3] at h2; cases h2
    | some q => rw [e3] at h2; cases h2; exact hi i v q h1 e3)
end WB
end

section
set_option Elab.async false
set_option linter.all false
set_option maxRecDepth 100000
set_option maxHeartbeats 1000000
namespace WB
open PySem PySem.Spec PyProof.Rows L2 LamX
variable {T : List (Addr × Str)} {S S' : Addr → Prop} {H H1 H2 H' : Hp} {K : PySem.W.Frag}

/-! ### one lemma for all iterators -/
/-- J gives n items; Y i x H H' tells the item and the heap behind it -/
structure Src (J : It) (Ok : Hp → Prop) (n : Nat) (Y : Nat → V → Hp → Hp → Prop) : Prop where
  go : ∀ i H, Ok H → i < n → J.go i H
  stop : ∀ H, Ok H → J.stop n H
  yld : ∀ i H x H', Ok H → i < n → J.yld i H x H' → Y i x H H'
theorem src_list {a : Addr} {xs : List V} : Src (Itl K a) (fun H => SqL K H a xs) xs.length fun i x H H' => xs[i]? = some x ∧ H' = H where
  go := fun i H h hi => ⟨xs, _, h, List.getElem?_eq_getElem hi⟩
  stop := fun H h => ⟨xs, h, Nat.le_refl _⟩
  yld := fun i H x H' h hi y => ⟨y.2 xs h, y.1⟩
theorem src_tup {a : Addr} {xs : List V} : Src (Itt K a) (fun H => SqT K H a xs) xs.length fun i x H H' => xs[i]? = some x ∧ H' = H where
  go := fun i H h hi => ⟨xs, _, h, List.getElem?_eq_getElem hi⟩
  stop := fun H h => ⟨xs, h, Nat.le_refl _⟩
  yld := fun i H x H' h hi y => ⟨y.2 xs h, y.1⟩
theorem src_range {lo : Int} {n : Nat} : Src (Itr lo n) (fun _ => True) n fun i x H H' => x = .int (lo + i) ∧ H' = H where
  go := fun i H _ hi => hi
  stop := fun H _ => Nat.le_refl _
  yld := fun i H x H' _ hi y => ⟨y.2, y.1⟩
theorem src_zipL {a b : Addr} {xs ys : List V} (hl : xs.length = ys.length) : Src (Itz K a b) (fun H => SqL K H a xs ∧ SqL K H b ys) xs.length
    fun i v H H' => ∃ t x y, v = .ref t ∧ H t = none ∧ H' = upd H t (.tup [x, y]) ∧ xs[i]? = some x ∧ ys[i]? = some y where
  go := fun i H h hi => ⟨xs, ys, _, _, h.1, h.2, List.getElem?_eq_getElem hi, List.getElem?_eq_getElem (by omega)⟩
  stop := fun H h => ⟨xs, ys, h.1, h.2, .inl (Nat.le_refl _)⟩
  yld := fun i H v H' h hi y => by
    obtain ⟨t, x, z, e, n, e2, f1, f2⟩ := y
    exact ⟨t, x, z, e, n, e2, f1 xs h.1, f2 ys h.2⟩
theorem src_zipT {a b : Addr} {xs ys : List V} (hl : xs.length = ys.length) : Src (RZ.ItzT K a b) (fun H => SqT K H a xs ∧ SqT K H b ys) xs.length
    fun i v H H' => ∃ t x y, v = .ref t ∧ H t = none ∧ H' = upd H t (.tup [x, y]) ∧ xs[i]? = some x ∧ ys[i]? = some y where
  go := fun i H h hi => ⟨xs, ys, _, _, h.1, h.2, List.getElem?_eq_getElem hi, List.getElem?_eq_getElem (by omega)⟩
  stop := fun H h => ⟨xs, ys, h.1, h.2, .inl (Nat.le_refl _)⟩
  yld := fun i H v H' h hi y => by
    obtain ⟨t, x, z, e, n, e2, f1, f2⟩ := y
    exact ⟨t, x, z, e, n, e2, f1 xs h.1, f2 ys h.2⟩
theorem src_enum {a : Addr} {xs : List V} : Src (Ite K a) (fun H => SqL K H a xs) xs.length
    fun i v H H' => ∃ t x, v = .ref t ∧ H t = none ∧ H' = upd H t (.tup [.int (i : Nat), x]) ∧ xs[i]? = some x where
  go := fun i H h hi => ⟨xs, _, h, List.getElem?_eq_getElem hi⟩
  stop := fun H h => ⟨xs, h, Nat.le_refl _⟩
  yld := fun i H v H' h hi y => by
    obtain ⟨t, x, e, n, e2, f1⟩ := y
    exact ⟨t, x, e, n, e2, f1 xs h⟩

/-- a for loop -/
theorem for_src {J : It} {Ok : Hp → Prop} {n : Nat} {Y : Nat → V → Hp → Hp → Prop} (Sr : Src J Ok n Y) {g : TG} {tb : TS} {D : Ends} {σ : L2.St} {H : Hp} (Pv : Nat → L2.St → Hp → Prop) (h0 : Pv 0 σ H)
    (ok : ∀ i σ H, i ≤ n → Pv i σ H → Ok H)
    (step : ∀ i v σ H H', i < n → Pv i σ H → Y i v H H' → g v σ H' fun σ2 H2 => tb { D with nx := Pv (i + 1), ct := Pv (i + 1), bk := D.nx } σ2 H2)
    (done : ∀ σ H, Pv n σ H → D.nx σ H) :
    ∃ W : Nat → Nat → L2.St → Hp → Prop, (∃ m, W 0 m σ H) ∧ ∀ i m σ H, W i m σ H → (J.stop i H ∧ D.nx σ H) ∨
      (J.go i H ∧ ∃ N : L2.St → Hp → Prop, (∀ σ' H', N σ' H' → ∃ m', m' < m ∧ W (i + 1) m' σ' H') ∧ ∀ v H', J.yld i H v H' → g v σ H' fun σ2 H2 => tb { D with nx := N, ct := N, bk := D.nx } σ2 H2) := by
  refine ⟨fun i m σ H => m = n - i ∧ i ≤ n ∧ Pv i σ H, ⟨n, rfl, Nat.zero_le _, h0⟩, ?_⟩
  rintro i m σ H ⟨rfl, hi, p⟩
  have hok := ok i σ H hi p
  by_cases hlt : i < n
  · exact .inr ⟨Sr.go i H hok hlt, Pv (i + 1), fun σ' H' p' => ⟨n - (i + 1), by omega, rfl, hlt, p'⟩, fun v H' y => step i v σ H H' hlt p (Sr.yld i H v H' hok hlt y)⟩
  · have e : i = n := by omega
    subst e
    exact .inl ⟨Sr.stop H hok, done σ H p⟩

/-- the places below i that are kept -/
def kept (keep : Nat → Bool) (i : Nat) : List Nat := (List.range i).filter keep
theorem kept_succ (keep : Nat → Bool) (i : Nat) : kept keep (i + 1) = kept keep i ++ if keep i = true then [i] else [] := by
  unfold kept; rw [List.range_succ, List.filter_append]
  congr 1
  by_cases hk : keep i = true
  · rw [if_pos hk]; simp only [List.filter, hk]
  · rw [if_neg hk]; have e : keep i = false := by simpa using hk
    simp only [List.filter, e]
theorem kept_len (keep : Nat → Bool) (i : Nat) : (kept keep i).length ≤ i := by
  unfold kept; exact Nat.le_trans (List.length_filter_le _ _) (by simp)
theorem kept_all (i : Nat) : kept (fun _ => true) i = List.range i := by unfold kept; simp

/-- a comprehension that changes nothing: the kept items one behind the other -/
theorem lc_src {J : It} {Ok : Hp → Prop} {n : Nat} {Y : Nat → V → Hp → Hp → Prop} (Sr : Src J Ok n Y) (hn : n ≤ sizeLine) {g : TG} {tt : TT} {te : TE} {vs : List Nat} {σ : L2.St} {H1 : Hp} {Z : Addr → Hp → Prop}
    (P : Addr → Nat → V → Hp → Prop) (keep : Nat → Bool)
    (ok : ∀ D H, H1 D = none → Ex T (· = D) H1 H → Ok H)
    (stab : ∀ D i y H H', H1 D = none → (∃ acc, H D = some (.lst acc)) → Ex T (· = D) H H' → P D i y H → P D i y H')
    (elt : ∀ D i x H H' (R : Bool → VK), H1 D = none → (∃ acc, H D = some (.lst acc)) → i < n → Ex T (· = D) H1 H → Y i x H H' →
      (keep i = true → ∀ y H3, Ex T No H H3 → P D i y H3 → R true y H3) → (keep i = false → ∀ H3, Ex T No H H3 → R false .non H3) →
      g x (wipe σ vs) H' fun σ2 H2 => wipe σ2 vs = wipe σ vs ∧ tt σ2 H2 fun b H3 => if b = true then te σ2 H3 (R true) else R false .non H3)
    (done : ∀ D ys H, H1 D = none → Ex T No H1 H → H D = some (.lst ys) → ys.length = (kept keep n).length → (∀ (j : Nat) (y : V) (i : Nat), ys[j]? = some y → (kept keep n)[j]? = some i → P D i y H) → Z D H) :
    ∀ D, H1 D = none → ∃ W : Nat → Nat → Hp → Prop, (∃ m, W 0 m (upd H1 D (.lst []))) ∧ ∀ i m H, W i m H →
      (J.stop i H ∧ Z D H) ∨ (J.go i H ∧ ∃ Nx : Hp → Prop, (∀ H', Nx H' → ∃ m', m' < m ∧ W (i + 1) m' H') ∧ ∀ x H', J.yld i H x H' → g x (wipe σ vs) H' fun σ2 H2 => wipe σ2 vs = wipe σ vs ∧ tt σ2 H2 fun b H3 =>
        if b = true then te σ2 H3 fun y H4 => ∃ acc, H4 D = some (.lst acc) ∧ acc.length < sizeLine ∧ Nx (upd H4 D (.lst (acc ++ [y]))) else Nx H3) := by
  intro D hD
  let Pv : Nat → Hp → Prop := fun i H => Ex T (· = D) H1 H ∧ ∃ ys, H D = some (.lst ys) ∧ ys.length = (kept keep i).length ∧ ∀ (j : Nat) (y : V) (k : Nat), ys[j]? = some y → (kept keep i)[j]? = some k → P D k y H
  refine ⟨fun i m H => m = n - i ∧ i ≤ n ∧ Pv i H, ⟨n, rfl, Nat.zero_le _, Ex.new hD, [], upd_same, by unfold kept; rfl, fun j y k e => by simp at e⟩, ?_⟩
  rintro i m H ⟨rfl, hi, ex, ys, hys, hlen, hP⟩
  have hok := ok D H hD ex
  by_cases hlt : i < n
  · refine .inr ⟨Sr.go i H hok hlt, Pv (i + 1), fun H' p' => ⟨n - (i + 1), by omega, rfl, hlt, p'⟩, fun x H' y => ?_⟩
    have base := elt D i x H H' (fun b v H4 => if b = true then ∃ acc, H4 D = some (.lst acc) ∧ acc.length < sizeLine ∧ Pv (i + 1) (upd H4 D (.lst (acc ++ [v]))) else Pv (i + 1) H4) hD ⟨ys, hys⟩ hlt ex (Sr.yld i H x H' hok hlt y)
      (fun hk v H3 ex3 hp => by
        rw [if_pos rfl]
        have h3 : H3 D = some (.lst ys) := ex3.e D _ id hys (fun ps z => by cases z)
        have exD : Ex T (· = D) H1 H3 := ex.trans ex3.of_no
        refine ⟨ys, h3, ?_, exD.set rfl h3 (.lst _), ys ++ [v], upd_same, ?_, ?_⟩
        · have := kept_len keep i; omega
        · rw [List.length_append, hlen, kept_succ, if_pos hk, List.length_append]; rfl
        · have exS : Ex T (· = D) H3 (upd H3 D (.lst (ys ++ [v]))) := Ex.refl.set rfl h3 (.lst _)
          intro j z k e1 e2
          rw [kept_succ, if_pos hk] at e2
          by_cases hj : j < ys.length
          · rw [List.getElem?_append_left hj] at e1
            rw [List.getElem?_append_left (by omega)] at e2
            exact stab D k z H3 _ hD ⟨_, h3⟩ exS (stab D k z H H3 hD ⟨_, hys⟩ ex3.of_no (hP j z k e1 e2))
          · rw [List.getElem?_append_right (by omega)] at e1
            rw [List.getElem?_append_right (by omega)] at e2
            have hj0 : j - ys.length = 0 := by
              cases q : j - ys.length with
              | zero => rfl
              | succ q' => rw [q] at e1; simp at e1
            rw [hj0] at e1
            rw [← hlen, hj0] at e2
            simp at e1 e2
            subst e1 e2
            exact stab D i v H3 _ hD ⟨_, h3⟩ exS hp)
      (fun hk H3 ex3 => by
        rw [if_neg Bool.false_ne_true]
        have h3 : H3 D = some (.lst ys) := ex3.e D _ id hys (fun ps z => by cases z)
        refine ⟨ex.trans ex3.of_no, ys, h3, ?_, fun j z k e1 e2 => ?_⟩
        · rw [hlen, kept_succ, if_neg (by rw [hk]; exact Bool.false_ne_true), List.append_nil]
        · rw [kept_succ, if_neg (by rw [hk]; exact Bool.false_ne_true), List.append_nil] at e2
          exact stab D k z H H3 hD ⟨_, hys⟩ ex3.of_no (hP j z k e1 e2))
    simp only [if_true, Bool.false_eq_true, if_false] at base
    exact base
  · have e : i = n := by omega
    subst e
    have exN : Ex T No H1 H := ⟨fun b o _ h1 t => ex.e b o (fun z => by have z : b = D := z; rw [z, hD] at h1; cases h1) h1 t, ex.t, ex.k⟩
    exact .inl ⟨Sr.stop H hok, done D ys H hD exN hys hlen hP⟩
end WB
end

section
set_option Elab.async false
set_option linter.all false
set_option maxRecDepth 100000
set_option maxHeartbeats 2000000
namespace WB
open PySem PySem.Spec PyProof.Rows L2 LamX

/-! ### enumerate of a tuple -/
theorem meets_enumerate_newT (l : Addr) (items : Array Value) :
    Meets (Builtin.«enumerate.__new__» ⟨[.type "enumerate", .ref l], []⟩) (fun _ R s => s.heap.IsTuple l items ∧
      R (.ok (.ret (.ref (s.heap.push { cls := .type "tuple_iterator", data := .fields #[.ref l, .int 0 0] }).objs.size)))
        { s with heap := (s.heap.push { cls := .type "tuple_iterator", data := .fields #[.ref l, .int 0 0] }).push { cls := .type "enumerate", data := .fields #[.none, .bool false, .ref s.heap.objs.size, rawInt 0, .none, .none] } }) :=
  .of_wp fun prog w A R s h => by
    obtain ⟨hp, g, d, tk, os⟩ := s; obtain ⟨hl, h⟩ := h
    have hsub := sub_enumerate
    have hL : Heap.IsTuple (Shared.heap ⟨hp, g, d, tk, os⟩) l items := hl
    wp_walk
    refine wpAny_stack_any fun st => wpAny_pure ?_
    split
    · rename_i c _ _ _ _ _
      cases (c == Value.type "enumerate")
      · wp_walk using wpAny_pyIter_tuple hL
        exact ⟨_, rfl, h⟩
      · wp_walk using wpAny_pyIter_tuple hL
        exact ⟨_, rfl, h⟩
    · wp_walk using wpAny_pyIter_tuple hL
      exact ⟨_, rfl, h⟩
theorem call_enumerate_tup {prog : Program} {w : World} {A : Around} {E : Value → Shared → Prop} {s : Shared} {l : Addr} {items : Array Value} {Q : Value → Shared → Prop} (hL : s.heap.IsTuple l items)
    (h : ∀ h', IsEnum h' (s.heap.objs.size + 1) s.heap.objs.size 0 .none → h'.IsTupleIter s.heap.objs.size l 0 → h'.objs.size = s.heap.objs.size + 2 →
      (∀ b o, s.heap.get? b = some o → h'.get? b = some o) → Q (.ref (s.heap.objs.size + 1)) { s with heap := h' }) :
    wpAny (model prog w) A (call (.type "enumerate") [.ref l]) Q E s := by
  refine callType_new F.called_enumerate (by decide) (F.typeCall_enumerate_1 _) (F.newCall_enumerate_1 _) (fun obj => F.args_object_init_2 obj _) F.entry_enumerate_new
    (meets_enumerate_newT l items) ⟨hL, ?_⟩
  have hz : (s.heap.push { cls := .type "tuple_iterator", data := .fields #[.ref l, .int 0 0] }).objs.size = s.heap.objs.size + 1 := Heap.size_push ..
  show _ ∧ _
  rw [hz]
  have he : IsEnum ((s.heap.push { cls := .type "tuple_iterator", data := .fields #[.ref l, .int 0 0] }).push
      { cls := .type "enumerate", data := .fields #[.none, .bool false, .ref s.heap.objs.size, rawInt 0, .none, .none] }) (s.heap.objs.size + 1) s.heap.objs.size 0 .none := by
    have := Heap.get?_push_size (s.heap.push { cls := .type "tuple_iterator", data := .fields #[.ref l, .int 0 0] })
      (o := { cls := .type "enumerate", data := .fields #[.none, .bool false, .ref s.heap.objs.size, rawInt 0, .none, .none] }) rfl
    rw [hz] at this; exact this
  refine ⟨⟨_, he, rfl⟩, h _ he ⟨_, Heap.get?_push_of_some _ (Heap.get?_push_size _ rfl), rfl, rfl⟩ (by rw [Heap.size_push, hz]) fun b o x => Heap.get?_push_of_some _ (Heap.get?_push_of_some _ x)⟩

/-- the tuple at a as it stands at each turn, each item in a new pair -/
def IteT (K : PySem.W.Frag) (a : Addr) : It :=
  ⟨fun i H => ∃ (xs : List V) (x : V), SqT K H a xs ∧ xs[i]? = some x, fun i H v H' => ∃ T x, v = .ref T ∧ H T = none ∧ H' = upd H T (.tup [.int (i : Nat), x]) ∧ ∀ xs, SqT K H a xs → xs[i]? = some x, fun i H => ∃ xs : List V, SqT K H a xs ∧ xs.length ≤ i⟩
theorem turn_enumT {P : Program} {w : World} {K : PySem.W.Frag} {elts : List Expr} {kk : Nat} {tpos : Pos} (a e it : Addr) (hai : a ≠ it) :
    Turn P w K (.Tuple elts kk tpos) (IteT K a) [e, it] e (fun i h => (∃ old, IsEnum h e it ((i : Nat) : Int) old) ∧ h.IsTupleIter it a i ∧ e ≠ it ∧ e ≠ a) where
  mem := by simp
  obj := fun i h st b hb => by
    obtain ⟨⟨old, he⟩, ⟨o, ho, hc, hd⟩, _⟩ := st
    have e' : b = e ∨ b = it := by simpa using hb
    rcases e' with z | z
    · rw [z]; exact ⟨_, he, fun v q => nomatch q⟩
    · rw [z]; exact ⟨o, ho, fun v q => by rw [hd] at q; cases q⟩
  keep := fun i h h' st k => let ⟨⟨old, he⟩, hi, hne⟩ := st; ⟨⟨old, k e (by simp) _ he⟩, hi.at fun o q => k it (by simp) o q, hne⟩
  item := by
    intro X hP hw hK hc i pins s σ H E I hf st hg
    subst hP hw hK
    obtain ⟨⟨old, he⟩, hit, hne, hea⟩ := st
    obtain ⟨xs, x, hq, hx⟩ := hg
    obtain ⟨its, rv, p, hz⟩ := I.tuple hq
    obtain ⟨u, hu, ru⟩ := rv.get hx
    have hlt : i < its.toArray.size := by simpa using (List.getElem?_eq_some_iff.mp hu).1
    have hel : e < s.heap.objs.size := Heap.lt_size he
    have hil : it < s.heap.objs.size := by obtain ⟨_, q, _⟩ := hit; exact Heap.lt_size q
    have D := Draws.tuple (prog := X.prog) (w := X.w) (A := X.A.in1) (show X.A.in1.handled = none from I.ok.hd hc) it a hai its.toArray
    refine wpAny_pyNext_enum_itemD D he ⟨hit, p⟩ hlt hne (by simp [hne, hea]) fun u' h' tk hPu ho hit' hT hsz hk => ?_
    obtain rfl : u' = u := by
      have : its.toArray[i]? = some u := by simpa using hu
      rw [this] at hPu; exact (Option.some.inj hPu).symm
    refine ⟨_, rfl, wpAny_letOwnedTupleGo_enum (s := { s with heap := h', toks := tk + 1 }) ho fun h'' he' sb => ?_⟩
    have hT2 : h''.get? s.heap.objs.size = some { cls := .type "tuple", data := .seq #[.int i tk, u'] } := (sb.2 _ (Nat.ne_of_gt hel)).trans hT
    have new : ObjOk X.prog X.w (upd H s.heap.objs.size (.tup [.int (i : Nat), x])) h'' s.heap.objs.size (.tup [.int (i : Nat), x]) :=
      ⟨by show 2 ≤ sizeLine; decide, [.int i tk, u'], .cons ⟨_, rfl⟩ (.cons ru .nil), ⟨_, hT2, rfl, _, rfl⟩⟩
    have I1 : Inv X pins σ (upd H s.heap.objs.size (.tup [.int (i : Nat), x])) { s with heap := h'', toks := tk + 1 } :=
      I.turnedNew (ch := [e, it]) (fun b ob hb q => (sb.2 b (fun z => hb (by simp [z]))).trans (hk b ob (fun z => hb (by simp [z])) (fun z => hb (by simp [z])) q)) hf (Nat.le_refl _) new
    refine ⟨.ref s.heap.objs.size, _, I1, rfl, ⟨_, x, rfl, I.hok.fresh (Nat.le_refl _), rfl, fun ys hy => by rw [I.tuple_inj hy hq]; exact hx⟩, ⟨⟨u', ?_⟩, hit'.1.at fun o q => (sb.2 it (Ne.symm hne)).trans q, hne, hea⟩, fun b hb => ?_⟩
    · have e1 : ((i + 1 : Nat) : Int) = (i : Int) + 1 := by omega
      rw [e1]; exact he'
    · have hb' : b < s.heap.objs.size := by
        have e' : b = e ∨ b = it := by simpa using hb
        rcases e' with z | z
        · rw [z]; exact hel
        · rw [z]; exact hil
      rw [upd_ne (Nat.ne_of_lt hb')]
      exact (hf b hb).1
  done := by
    intro X hP hw hK hc i pins s σ H E I hf st hg
    subst hP hw hK
    obtain ⟨⟨old, he⟩, hit, hne, hea⟩ := st
    obtain ⟨xs, hq, hx⟩ := hg
    obtain ⟨its, rv, p, hz⟩ := I.tuple hq
    obtain ⟨f0, f1, f2, f3, f4, f5⟩ := hf it (by simp)
    have hl := rv.length
    have hT : s.TypeIs (.ref e) "enumerate" := ⟨_, he, rfl⟩
    unfold pyNext
    refine wpAny_bind (wpAny_attempt (wpAny_callSpecial?_slot (name := Str.ofString "__next__") hT F.slot_enumerate_next
      (wpAny_call_entry F.slot_enumerate_next hT F.entry_enumerate_next ?_ (F.args_enumerate_next_1 _))))
    show wpAny _ _ (field (.ref e) 2 >>= _) _ _ _
    refine wpAny_bind (wpAny_field he rfl (x := .ref it) rfl ?_)
    refine wpAny_bind (wpAny_nextOf_tuple_end (show X.A.in1.handled = none from I.ok.hd hc) hit p (by simp; omega) fun h' x he' hx' => ?_)
    obtain ⟨o, ho, hc'⟩ := hx'
    refine wpAny_bind (wpAny_isInstance (T := "StopIteration") (b := true) ⟨o, ho, hc'⟩ isSubtype_stop ?_)
    exact wpAny_pure ⟨rfl, I.turned (t' := s.toks) (fun b o hb q => he' b o hb q) f0 f1 f3 f4 f5⟩
  self := fun A i s Q E st h => let ⟨⟨_, he⟩, _⟩ := st; wpAny_pyIter_enum he h
def iEnumT (K : PySem.W.Frag) (ta : TA) : TI := fun σ H R => ta σ H fun vs H1 => ∃ a xs, vs = [.ref a] ∧ SqT K H1 a xs ∧ R (IteT K a) H1
theorem pi_enumT {X : Cx} {e : Expr} {ta : TA} {p pos tpos : Pos} {elts : List Expr} {kk : Nat} (hg : Gl X "enumerate") (hm : X.mg "enumerate" = none) (ha : PA X [e] ta) (hs : starEach [e] X.env = [(false, eval e X.env)] := by rfl) :
    PI X (.Tuple elts kk tpos) (.Call (.Name "enumerate" p) [e] [] pos) (iEnumT X.K ta) := by
  refine ⟨fun pins s σ H R I h => ?_⟩
  refine Call_ (ld_blt I hg hm boot_enumerate (PyProof.Rows.callWith_type1 (thn (ha.run pos pins s σ H _ I h) fun us s1 ⟨vs, H1, I1, r1, q1⟩ => ?_) hs rfl))
  obtain ⟨a, xs, ex, hq, q⟩ := q1
  subst ex
  cases r1 with
  | cons r rr =>
    cases rr
    cases r
    obtain ⟨its, rv, p', hz⟩ := I1.tuple hq
    refine call_enumerate_tup (show s1.heap.IsTuple a its.toArray from p') fun h' he hit hsz hk => wpAny_pyIter_enum he ?_
    have I2 : Inv X pins σ H1 { s1 with heap := h' } := I1.kept (t' := s1.toks) hk
    obtain ⟨o, ho, _⟩ := id p'
    have hal : a < s1.heap.objs.size := Heap.lt_size ho
    refine ⟨s1.heap.objs.size + 1, [s1.heap.objs.size + 1, s1.heap.objs.size], _, _, H1, rfl, I2, turn_enumT a (s1.heap.objs.size + 1) s1.heap.objs.size (Nat.ne_of_lt hal), ⟨⟨.none, he⟩, hit, Nat.succ_ne_self _, Nat.ne_of_gt (Nat.lt_succ_of_lt hal)⟩, fun b hb => ?_, q⟩
    have e' : b = s1.heap.objs.size + 1 ∨ b = s1.heap.objs.size := by simpa using hb
    have hle : s1.heap.objs.size ≤ b := by
      rcases e' with z | z
      · rw [z]; exact Nat.le_add_right _ _
      · rw [z]; exact Nat.le_refl _
    exact I1.fpOk hle (I1.hok.fresh hle)
theorem src_enumT {K : PySem.W.Frag} {a : Addr} {xs : List V} : Src (IteT K a) (fun H => SqT K H a xs) xs.length
    fun i v H H' => ∃ t x, v = .ref t ∧ H t = none ∧ H' = upd H t (.tup [.int (i : Nat), x]) ∧ xs[i]? = some x where
  go := fun i H h hi => ⟨xs, _, h, List.getElem?_eq_getElem hi⟩
  stop := fun H h => ⟨xs, h, Nat.le_refl _⟩
  yld := fun i H v H' h hi y => by
    obtain ⟨t, x, e, n, e2, f1⟩ := y
    exact ⟨t, x, e, n, e2, f1 xs h⟩

/-! ### zip of a tuple and a list of one length -/
def ItzTL (K : PySem.W.Frag) (a b : Addr) : It :=
  ⟨fun i H => ∃ (xs ys : List V) (x y : V), SqT K H a xs ∧ SqL K H b ys ∧ xs[i]? = some x ∧ ys[i]? = some y,
    fun i H v H' => ∃ T x y, v = .ref T ∧ H T = none ∧ H' = upd H T (.tup [x, y]) ∧ (∀ xs, SqT K H a xs → xs[i]? = some x) ∧ ∀ ys, SqL K H b ys → ys[i]? = some y,
    fun i H => ∃ xs ys : List V, SqT K H a xs ∧ SqL K H b ys ∧ xs.length = i ∧ ys.length = i⟩
theorem turn_zipTL {P : Program} {w : World} {K : PySem.W.Frag} {elts : List Expr} {kk : Nat} {tpos : Pos} {a b z TI TO i1 i2 : Addr} (S : ZipSep2 z TI TO i1 i2 [i1, a] [i2, b]) (h1a : a ≠ i1) (h2b : b ≠ i2) :
    Turn P w K (.Tuple elts kk tpos) (ItzTL K a b) [z, TI, TO, i1, i2] z (fun i h => IsZip h z TI TO .none ∧ IsTupOf2 h TI (.ref i1) (.ref i2) ∧ (∃ x y, IsTupOf2 h TO x y) ∧ h.IsTupleIter i1 a i ∧ h.IsListIter i2 b i) where
  mem := by simp
  obj := fun i h st c hc => by
    obtain ⟨hz, hTI, ⟨x, y, hTO⟩, ⟨o1, e1, _, d1⟩, ⟨o2, e2, _, d2⟩⟩ := st
    have e' : c = z ∨ c = TI ∨ c = TO ∨ c = i1 ∨ c = i2 := by simpa using hc
    rcases e' with q | q | q | q | q
    · rw [q]; exact ⟨_, hz, fun v q => nomatch q⟩
    · rw [q]; exact ⟨_, hTI, fun v q => nomatch q⟩
    · rw [q]; exact ⟨_, hTO, fun v q => nomatch q⟩
    · rw [q]; exact ⟨o1, e1, fun v q => by rw [d1] at q; cases q⟩
    · rw [q]; exact ⟨o2, e2, fun v q => by rw [d2] at q; cases q⟩
  keep := fun i h h' st k => by
    obtain ⟨hz, hTI, ⟨x, y, hTO⟩, h1, h2⟩ := st
    exact ⟨k z (by simp) _ hz, k TI (by simp) _ hTI, ⟨x, y, k TO (by simp) _ hTO⟩, h1.at fun o q => k i1 (by simp) o q, h2.at fun o q => k i2 (by simp) o q⟩
  item := by
    intro X hP hw hK hc i pins s σ H E I hf st hg
    subst hP hw hK
    obtain ⟨hz, hTI, ⟨x0, y0, hTO⟩, h1, h2⟩ := st
    obtain ⟨xs, ys, x, y, hqx, hqy, hx, hy⟩ := hg
    obtain ⟨its, rv, p, _⟩ := I.tuple hqx
    obtain ⟨its2, rv2, p2, _⟩ := I.list hqy
    obtain ⟨u, hu, ru⟩ := rv.get hx
    obtain ⟨u2, hu2, ru2⟩ := rv2.get hy
    have hzl : z < s.heap.objs.size := Heap.lt_size hz
    have D1 := Draws.tuple (prog := X.prog) (w := X.w) (A := X.A.in1) (show X.A.in1.handled = none from I.ok.hd hc) i1 a h1a its.toArray
    have D2 := Draws.list (prog := X.prog) (w := X.w) (A := X.A.in1) (show X.A.in1.handled = none from I.ok.hd hc) i2 b h2b its2.toArray
    have l1 : i < its.toArray.size := by simpa using (List.getElem?_eq_some_iff.mp hu).1
    have l2 : i < its2.toArray.size := by simpa using (List.getElem?_eq_some_iff.mp hu2).1
    refine wpAny_pyNext_zipD2_item S D1 D2 hz hTI hTO ⟨h1, p⟩ ⟨h2, p2.isList⟩ l1 l2 fun u' u2' h' tk hP1 hP2 z' TO' h1' h2' hT hsz hk => ?_
    obtain rfl : u' = u := by
      have : its.toArray[i]? = some u := by simpa using hu
      rw [this] at hP1; exact (Option.some.inj hP1).symm
    obtain rfl : u2' = u2 := by
      have : its2.toArray[i]? = some u2 := by simpa using hu2
      rw [this] at hP2; exact (Option.some.inj hP2).symm
    refine ⟨_, rfl, wpAny_letOwnedTupleGo_zip (s := { s with heap := h', toks := tk }) z' fun h'' z'' sb => ?_⟩
    have hT2 : h''.get? s.heap.objs.size = some { cls := .type "tuple", data := .seq #[u', u2'] } := (sb.2 _ (Nat.ne_of_gt hzl)).trans hT
    have new : ObjOk X.prog X.w (upd H s.heap.objs.size (.tup [x, y])) h'' s.heap.objs.size (.tup [x, y]) :=
      ⟨by show 2 ≤ sizeLine; decide, [u', u2'], .cons ru (.cons ru2 .nil), ⟨_, hT2, rfl, _, rfl⟩⟩
    have I1 : Inv X pins σ (upd H s.heap.objs.size (.tup [x, y])) { s with heap := h'', toks := tk } :=
      I.turnedNew (t' := tk) (ch := [z, TI, TO, i1, i2]) (fun c o hb q => (sb.2 c (fun q' => hb (by simp [q']))).trans (hk c o (fun q' => hb (by simp [q'])) (fun q' => hb (by simp [q'])) (fun q' => hb (by simp [q'])) (fun q' => hb (by simp [q'])) q)) hf (Nat.le_refl _) new
    refine ⟨.ref s.heap.objs.size, _, I1, rfl, ⟨_, x, y, rfl, I.hok.fresh (Nat.le_refl _), rfl, fun l hl => by rw [I.tuple_inj hl hqx]; exact hx, fun l hl => by rw [I.list_inj hl hqy]; exact hy⟩, ⟨z'', ?_, ⟨u', u2', ?_⟩, ?_, ?_⟩, fun c hcm => ?_⟩
    · exact (sb.2 _ S.TIz).trans (hk _ _ S.TIz S.TITO S.TIi1 S.TIi2 hTI)
    · exact (sb.2 _ S.TOz).trans TO'
    · exact h1'.1.at fun o q => (sb.2 _ (Ne.symm S.zi1)).trans q
    · exact h2'.1.at fun o q => (sb.2 _ (Ne.symm S.zi2)).trans q
    · have hlt : c < s.heap.objs.size := by
        have e' : c = z ∨ c = TI ∨ c = TO ∨ c = i1 ∨ c = i2 := by simpa using hcm
        rcases e' with q | q | q | q | q
        · rw [q]; exact hzl
        · rw [q]; exact Heap.lt_size hTI
        · rw [q]; exact Heap.lt_size hTO
        · rw [q]; obtain ⟨_, e1, _⟩ := h1; exact Heap.lt_size e1
        · rw [q]; obtain ⟨_, e2, _⟩ := h2; exact Heap.lt_size e2
      rw [upd_ne (Nat.ne_of_lt hlt)]
      exact (hf c hcm).1
  done := by
    intro X hP hw hK hc i pins s σ H E I hf st hg
    subst hP hw hK
    obtain ⟨hz, hTI, ⟨x0, y0, hTO⟩, h1, h2⟩ := st
    obtain ⟨xs, ys, hqx, hqy, e1, e2⟩ := hg
    obtain ⟨its, rv, p, _⟩ := I.tuple hqx
    obtain ⟨its2, rv2, p2, _⟩ := I.list hqy
    have l1 := rv.length
    have l2 := rv2.length
    have D1 := Draws.tuple (prog := X.prog) (w := X.w) (A := X.A.in1) (show X.A.in1.handled = none from I.ok.hd hc) i1 a h1a its.toArray
    have D2 := Draws.list (prog := X.prog) (w := X.w) (A := X.A.in1) (show X.A.in1.handled = none from I.ok.hd hc) i2 b h2b its2.toArray
    exact wpAny_pyNext_zipD2_end S D1 D2 hz hTI hTO ⟨h1, p⟩ ⟨h2, p2.isList⟩ (by simp; omega) (by simp; omega) (.inl (by simp; omega)) fun h' tk hk => ⟨rfl, I.turnedL (t' := tk) (ch := [z, TI, TO, i1, i2]) (fun c o hb q =>
      hk c o (fun q' => hb (by simp [q'])) (fun q' => hb (by simp [q'])) (fun q' => hb (by simp [q'])) (fun q' => hb (by simp [q'])) q) hf⟩
  self := fun A i s Q E st h => wpAny_pyIter_zip st.1 h
def iZipTL (K : PySem.W.Frag) (ta : TA) : TI := fun σ H R => ta σ H fun vs H1 => ∃ a b xs ys, vs = [.ref a, .ref b] ∧ SqT K H1 a xs ∧ SqL K H1 b ys ∧ R (ItzTL K a b) H1
theorem pi_zipTL {X : Cx} {e e2 : Expr} {ta : TA} {p pos tpos : Pos} {elts : List Expr} {kk : Nat} (hg : Gl X "zip") (hm : X.mg "zip" = none) (ha : PA X [e, e2] ta)
    (hs : starEach [e, e2] X.env = (false, eval e X.env) :: starEach [e2] X.env := by rfl) (hpl : (backTo pos (starEach [e2] X.env)).any (·.1) = false := by rfl) :
    PI X (.Tuple elts kk tpos) (.Call (.Name "zip" p) [e, e2] [] pos) (iZipTL X.K ta) := by
  refine ⟨fun pins s σ H R I h => ?_⟩
  refine Call_ (ld_blt I hg hm PyProof.Rows.boot_zip (PyProof.Rows.callWith_type1 (thn (ha.run pos pins s σ H _ I h) fun us s1 ⟨vs, H1, I1, r1, q1⟩ => ?_) hs hpl))
  obtain ⟨a, b, xs, ys, ex, hqx, hqy, q⟩ := q1
  subst ex
  cases r1 with
  | cons r rr =>
    cases rr with
    | cons r' rr =>
      cases rr
      cases r
      cases r'
      have fresh5 : ∀ c, c ∈ [s1.heap.objs.size + 4, s1.heap.objs.size + 2, s1.heap.objs.size + 3, s1.heap.objs.size, s1.heap.objs.size + 1] → FpOk X pins H1 c := fun c hcm => by
        have e' : c = s1.heap.objs.size + 4 ∨ c = s1.heap.objs.size + 2 ∨ c = s1.heap.objs.size + 3 ∨ c = s1.heap.objs.size ∨ c = s1.heap.objs.size + 1 := by simpa using hcm
        have hle : s1.heap.objs.size ≤ c := by
          rcases e' with z | z | z | z | z
          · rw [z]; exact Nat.le_add_right _ _
          · rw [z]; exact Nat.le_add_right _ _
          · rw [z]; exact Nat.le_add_right _ _
          · rw [z]; exact Nat.le_refl _
          · rw [z]; exact Nat.le_add_right _ _
        exact I1.fpOk hle (I1.hok.fresh hle)
      obtain ⟨its, rv, p1, _⟩ := I1.tuple hqx
      obtain ⟨its2, rv2, p2, _⟩ := I1.list hqy
      obtain ⟨o1, ho1, _⟩ := id p1
      have la : a < s1.heap.objs.size := Heap.lt_size ho1
      have lb : b < s1.heap.objs.size := p2.lt
      refine zip_begins2 (begins_tuple a its.toArray) (begins_list b its2.toArray) p1 p2.isList fun h' hz hTI hTO h1 h2 hsz hk => wpAny_pyIter_zip hz ?_
      have I2 : Inv X pins σ H1 { s1 with heap := h' } := I1.kept (t' := s1.toks) hk
      have n1 : ∀ k : Nat, s1.heap.objs.size + k ≠ a := fun k => Nat.ne_of_gt (Nat.lt_of_lt_of_le la (Nat.le_add_right _ _))
      have n2 : ∀ k : Nat, s1.heap.objs.size + k ≠ b := fun k => Nat.ne_of_gt (Nat.lt_of_lt_of_le lb (Nat.le_add_right _ _))
      have nn : ∀ j k : Nat, j ≠ k → s1.heap.objs.size + j ≠ s1.heap.objs.size + k := fun j k h e => h (Nat.add_left_cancel e)
      have n0 : ∀ k : Nat, k ≠ 0 → s1.heap.objs.size + k ≠ s1.heap.objs.size := fun k h => nn k 0 h
      refine ⟨s1.heap.objs.size + 4, [s1.heap.objs.size + 4, s1.heap.objs.size + 2, s1.heap.objs.size + 3, s1.heap.objs.size, s1.heap.objs.size + 1], _, _, H1, rfl, I2, turn_zipTL (TI := s1.heap.objs.size + 2) (TO := s1.heap.objs.size + 3) (i1 := s1.heap.objs.size) (i2 := s1.heap.objs.size + 1) ⟨nn 2 4 (by decide), nn 3 4 (by decide), nn 2 3 (by decide), n0 2 (by decide), by simp, ?_, ?_, nn 2 1 (by decide), by simp, ?_, ?_, ?_, ?_⟩ (Ne.symm (n1 0)) (Ne.symm (n2 1)), ⟨hz, hTI, ⟨_, _, hTO⟩, ⟨_, h1, rfl, rfl⟩, ⟨_, h2, rfl, rfl⟩⟩, fresh5, q⟩
      · intro hm'; rcases List.mem_cons.mp hm' with z | z
        · exact n0 4 (by decide) z
        · exact n1 4 (List.mem_singleton.mp z)
      · intro hm'; rcases List.mem_cons.mp hm' with z | z
        · exact n0 3 (by decide) z
        · exact n1 3 (List.mem_singleton.mp z)
      · intro hm'; rcases List.mem_cons.mp hm' with z | z
        · exact nn 4 1 (by decide) z
        · exact n2 4 (List.mem_singleton.mp z)
      · intro hm'; rcases List.mem_cons.mp hm' with z | z
        · exact nn 3 1 (by decide) z
        · exact n2 3 (List.mem_singleton.mp z)
      · intro hm'; rcases List.mem_cons.mp hm' with z | z
        · exact n0 1 (by decide) z.symm
        · exact n2 0 (List.mem_singleton.mp z)
      · intro hm'; rcases List.mem_cons.mp hm' with z | z
        · exact n0 1 (by decide) z
        · exact n1 1 (List.mem_singleton.mp z)
theorem src_zipTL {K : PySem.W.Frag} {a b : Addr} {xs ys : List V} (hl : xs.length = ys.length) : Src (ItzTL K a b) (fun H => SqT K H a xs ∧ SqL K H b ys) xs.length
    fun i v H H' => ∃ t x y, v = .ref t ∧ H t = none ∧ H' = upd H t (.tup [x, y]) ∧ xs[i]? = some x ∧ ys[i]? = some y where
  go := fun i H h hi => ⟨xs, ys, _, _, h.1, h.2, List.getElem?_eq_getElem hi, List.getElem?_eq_getElem (by omega)⟩
  stop := fun H h => ⟨xs, ys, h.1, h.2, rfl, hl.symm⟩
  yld := fun i H v H' h hi y => by
    obtain ⟨t, x, z, e, n, e2, f1, f2⟩ := y
    exact ⟨t, x, z, e, n, e2, f1 xs h.1, f2 ys h.2⟩

/-! ### // whose quotient is small, or whose divisor is; lcm -/
theorem noPylong_quo {x y : Int} {q : Nat} (hy : y ≠ 0) (h : x.natAbs ≤ 2 ^ q * y.natAbs) (hq : q ≤ 4400) : Builtin.divisionGoesByPylong x y = false := by
  have hlog : x.natAbs.log2 ≤ q + y.natAbs.log2 := by
    by_cases hx : x.natAbs = 0
    · rw [hx]; simp
    · have hy' : y.natAbs ≠ 0 := by omega
      have h1 : x.natAbs < 2 ^ (q + (y.natAbs.log2 + 1)) := by
        rw [Nat.pow_add]
        exact Nat.lt_of_le_of_lt h ((Nat.mul_lt_mul_left (Nat.two_pow_pos q)).mpr Nat.lt_log2_self)
      have := (Nat.log2_lt hx).mpr h1
      omega
  have key : ¬ (if x == 0 then 0 else x.natAbs.log2 / 30 + 1) > (if y == 0 then 0 else y.natAbs.log2 / 30 + 1) + 150 := by
    rw [if_neg (show ¬ (y == 0) = true by simpa using hy)]
    split
    · omega
    · omega
  show (decide ((if y == 0 then 0 else y.natAbs.log2 / 30 + 1) > 300) && decide ((if x == 0 then 0 else x.natAbs.log2 / 30 + 1) > (if y == 0 then 0 else y.natAbs.log2 / 30 + 1) + 150)) = false
  rw [decide_eq_false key, Bool.and_false]
/-- // by a positive divisor: it is below 2 ^ 9000, or what comes out is below 2 ^ 4400 -/
def CDivP (i j : Int) : Prop := 0 < j ∧ (j.natAbs.log2 < 9000 ∨ i.natAbs ≤ 2 ^ 4400 * j.natAbs)
section
variable {X : Cx}
theorem op_fdivP : OpR X (binaryOp .FloorDiv) (rI CDivP fun i j => .int (i / j)) := opI fun i j _ _ _ _ _ hc q => by
  have h1 : (0 : Int) < j := hc.1
  refine floordiv_int (by omega) (by rw [Int.fdiv_eq_ediv_of_nonneg i (by omega)]; exact q) (.inl ?_)
  rcases hc.2 with h | h
  · exact PyProof.noPylong_of_log2 h
  · exact noPylong_quo (by omega) h (Nat.le_refl _)
def rLcm : List V → Hp → VK → Prop := fun vs H Q => ∃ a b : Nat, vs = [.int a, .int b] ∧ a < 2 ^ 13000 ∧ b < 2 ^ 13000 ∧ Q (.int ((Nat.lcm a b : Nat) : Int)) H
theorem cr_lcm : CallR X (.builtin "math.lcm") rLcm := by
  intro pins s σ H vs us Q I r h
  obtain ⟨a, b, rfl, ha, hb, q⟩ := h
  obtain ⟨t, u, rfl⟩ := Vals.int2 r
  have la : a.log2 ≤ 12999 := PySem.W.mg_log ha
  have lb : b.log2 ≤ 12999 := PySem.W.mg_log hb
  have lm : (max 1 a).log2 ≤ 12999 := PySem.W.mg_log (by
    have : 1 < 2 ^ (12999 + 1) := Nat.one_lt_two_pow (by omega)
    omega)
  have lm2 : (max a b).log2 ≤ 12999 := PySem.W.mg_log (by omega)
  have e1 : Nat.lcm 1 a = a := by simp [Nat.lcm]
  have hl : (Nat.lcm a b).log2 < bitsLine := by
    have e : bitsLine = 134217728 := by decide
    rw [e]
    by_cases h0 : Nat.lcm a b = 0
    · rw [h0]; decide
    · refine (Nat.log2_lt h0).mpr ?_
      have h1 : Nat.lcm a b ≤ a * b := by unfold Nat.lcm; exact Nat.div_le_self _ _
      have h2 : a * b < 2 ^ 13000 * 2 ^ 13000 := Nat.mul_lt_mul'' ha hb
      rw [← Nat.pow_add] at h2
      exact Nat.lt_of_lt_of_le (Nat.lt_of_le_of_lt h1 h2) (Nat.pow_le_pow_right (by omega) (by omega))
  have g := PySem.W.mg_run_lcm (a : Int) t (b : Int) u (by simpa using (by omega : ¬ (max 1 a).log2 / 30 + 1 > 450)) (by simpa using (by omega : ¬ (max a b).log2 / 30 + 1 > 450)) (by simpa [e1] using hl)
  have e2 : ((((Nat.lcm 1 (a : Int).natAbs).lcm (b : Int).natAbs : Nat) : Int)) = ((Nat.lcm a b : Nat) : Int) := by simp [e1]
  rw [e2] at g
  exact call_function_meets PySem.W.MGF.kind_lcm PySem.W.MGF.plain_lcm PySem.W.MGF.entry_lcm (PySem.W.MGF.args_lcm _ _) g.meets ⟨.int _, H, I.tok _, ⟨_, rfl⟩, q⟩
end
end WB
end

section
set_option Elab.async false
set_option linter.all false
set_option maxRecDepth 100000
set_option maxHeartbeats 2000000
namespace WB
open PySem PySem.Spec PyProof.Rows L2 LamX

/-! ### a greater base: some untracked things more that stay -/
def growB (base h : Heap) (as : List Addr) : Heap := PySem.W.hideAll h ((List.range h.objs.size).filter fun b => (base.get? b).isNone && !decide (b ∈ as))
theorem growB_size (base h : Heap) (as : List Addr) : (growB base h as).objs.size = h.objs.size := PySem.W.hideAll_size _ _
theorem growB_get {base h : Heap} {as : List Addr} {b : Addr} {o : Obj} (e : h.get? b = some o) (hb : (base.get? b).isSome = true ∨ b ∈ as) : (growB base h as).get? b = some o := by
  refine PySem.W.hideAll_get _ e fun hm => ?_
  have := (List.mem_filter.mp hm).2
  rw [Bool.and_eq_true, Bool.not_eq_true', decide_eq_false_iff_not, Option.isNone_iff_eq_none] at this
  rcases hb with z | z
  · rw [this.1] at z; cases z
  · exact this.2 z
theorem growB_of {base h : Heap} {as : List Addr} {b : Addr} {o : Obj} (e : (growB base h as).get? b = some o) : h.get? b = some o ∧ ((base.get? b).isSome = true ∨ b ∈ as) := by
  have e1 := PySem.W.of_hideAll _ e
  refine ⟨e1, ?_⟩
  refine Classical.byContradiction fun c => ?_
  rw [not_or] at c
  have hm : b ∈ (List.range h.objs.size).filter fun b => (base.get? b).isNone && !decide (b ∈ as) := by
    refine List.mem_filter.mpr ⟨List.mem_range.mpr (Heap.lt_size e1), ?_⟩
    rw [Bool.and_eq_true, Bool.not_eq_true', decide_eq_false_iff_not]
    exact ⟨by cases q : base.get? b with | none => rfl | some o => rw [q] at c; exact absurd rfl c.1, c.2⟩
  have := PySem.W.hideAll_none _ (h := h) hm
  unfold growB at e
  rw [this] at e
  cases e
section
variable {X : Cx} {pins : List (Addr × Obj)} {σ : L2.St} {H : Hp} {s : Shared}
theorem grow_env0 (I : Inv X pins σ H s) {as : List Addr} (ha : ∀ a ∈ as, H a = none ∧ a ∉ frs X.stack) : Env0 X.prog X.w X.K X.mg (growB X.base s.heap as) X.A X.stack s H := by
  have e0 := I.env0
  have kp : ∀ b o, X.base.get? b = some o → (growB X.base s.heap as).get? b = some o := fun b o e => growB_get (I.bk b o e) (.inl (by rw [e]; rfl))
  have fr : ∀ l : List Env, (∀ b ∈ frs l, b ∉ as) → s.heap.FunFrames X.base l → s.heap.FunFrames (growB X.base s.heap as) l := by
    intro l
    induction l with
    | nil => intro _ _; trivial
    | cons env r ih =>
      intro hs hl
      obtain ⟨hk, ⟨L, o, hf, hn, ho, hd⟩, hr⟩ := hl
      have hL : L ∉ as := hs L (by unfold frs; rw [List.filterMap_cons, hf]; exact List.mem_cons_self)
      refine ⟨hk, ⟨L, o, hf, ?_, ho, hd⟩, ih (fun b hb => hs b (by unfold frs; rw [List.filterMap_cons, hf]; exact List.mem_cons_of_mem _ hb)) hr⟩
      cases q : (growB X.base s.heap as).get? L with
      | none => rfl
      | some u =>
        rcases (growB_of q).2 with z | z
        · rw [hn] at z; cases z
        · exact absurd z hL
  refine ⟨e0.frames, ⟨e0.mod.kin.keeps kp, e0.mod.glob.keeps kp, ?_, e0.mod.nolimit.keeps kp⟩, fun b o e => ?_, Nat.le_of_eq (growB_size _ _ _), fr _ (fun b hb z => (ha b z).2 hb) e0.funs, e0.frf, e0.hok, e0.bare⟩
  · obtain ⟨mb, h1, h2⟩ := e0.mod.blt
    exact ⟨mb, h1.keeps kp, h2⟩
  · obtain ⟨e1, z⟩ := growB_of e
    refine ⟨e1, ?_⟩
    rcases z with z | z
    · cases q : X.base.get? b with
      | none => rw [q] at z; cases z
      | some u => exact (I.bs b u q).2
    · exact (ha b z).1
end

/-! ### x(), x a lambda that stands in the base; it captures one name -/
/-- captured: y, in the cell c0; no other -/
structure OneCell (cl : List (Str × Addr)) (y : Str) (c0 : Addr) : Prop where
  has : cl.lookup y = some c0
  only : ∀ z c, cl.lookup z = some c → z = y ∧ c = c0
/-- the names of such a lambda -/
structure LamOne (scope : Scope) (y : Str) : Prop where
  kind : scope.kind = .function
  co : scope.isCoroutine = false
  gen : scope.isGenerator = false
  own : ∀ z ∈ scope.names, z.2 ≠ .local ∧ z.2 ≠ .cell
  free : ∀ z ∈ scope.names, z.2 = .free → z.1 = y
  at_ : scope.names.lookup y = some .free
def lamOneB (scope : Scope) (y : Str) : Bool :=
  decide (scope.kind = .function) && !scope.isCoroutine && !scope.isGenerator && (scope.names.all fun z => !decide (z.2 = .local) && !decide (z.2 = .cell) && (!decide (z.2 = .free) || decide (z.1 = y))) && decide (scope.names.lookup y = some .free)
theorem lamOne_by {scope : Scope} {y : Str} (h : lamOneB scope y = true) : LamOne scope y := by
  unfold lamOneB at h
  simp only [Bool.and_eq_true, Bool.or_eq_true, Bool.not_eq_true', decide_eq_true_eq, decide_eq_false_iff_not, List.all_eq_true] at h
  obtain ⟨⟨⟨⟨h1, h2⟩, h3⟩, h4⟩, h5⟩ := h
  refine ⟨h1, h2, h3, fun z hz => (h4 z hz).1, fun z hz e => ?_, h5⟩
  rcases (h4 z hz).2 with q | q
  · exact absurd e q
  · exact q
abbrev oneEnv (q : Str) (scope : Scope) (L f c' : Addr) (cl : List (Str × Addr)) : Env := PySem.W.envX q scope L f (.ref c') cl
/-- the context of its body, called from Y at s -/
def oneCx (Y : Cx) (s : Shared) (H : Hp) (q : Str) (scope : Scope) (f c' : Addr) (cl : List (Str × Addr)) (y : Str) : Cx where
  prog := Y.prog
  w := Y.w
  K := Y.K
  mg := Y.mg
  base := Y.base
  A := Y.A.deeper (oneEnv q scope s.heap.objs.size f c' cl)
  N := [y]
  s_0 := s
  H_0 := H
  env := oneEnv q scope s.heap.objs.size f c' cl
  outer := Y.stack
  stack := oneEnv q scope s.heap.objs.size f c' cl :: Y.stack
  ex := []
  fn := fun _ => false
  calm := true
  pn := []
  xe := fun e s' => wpAny (model Y.prog Y.w) (Y.A.deeper (oneEnv q scope s.heap.objs.size f c' cl)) (leaving (oneEnv q scope s.heap.objs.size f c' cl) e) (fun _ _ => False) (fun _ _ => False) s'
section
variable {Y : Cx} {pins : List (Addr × Obj)} {σ : L2.St} {H : Hp} {s : Shared}
theorem one_start {q y : Str} {scope : Scope} {f c' c0 : Addr} {cl : List (Str × Addr)} {h₁ : Heap} {tk : Nat} {oc : Obj} {u : Value} {v : V} (I : Inv Y pins σ H s) (L : LamOne scope y) (hd : Y.A.handled = none) (hcl : OneCell cl y c0)
    (hc : Y.base.get? c0 = some oc) (hcv : oc.data = .cell (some u)) (rv : RelV v u) (hns : h₁.Ns s.heap.objs.size fun z => ([] : List (Str × Value)).reverse.lookup z) (kp : ∀ b o, s.heap.get? b = some o → h₁.get? b = some o) :
    Inv (oneCx Y s H q scope f c' cl y) [] [some v] H { s with heap := h₁, toks := tk } := by
  have e0 := I.env0
  have noA : ∀ b : Addr, b ∉ (oneCx Y s H q scope f c' cl y).ex := fun b z => absurd (show b ∈ ([] : List Addr) from z) (by simp)
  have cellAt : h₁.IsCell c0 (some u) := ⟨oc, kp _ _ (I.bk _ _ hc), hcv⟩
  have nC : H c0 = none := (I.bs _ _ hc).2
  have atC : ∀ z c, cl.lookup z = some c → c = c0 := fun z c e => (hcl.only z c e).2
  refine ⟨⟨e0.mod, L.kind, rfl, rfl, Nat.le_refl _, fun a b c h1 h2 => ?_, fun z hz => ?_, fun z c hz _ => ?_, fun _ => hd, Around.frames_deeper e0.frames, .inr ⟨rfl, rfl⟩, fun b z => absurd z (noA b), e0.bs, e0.bsz, fun b _ _ => noA b,
      fun b z => absurd z (noA b), e0.funs, e0.frf⟩,
    rfl, e0.bare, Un.kept kp, ⟨_, hns, fun i z x e1 e2 e3 => ?_⟩, fun z c e => ?_, e0.hok.fresh (Nat.le_refl _), fun z c e => ?_, fun p hp => absurd (show p ∈ ([] : List (Addr × Obj)) ++ [] from hp) (by simp), e0.hok.kept kp, rfl⟩
  · exact ((hcl.only a c h1).1).trans ((hcl.only b c h2).1).symm
  · have hz : scope.names.lookup z = some .cell ∨ scope.names.lookup z = some .free := hz
    rcases hz with k | k
    · exact absurd rfl (L.own _ (PySem.mem_of_lookup k)).2
    · have : z = y := L.free _ (PySem.mem_of_lookup k) rfl
      rw [this]; exact ⟨c0, hcl.has⟩
  · exact nomatch (show false = true from hz)
  · have e1 : ([y] : List Str)[i]? = some z := e1
    have e2 : ([some v] : L2.St)[i]? = some (some x) := e2
    have hi : i = 0 := by
      cases i with
      | zero => rfl
      | succ n => simp at e2
    subst hi
    simp at e1 e2
    subst e1 e2
    exact ⟨u, rv, .inr ⟨.inr L.at_, c0, hcl.has, cellAt⟩⟩
  · rw [atC z c e]; exact ⟨_, cellAt⟩
  · rw [atC z c e]; exact nC
theorem pe_lam1 {k : Nat} {q y a : Str} {f c' c0 : Addr} {pm ctv : Value} {params : Arguments} {body : Expr} {scope : Scope} {cl : List (Str × Addr)} {oc : Obj} {u : Value} {v : V} {tv tb : TE} {p1 p2 : Pos}
    (hf : Y.base.get? f = some (PySem.W.kla_obj "<lambda>" q params body scope cl pm c' ctv)) (hc : Y.base.get? c0 = some oc) (hcv : oc.data = .cell (some u)) (rv : RelV v u) (hcl : OneCell cl y c0) (L : LamOne scope y)
    (hbind : bindArgs (PySem.W.kla_fn "<lambda>" q params body scope cl pm (.ref c') ctv) ⟨[], []⟩ = pure []) (hr : Room (k + 1) Y.A)
    (hbody : ∀ (s : Shared) (H : Hp), Room k (oneCx Y s H q scope f c' cl y).A → PE (oneCx Y s H q scope f c' cl y) body tb) (hv : PE Y (.Name a p1) tv) :
    PE Y (.Call (.Name a p1) [] [] p2) (fun σ H Q => tv σ H fun x H1 => x = .ref f ∧ H1 c' = some (CodeO c' q) ∧ tb [some v] H1 Q) := by
  refine ⟨fun pins s σ H Q I h => ?_⟩
  refine wpAny_Call_Name_kw (thn (hv.run pins s σ H _ I h) fun w s1 ⟨x, H1, I1, r1, q1⟩ => ?_)
  obtain ⟨ev, hco, ht⟩ := q1
  subst ev
  obtain rfl : w = Value.ref f := r1
  have of1 := I1.bk _ _ hf
  refine PySem.W.callWith_F0 ⟨_, _, _, _, of1⟩ ?_
  obtain ⟨⟨oc', vs, t, hoc, hdc, hvc⟩, _, _⟩ := I1.hok c' _ hco
  have rc : codeAny (model Y.prog Y.w) Y.A (.call (.ref f) ⟨[], []⟩) (CR C8.CX0 Y.stack Y.prog Y.w H1 s1 Q C8.E0) s1 := by
    refine PySem.W.kla_callFunE hr.depth of1 rfl L.co L.gen rfl ⟨c', oc', vs, t, rfl, hoc, hdc, hvc⟩ ?_
    rw [hbind]
    refine wpAny_pure (wpAny_newFunctionEnv (fun z hz => (L.own z hz).2) (fun z hz => absurd hz (by simp)) (fun h₁ hns hsb => ⟨I1.nolimit.fresh _ hsb, ?_⟩) L.kind)
    show codeAny _ _ (.expr body (oneEnv q scope s1.heap.objs.size f c' cl)) _ _
    have kp : ∀ b o, s1.heap.get? b = some o → h₁.get? b = some o := fun b o e => hsb.extBut b o (Nat.ne_of_lt (Heap.lt_size e)) (Heap.get?_push_of_some _ e)
    have J : Inv (oneCx Y s1 H1 q scope f c' cl y) [] [some v] H1 { s1 with heap := h₁, toks := s1.toks + ([] : List (Str × Value)).length } :=
      one_start I1 L hr.hd hcl hc hcv rv hns kp
    refine PySem.W.kla_codeExpr (wpAny_mono ((hbody s1 H1 (hr.deeper _)).run [] _ _ H1 Q J ht) (fun w s' hq => ?_) fun e s' hq => wpAny_mono hq (fun _ _ z => z.elim) (fun _ _ z => z.elim))
    obtain ⟨w', H', J', rv, q⟩ := hq
    exact ⟨w', H', J'.os, J'.bare, J'.base, J'.hok, rv, q⟩
  refine wpAny_call (codeAny_mono rc fun r s' hq => ?_)
  cases r with
  | error e => exact (show False from hq).elim
  | ok fl =>
    cases fl with
    | ret u => exact I1.after hq
    | next => exact False.elim hq
    | brk => exact False.elim hq
    | cont => exact False.elim hq
end

/-! ### o.m(lambda: body) -/
section
variable {X : Cx}
/-- what is promised of o.m, told the lambda's thing f, its code object c' and the captured value v -/
abbrev SpLam := Addr → Addr → V → Sp
/-- iy: the captured name's place -/
def tMethLam (T : List (Addr × Str)) (C : Addr) (m q : Str) (iy : Nat) (sp : SpLam) (ta : TE) : TE := fun σ H Q => ta σ H fun x H1 => ∃ a dx fs v, x = .ref a ∧ H1 a = some (.ins C dx fs) ∧ fs.lookup m = none ∧ σ[iy]? = some (some v) ∧ Tabs T H1 ∧
  ∀ f c' H2, ExtN H1 H2 → Tabs T H2 → H2 f = none → H2 c' = some (CodeO c' q) → sp f c' v [x, .ref f] H2 Q C8.E0
theorem pe_methlam {T : List (Addr × Str)} {C g c P : Addr} {k iy : Nat} {m y : Str} {fd : FuncData} {ps : List Str} {sp : SpLam} {o : Expr} {ta : TE} {params : Arguments} {body : Expr} {scope : Scope} {apos lpos pos : Pos} {pl : Sem Bool}
    (he : PE X o ta) (cc : Cls X.K C) (hm : Meth X.K C m g) (hb : L2.Binds X.K fd ps []) (hps : ps.length = 2)
    (hF : ∀ (base : Heap) (f c' c0 : Addr) (cl : List (Str × Addr)) (pm ctv : Value) (oc : Obj) (u : Value) (v : V), base.get? f = some (PySem.W.kla_obj "<lambda>" (X.env.qual ++ "<lambda>") params body scope cl pm c' ctv) → OneCell cl y c0 →
      base.get? c0 = some oc → oc.data = .cell (some u) → RelV v u → FnOk X.prog X.w X.K X.mg base C8.CX0 k g fd ps (sp f c' v))
    (hr : Room k X.A) (TB : TabB X.base X.mg c P) (hcode : X.env.code = .ref c) (hmT : (P, X.env.qual ++ "<lambda>") ∈ T) (hu : ∀ p ∈ T, p.1 = P → p.2 = X.env.qual ++ "<lambda>") (L : LamOne scope y) (hdef : defaultsOf params X.env = ([], []))
    (hN : X.N[iy]? = some y) (hsc : X.env.scope.names.lookup y = some .cell) (hfn : X.fn y = true)
    (ht : eval (.Call (.Attribute o m apos) [.Lambda params body scope lpos] [] pos) X.env = (do
      let ov ← eval o X.env
      standAt apos.atName
      let (f, first) ← holding [ov] (getMethod ov m pl)
      callWith pos f first (backTo pos (starEach [.Lambda params body scope lpos] X.env)) (backToKw pos (keywordEach [] X.env))) := by rfl) :
    PE X (.Call (.Attribute o m apos) [.Lambda params body scope lpos] [] pos) (tMethLam T C m (X.env.qual ++ "<lambda>") iy sp ta) := by
  refine ⟨fun pins s σ H Q I h => ?_⟩
  refine PySem.W.methodCall_KW (pl := pl) (thn (he.run pins s σ H _ I h) fun w s1 ⟨x, H1, I1, rx, a, dx, fs, v, ex, ea, l, hv, hT, q⟩ => ?_) ht
  subst ex
  obtain rfl : w = Value.ref a := rx
  refine getmeth_ok I1 ea cc hm l ?_
  refine PySem.W.callWith_K (first := [.ref a]) (h₀ := X.base) I.ok.mod.kin hm.kp ?_ (by rfl) (by rfl)
  show wpAny _ _ (spliced ((false, eval (.Lambda params body scope lpos) X.env) :: backTo pos (starEach [] X.env))) _ _ s1
  have hy : X.env.kindOf y = some .cell := hsc
  have hfree : ∀ z ∈ scope.names, z.2 = .free → ∃ c, X.env.cells.lookup z.1 = some c := fun z hz e => by
    rw [L.free z hz e]
    exact I1.ok.has y (.inl hy)
  refine Calls.spliced_cons (lam_make2 I1 TB hcode hmT hu hT hdef hfree fun f c' pm' ctv H2 s2 I2 eN T1 hf hfn0 hfr hco => ?_)
  refine Calls.spliced_nil ⟨I2.kIn, ?_⟩
  obtain ⟨c0, hc0⟩ := I2.ok.has y (.inl hy)
  obtain ⟨mm, hn, hl⟩ := I2.loc
  obtain ⟨u, rv, lk⟩ := hl iy y v hN hv (.inr (.inl hsc))
  have hcell : s2.heap.IsCell c0 (some u) := by
    rcases lk with ⟨k1, _⟩ | ⟨_, c, e, z⟩
    · rw [hy] at k1; cases k1
    · rw [hc0] at e; cases e; exact z
  obtain ⟨oc, ho, hcv⟩ := hcell
  have nf : c0 ∉ frs X.stack := fun z => by
    rcases List.mem_cons.mp (I2.stkSub _ z) with e | e
    · exact I2.cne y c0 hc0 e
    · obtain ⟨_, o', ho', _⟩ := I2.ok.funs.mem e
      exact absurd (Nat.lt_of_lt_of_le (Heap.lt_size ho') (I2.ok.cab y c0 hfn hc0)) (Nat.lt_irrefl _)
  have hcl : OneCell (cloFrom X.env.cells scope.names []) y c0 := by
    have on : ∀ z c, (z, c) ∈ cloFrom X.env.cells scope.names [] → z = y ∧ c = c0 := fun z c e => by
      rcases cloFrom_mem e with hm' | ⟨h1, h2⟩
      · cases hm'
      · have ez := L.free _ h1 rfl
        have ez : z = y := ez
        subst ez
        rw [hc0] at h2
        exact ⟨rfl, h2⟩
    refine ⟨?_, fun z c e => on z c (PySem.mem_of_lookup e)⟩
    obtain ⟨c, e⟩ := mem_lookup (cloFrom_has (cells := X.env.cells) (acc := []) (PySem.mem_of_lookup L.at_))
    rw [e, (on _ _ (PySem.mem_of_lookup e)).2]
  have hg1 : (growB X.base s2.heap [f, c0]).get? f = some (PySem.W.kla_obj "<lambda>" (X.env.qual ++ "<lambda>") params body scope (cloFrom X.env.cells scope.names []) pm' c' ctv) := growB_get hf (.inr List.mem_cons_self)
  have hg2 : (growB X.base s2.heap [f, c0]).get? c0 = some oc := growB_get ho (.inr (by simp))
  have F := hF _ f c' c0 _ pm' ctv oc u v hg1 hcl hg2 hcv rv
  have sq := q f c' H2 eN T1 hfn0 hco
  have rc : codeAny (model X.prog X.w) X.A (.call (.ref g) ⟨[.ref a, .ref f], []⟩) (CR C8.CX0 X.stack X.prog X.w H2 s2 Q C8.E0) s2 := by
    have hbs := hb s2 [.ref a, .ref f] I2.kIn (by rw [hps]; rfl)
    refine F.run X.A X.stack s2 H2 ⟨[.ref a, .ref f], []⟩ [.ref a, .ref f] [.ref a, .ref f] Q C8.E0 hr (grow_env0 I2 fun b hb' => ?_) hbs (.cons rfl (.cons rfl .nil)) sq
    rcases List.mem_cons.mp hb' with e | e
    · rw [e]; exact ⟨hfn0, hfr⟩
    · rw [List.mem_singleton.mp e]; exact ⟨I2.freeC y c0 hc0, nf⟩
  refine wpAny_call (codeAny_mono rc fun r s3 hq => ?_)
  cases r with
  | error e => exact (show False from hq).elim
  | ok fl =>
    cases fl with
    | ret u => exact I2.after hq
    | next => exact False.elim hq
    | brk => exact False.elim hq
    | cont => exact False.elim hq
end
end WB
end

section
set_option Elab.async false
set_option linter.all false
set_option maxRecDepth 100000
set_option maxHeartbeats 2000000
namespace WB
open PySem PySem.Spec PyProof.Rows L2 LamX
section
variable {X : Cx} {K : PySem.W.Frag}
/-! ### the rules with the written part K told: in a comprehension's block X.K is K only by computing -/
theorem kix_list (h : X.K = K := by rfl) : IxR X (rIxL K) := h ▸ ix_list
theorem kix_tup (h : X.K = K := by rfl) : IxR X (rIxT K) := h ▸ ix_tup
theorem ksl_list (h : X.K = K := by rfl) : SlR X (rSlL K) := h ▸ sl_list
theorem ksl_tup (h : X.K = K := by rfl) : SlR X (rSlA K) := h ▸ sl_tupA
def rLenS (K : PySem.W.Frag) : List V → Hp → VK → Prop := fun xs H Q => ∃ p ys, xs = [.ref p] ∧ (SqL K H p ys ∨ SqT K H p ys) ∧ Q (.int ys.length) H
theorem klen (h : X.K = K := by rfl) : CallR X (.builtin "len") (rLenS K) := h ▸ call_len_seq
def rListOf (K : PySem.W.Frag) : List V → Hp → VK → Prop := fun xs H Q => ∃ p ys, xs = [.ref p] ∧ (SqL K H p ys ∨ SqT K H p ys) ∧ ∀ l, H l = none → Q (.ref l) (upd H l (.lst ys))
theorem klist (h : X.K = K := by rfl) : CallR X (.type "list") (rListOf K) := h ▸ call_list_of
def rTupOf (K : PySem.W.Frag) : List V → Hp → VK → Prop := fun xs H Q => ∃ p ys, xs = [.ref p] ∧ ((SqL K H p ys ∧ ∀ l, H l = none → Q (.ref l) (upd H l (.tup ys))) ∨ (SqT K H p ys ∧ Q (.ref p) H))
theorem ktuple (h : X.K = K := by rfl) : CallR X (.type "tuple") (rTupOf K) := h ▸ call_tuple_of
theorem ksum (hc : X.calm = true) (h : X.K = K := by rfl) : CallR X (.builtin "sum") (rSum K) := h ▸ cr_sum hc
theorem kany (hc : X.calm = true) (h : X.K = K := by rfl) : CallR X (.builtin "any") (rAny K) := h ▸ cr_any hc
theorem kall (hc : X.calm = true) (h : X.K = K := by rfl) : CallR X (.builtin "all") (rAll K) := h ▸ cr_all hc
theorem kisi (h : X.K = K := by rfl) : CallR X (.builtin "isinstance") (rIsi K) := h ▸ call_isi
theorem keqD (hu : X.A.units + 64 < cLine) (h : X.K = K := by rfl) : OpR X (compareOp .Eq) (rEqD K) := h ▸ op_eqD hu
theorem kneD (hu : X.A.units + 64 < cLine) (h : X.K = K := by rfl) : OpR X (compareOp .NotEq) (rNeD K) := h ▸ op_neD hu
theorem kinS (h : X.K = K := by rfl) : OpR X (compareOp .In) (rIn K false) := h ▸ op_in_seq
theorem knotinS (h : X.K = K := by rfl) : OpR X (compareOp .NotIn) (rIn K true) := h ▸ op_notIn_seq
theorem kcatT (h : X.K = K := by rfl) : OpR X (binaryOp .Add) (rCatA K) := h ▸ op_catA
theorem kfld {e : Expr} {ta : TE} {f : Str} {pos : Pos} (he : PE X e ta) (hb : attributeBase e f X.env (eval e X.env) = eval e X.env) (h : X.K = K := by rfl) : PE X (.Attribute e f pos) (tFld K ta f) := h ▸ pe_fld he hb
theorem kpg_tup {es : List Expr} {k : Nat} {t : TGs} {n : Nat} {pos : Pos} (hc : X.calm = true) (hg : PGs X es t) (h : X.K = K := by rfl)
    (hn : (assignEach es X.env).length = n := by rfl) (hst : (assignEach es X.env).findIdx? (·.1) = none := by rfl) : PG X (.Tuple es k pos) (gTup K n t) := h ▸ pg_tup hc hg hn hst
/-- o.f = .., as a target -/
def gFld (K : PySem.W.Frag) (to : TE) (f : Str) : TG := fun v σ H Q => to σ H fun x H1 => ∃ a C dx fs, x = .ref a ∧ H1 a = some (.ins C dx fs) ∧ Cls K C ∧ NoAttr K C f ∧ fs.length < 1000 ∧ Q σ (upd H1 a (.ins C dx (putF f v fs)))
theorem pg_attr {o : Expr} {to : TE} {f : Str} {pos : Pos} (ho : PE X o to) : PG X (.Attribute o f pos) (gFld X.K to f) := by
  refine ⟨fun pins s σ H v u Q I r h => ?_⟩
  rw [PySem.assign_Attribute]
  refine wpAny_bind (wpAny_holding (thn (ho.run pins s σ H _ I h) fun ov s1 ⟨x, H1, I1, r1, q1⟩ => ?_))
  obtain ⟨a, C, dx, fs, rfl, ea, c, n, l, q⟩ := q1
  obtain rfl : ov = Value.ref a := r1
  refine wpAny_bind (wpAny_standAt (wpAny_bind (wpAny_holding (setattr_ok I1 ea c n l r fun s3 I3 => ?_))))
  exact wpAny_release ⟨σ, _, I3, q⟩
theorem kpg_attr {o : Expr} {to : TE} {f : Str} {pos : Pos} (ho : PE X o to) (h : X.K = K := by rfl) : PG X (.Attribute o f pos) (gFld K to f) := h ▸ pg_attr ho
theorem kpi_list {tg l : Expr} {tl : TE} (hl : PE X l tl) (h : X.K = K := by rfl) : PI X tg l (iList K tl) := h ▸ pi_list hl
theorem kpi_tup {tg l : Expr} {tl : TE} (hl : PE X l tl) (h : X.K = K := by rfl) : PI X tg l (iTup K tl) := h ▸ pi_tup hl
theorem kpi_enum {e : Expr} {ta : TA} {p pos tpos : Pos} {elts : List Expr} {kk : Nat} (hg : Gl X "enumerate") (hm : X.mg "enumerate" = none) (ha : PA X [e] ta) (h : X.K = K := by rfl) (hs : starEach [e] X.env = [(false, eval e X.env)] := by rfl) :
    PI X (.Tuple elts kk tpos) (.Call (.Name "enumerate" p) [e] [] pos) (iEnum K ta) := h ▸ pi_enum hg hm ha hs
theorem kpi_enumT {e : Expr} {ta : TA} {p pos tpos : Pos} {elts : List Expr} {kk : Nat} (hg : Gl X "enumerate") (hm : X.mg "enumerate" = none) (ha : PA X [e] ta) (h : X.K = K := by rfl) (hs : starEach [e] X.env = [(false, eval e X.env)] := by rfl) :
    PI X (.Tuple elts kk tpos) (.Call (.Name "enumerate" p) [e] [] pos) (iEnumT K ta) := h ▸ pi_enumT hg hm ha hs
theorem kpi_zip {e e2 : Expr} {ta : TA} {p pos tpos : Pos} {elts : List Expr} {kk : Nat} (hg : Gl X "zip") (hm : X.mg "zip" = none) (ha : PA X [e, e2] ta) (h : X.K = K := by rfl)
    (hs : starEach [e, e2] X.env = (false, eval e X.env) :: starEach [e2] X.env := by rfl) (hpl : (backTo pos (starEach [e2] X.env)).any (·.1) = false := by rfl) :
    PI X (.Tuple elts kk tpos) (.Call (.Name "zip" p) [e, e2] [] pos) (iZip K ta) := h ▸ pi_zip hg hm ha hs hpl
theorem kpi_zipTL {e e2 : Expr} {ta : TA} {p pos tpos : Pos} {elts : List Expr} {kk : Nat} (hg : Gl X "zip") (hm : X.mg "zip" = none) (ha : PA X [e, e2] ta) (h : X.K = K := by rfl)
    (hs : starEach [e, e2] X.env = (false, eval e X.env) :: starEach [e2] X.env := by rfl) (hpl : (backTo pos (starEach [e2] X.env)).any (·.1) = false := by rfl) :
    PI X (.Tuple elts kk tpos) (.Call (.Name "zip" p) [e, e2] [] pos) (iZipTL K ta) := h ▸ pi_zipTL hg hm ha hs hpl
theorem kpi_zipA {e e2 : Expr} {ta : TA} {p pos tpos : Pos} {elts : List Expr} {kk : Nat} (hg : Gl X "zip") (hm : X.mg "zip" = none) (ha : PA X [e, e2] ta) (h : X.K = K := by rfl)
    (hs : starEach [e, e2] X.env = (false, eval e X.env) :: starEach [e2] X.env := by rfl) (hpl : (backTo pos (starEach [e2] X.env)).any (·.1) = false := by rfl) :
    PI X (.Tuple elts kk tpos) (.Call (.Name "zip" p) [e, e2] [] pos) (RZ.iZipA K ta) := h ▸ RZ.pi_zipA hg hm ha hs hpl

/-! ### tuple * k for k from 1 on -/
theorem tuple_mul1 (l : Addr) (items : Array Value) (n : Nat) (dd : Option Addr) (sl : Array (Option Value)) (u : Tok) :
    Meets (Builtin.«tuple.__mul__» ⟨[.ref l, .int 1 u], []⟩) (fun _ R s => s.heap.get? l = some { cls := .type "tuple", dict := dd, data := .seq items n, slots := sl } ∧ R (.ok (.ret (Value.ref l))) s) :=
  .of_wp fun prog w A R s h => by
    obtain ⟨hp, g, d, tk, os⟩ := s
    obtain ⟨hl, h⟩ := h
    have f1 := AutoSeq1.idx_int
    wp_walk using wpAny_loadPart' hl
    repeat (first
      | (refine wpAny_ite_false (decide_eq_false (by decide)) ?_; wp_walk using wpAny_loadPart' hl)
      | (refine wpAny_ite_true (decide_eq_true (by simp)) ?_; wp_walk using wpAny_loadPart' hl))
    exact ⟨_, rfl, h⟩
/-- tuple * k, k from 1 to 1000, a tuple that is not empty -/
def rRep1 (K : PySem.W.Frag) : R2 := fun x y H Q => ∃ l k xs, x = .ref l ∧ y = .int k ∧ SqT K H l xs ∧ xs ≠ [] ∧ 1 ≤ k ∧ k ≤ 1000 ∧ xs.length ≤ 1000 ∧ (k = 1 → Q (.ref l) H) ∧ (2 ≤ k → ∀ p, H p = none → Q (.ref p) (upd H p (.tup (List.replicate k.toNat xs).flatten)))
theorem op_rep1' : OpR X (binaryOp .Mult) (rRep1 X.K) := by
  intro pins s σ H x y v u Q I rx ry h
  obtain ⟨l, k, xs, rfl, rfl, hT, hne, h1, h2, hz, q1, q2⟩ := h
  by_cases hk : 2 ≤ k
  · exact op_repT pins s σ H _ _ v u Q I rx ry ⟨l, k, xs, rfl, rfl, hT, hne, hk, h2, hz, q2 hk⟩
  · obtain rfl : k = 1 := by omega
    cases rx
    obtain ⟨t, rfl⟩ := ry
    obtain ⟨its, r, ⟨⟨cls, dd, data, sl⟩, ho, hc, n, hd⟩, hs⟩ := I.tuple hT
    simp only at hc hd
    subst hc hd
    refine wpAny_binaryOp_repeat_ref (T := "tuple") (U := "int") (by decide) ⟨_, ho, rfl⟩ (fun s' => typeIs_int s' 1 t) noFill_tuple_mul F.fills_int_mul F.slot_int_rmul repeat_tuple F.slot_int_index.lookup
      (call_meets F.slot_int_rmul (typeIs_int s 1 t) F.entry_int_rmul (F.args_int_rmul_2 _ _) (int_rmul_tuple 1 t l its.toArray n dd sl)
        ⟨ho, rfl, ⟨_, ho, rfl⟩, call_meets F.slot_tuple_mul ⟨_, ho, rfl⟩ F.entry_tuple_mul (F.args_tuple_mul_2 _ _) (tuple_mul1 l its.toArray n dd sl t) ⟨ho, ?_⟩⟩)
    exact ⟨.ref l, H, I.tok _, rfl, q1 rfl⟩
theorem krepT (h : X.K = K := by rfl) : OpR X (binaryOp .Mult) (rRep1 K) := h ▸ op_rep1'
end
end WB
end

section
set_option Elab.async false
set_option linter.all false
set_option maxRecDepth 100000
namespace WB
open PySem PySem.Spec PyProof.Rows L2
def top (i : Nat) : Stmt := PySem.Challenge.pw_advisedplay_k20_across_programs_of_short.main.body.getD i (.Pass ⟨0, 0, 0, 0⟩)
/-- further tables of code objects -/
abbrev xtab : List (Addr × Str) := [(441, ("_law_goes" : Str) ++ ".<locals>." ++ "<lambda>")]
abbrev s_is_whole : Stmt := top 8
abbrev s_is_ratio : Stmt := top 9
abbrev s_lowest : Stmt := top 10
abbrev s_plus : Stmt := top 11
abbrev s_times : Stmt := top 12
abbrev s_is_less : Stmt := top 13
abbrev s_total : Stmt := top 14
abbrev s_cleared : Stmt := top 16
abbrev s_Tableau___init__ : Stmt := inClass (top 17) 0
abbrev s_Tableau_turn : Stmt := inClass (top 17) 1
abbrev s_Tableau_moved : Stmt := inClass (top 17) 2
abbrev s_Tableau_leaving : Stmt := inClass (top 17) 3
abbrev s_Tableau_climb : Stmt := inClass (top 17) 4
abbrev s_Tableau_drive_out : Stmt := inClass (top 17) 5
abbrev s_Tableau_weights : Stmt := inClass (top 17) 6
abbrev s_Tableau_ray : Stmt := inClass (top 17) 7
abbrev s_Tableau_prices : Stmt := inClass (top 17) 8
abbrev s_is_vector : Stmt := top 20
abbrev s_dot : Stmt := top 21
abbrev s_scaled : Stmt := top 22
abbrev s_added : Stmt := top 23
abbrev s_mixed : Stmt := top 24
abbrev s_is_limit : Stmt := top 28
abbrev s_is_program : Stmt := top 29
abbrev s_need_program : Stmt := top 30
abbrev s_climbed : Stmt := top 31
abbrev s_solve : Stmt := top 32
abbrev s_answer : Stmt := top 33
abbrev s_are_prices : Stmt := top 34
abbrev s_summed : Stmt := top 35
abbrev s_is_point : Stmt := top 36
abbrev s_is_within : Stmt := top 37
abbrev s_is_best : Stmt := top 38
abbrev s_is_empty : Stmt := top 39
abbrev s_is_endless : Stmt := top 40
abbrev s_is_answer : Stmt := top 41
end WB
end

section
set_option Elab.async false
set_option linter.all false
set_option maxRecDepth 100000
set_option maxHeartbeats 1000000
namespace WB
open PySem PySem.Spec PyProof.Rows L2 LamX LP
theorem sc_is_whole : FnScope ["value"] ["value"] (defScope s_is_whole) := ⟨rfl, rfl, rfl, by decide +kernel, rfl, by decide +kernel, by decide +kernel⟩
theorem sc_is_ratio : FnScope ["value", "part"] ["value"] (defScope s_is_ratio) := ⟨rfl, rfl, rfl, by decide +kernel, rfl, by decide +kernel, by decide +kernel⟩
theorem sc_lowest : FnScope ["n", "d", "common"] ["n", "d"] (defScope s_lowest) := ⟨rfl, rfl, rfl, by decide +kernel, rfl, by decide +kernel, by decide +kernel⟩
theorem sc_plus : FnScope ["one", "other"] ["one", "other"] (defScope s_plus) := ⟨rfl, rfl, rfl, by decide +kernel, rfl, by decide +kernel, by decide +kernel⟩
theorem sc_times : FnScope ["one", "other"] ["one", "other"] (defScope s_times) := ⟨rfl, rfl, rfl, by decide +kernel, rfl, by decide +kernel, by decide +kernel⟩
theorem sc_is_less : FnScope ["one", "other"] ["one", "other"] (defScope s_is_less) := ⟨rfl, rfl, rfl, by decide +kernel, rfl, by decide +kernel, by decide +kernel⟩
theorem sc_total : FnScope ["ratios", "found", "each"] ["ratios"] (defScope s_total) := ⟨rfl, rfl, rfl, by decide +kernel, rfl, by decide +kernel, by decide +kernel⟩
theorem sc_cleared : FnScope ["row", "common", "part"] ["row"] (defScope s_cleared) := ⟨rfl, rfl, rfl, by decide +kernel, rfl, by decide +kernel, by decide +kernel⟩
theorem sc_Tableau___init__ : FnScope ["self", "columns", "goals", "gains", "spot", "goal", "line", "factor", "column", "sign", "helpers", "at", "part", "gain"] ["self", "columns", "goals", "gains"] (defScope s_Tableau___init__) := ⟨rfl, rfl, rfl, by decide +kernel, rfl, by decide +kernel, by decide +kernel⟩
theorem sc_Tableau_turn : FnScope ["self", "spot", "at", "part", "own", "head", "index", "line"] ["self", "spot", "at"] (defScope s_Tableau_turn) := ⟨rfl, rfl, rfl, by decide +kernel, rfl, by decide +kernel, by decide +kernel⟩
theorem sc_Tableau_moved : FnScope ["self", "line", "own", "head", "at", "part", "other"] ["self", "line", "own", "head", "at"] (defScope s_Tableau_moved) := ⟨rfl, rfl, rfl, by decide +kernel, rfl, by decide +kernel, by decide +kernel⟩
theorem sc_Tableau_leaving : FnScope ["self", "at", "best", "spot", "line", "left", "right"] ["self", "at"] (defScope s_Tableau_leaving) := ⟨rfl, rfl, rfl, by decide +kernel, rfl, by decide +kernel, by decide +kernel⟩
theorem sc_Tableau_climb : FnScope ["self", "line_of", "some", "at", "spot"] ["self", "line_of"] (defScope s_Tableau_climb) := ⟨rfl, rfl, rfl, by decide +kernel, rfl, by decide +kernel, by decide +kernel⟩
theorem sc_Tableau_drive_out : FnScope ["self", "spot", "some", "at"] ["self"] (defScope s_Tableau_drive_out) := ⟨rfl, rfl, rfl, by decide +kernel, rfl, by decide +kernel, by decide +kernel⟩
theorem sc_Tableau_weights : FnScope ["self", "found", "spot", "at"] ["self"] (defScope s_Tableau_weights) := ⟨rfl, rfl, rfl, by decide +kernel, rfl, by decide +kernel, by decide +kernel⟩
theorem sc_Tableau_ray : FnScope ["self", "at", "found", "spot", "own"] ["self", "at"] (defScope s_Tableau_ray) := ⟨rfl, rfl, rfl, by decide +kernel, rfl, by decide +kernel, by decide +kernel⟩
theorem sc_Tableau_prices : FnScope ["self", "line", "scale", "found", "spot", "factor"] ["self", "line", "scale"] (defScope s_Tableau_prices) := ⟨rfl, rfl, rfl, by decide +kernel, rfl, by decide +kernel, by decide +kernel⟩
theorem sc_is_vector : FnScope ["value", "part"] ["value"] (defScope s_is_vector) := ⟨rfl, rfl, rfl, by decide +kernel, rfl, by decide +kernel, by decide +kernel⟩
theorem sc_dot : FnScope ["one", "other", "left", "right"] ["one", "other"] (defScope s_dot) := ⟨rfl, rfl, rfl, by decide +kernel, rfl, by decide +kernel, by decide +kernel⟩
theorem sc_scaled : FnScope ["share", "vector", "part"] ["share", "vector"] (defScope s_scaled) := ⟨rfl, rfl, rfl, by decide +kernel, rfl, by decide +kernel, by decide +kernel⟩
theorem sc_added : FnScope ["one", "other", "left", "right"] ["one", "other"] (defScope s_added) := ⟨rfl, rfl, rfl, by decide +kernel, rfl, by decide +kernel, by decide +kernel⟩
theorem sc_mixed : FnScope ["weights", "rows", "found", "weight", "row"] ["weights", "rows"] (defScope s_mixed) := ⟨rfl, rfl, rfl, by decide +kernel, rfl, by decide +kernel, by decide +kernel⟩
theorem sc_is_limit : FnScope ["value", "width"] ["value", "width"] (defScope s_is_limit) := ⟨rfl, rfl, rfl, by decide +kernel, rfl, by decide +kernel, by decide +kernel⟩
theorem sc_is_program : FnScope ["value", "limit"] ["value"] (defScope s_is_program) := ⟨rfl, rfl, rfl, by decide +kernel, rfl, by decide +kernel, by decide +kernel⟩
theorem sc_need_program : FnScope ["program"] ["program"] (defScope s_need_program) := ⟨rfl, rfl, rfl, by decide +kernel, rfl, by decide +kernel, by decide +kernel⟩
theorem sc_climbed : FnScope ["goal", "limits", "tableau", "row", "bound", "column"] ["goal", "limits"] (defScope s_climbed) := ⟨rfl, rfl, rfl, by decide +kernel, rfl, by decide +kernel, by decide +kernel⟩
theorem sc_solve : FnScope ["goal", "limits", "tableau", "word", "column", "prices", "worth", "price", "limit", "ray", "other"] ["goal", "limits"] (defScope s_solve) := ⟨rfl, rfl, rfl, by decide +kernel, rfl, by decide +kernel, by decide +kernel⟩
theorem sc_answer : FnScope ["program"] ["program"] (defScope s_answer) := ⟨rfl, rfl, rfl, by decide +kernel, rfl, by decide +kernel, by decide +kernel⟩
theorem sc_are_prices : FnScope ["value", "many", "part"] ["value", "many"] (defScope s_are_prices) := ⟨rfl, rfl, rfl, by decide +kernel, rfl, by decide +kernel, by decide +kernel⟩
theorem sc_summed : FnScope ["weights", "limits", "width", "row", "limit", "weight"] ["weights", "limits", "width"] (defScope s_summed) := ⟨rfl, rfl, rfl, by decide +kernel, rfl, by decide +kernel, by decide +kernel⟩
theorem sc_is_point : FnScope ["program", "value"] ["program", "value"] (defScope s_is_point) := ⟨rfl, rfl, rfl, by decide +kernel, rfl, by decide +kernel, by decide +kernel⟩
theorem sc_is_within : FnScope ["program", "point", "row", "bound"] ["program", "point"] (defScope s_is_within) := ⟨rfl, rfl, rfl, by decide +kernel, rfl, by decide +kernel, by decide +kernel⟩
theorem sc_is_best : FnScope ["program", "value"] ["program", "value"] (defScope s_is_best) := ⟨rfl, rfl, rfl, by decide +kernel, rfl, by decide +kernel, by decide +kernel⟩
theorem sc_is_empty : FnScope ["program", "value", "row", "bound", "part"] ["program", "value"] (defScope s_is_empty) := ⟨rfl, rfl, rfl, by decide +kernel, rfl, by decide +kernel, by decide +kernel⟩
theorem sc_is_endless : FnScope ["program", "value", "row", "bound"] ["program", "value"] (defScope s_is_endless) := ⟨rfl, rfl, rfl, by decide +kernel, rfl, by decide +kernel, by decide +kernel⟩
theorem sc_is_answer : FnScope ["program", "value"] ["program", "value"] (defScope s_is_answer) := ⟨rfl, rfl, rfl, by decide +kernel, rfl, by decide +kernel, by decide +kernel⟩
/-- a def of the top: where it stands, how its arguments bind, its name -/
structure Nm (K : PySem.W.Frag) (mg : Str → Option Value) (x : Str) (st : Stmt) (ps : List Str) (a : Addr × FuncData) : Prop where
  fn : Fun K x x st a.1 a.2
  b : L2.Binds K a.2 ps []
  g : mg x = some (.ref a.1)
/-- a method of the class at C -/
structure Mth (K : PySem.W.Frag) (C : Addr) (x qual : Str) (st : Stmt) (ps : List Str) (a : Addr × FuncData) : Prop where
  fn : Fun K x qual st a.1 a.2
  b : L2.Binds K a.2 ps []
  m : Meth K C x a.1
/-- a def whose code object is known: it makes lambdas -/
structure FunC (K : PySem.W.Frag) (x qual : Str) (st : Stmt) (a : Addr × FuncData) (c : Addr) : Prop where
  ex : ∃ (oc : Value) (od : Option Addr) (kV doc pm : Value) (an : Option Addr) (ct : Value) (osl : Array (Option Value)),
    a.2 = PySem.W.fnOf x qual (defArgs st) (defBody st) (defScope st) .none kV doc pm an (.ref c) ct ∧ K.lookup a.1 = some ⟨oc, od, .func a.2, osl⟩ ∧ PySem.W.codeIn K (.ref c) qual = true
structure LPA where
  ZERO : Addr
  Tableau : Addr
  code : Addr
  is_whole : Addr × FuncData
  is_ratio : Addr × FuncData
  lowest : Addr × FuncData
  plus : Addr × FuncData
  times : Addr × FuncData
  is_less : Addr × FuncData
  total : Addr × FuncData
  cleared : Addr × FuncData
  Tableau___init__ : Addr × FuncData
  Tableau_turn : Addr × FuncData
  Tableau_moved : Addr × FuncData
  Tableau_leaving : Addr × FuncData
  Tableau_climb : Addr × FuncData
  Tableau_drive_out : Addr × FuncData
  Tableau_weights : Addr × FuncData
  Tableau_ray : Addr × FuncData
  Tableau_prices : Addr × FuncData
  is_vector : Addr × FuncData
  dot : Addr × FuncData
  scaled : Addr × FuncData
  added : Addr × FuncData
  mixed : Addr × FuncData
  is_limit : Addr × FuncData
  is_program : Addr × FuncData
  need_program : Addr × FuncData
  climbed : Addr × FuncData
  solve : Addr × FuncData
  answer : Addr × FuncData
  are_prices : Addr × FuncData
  summed : Addr × FuncData
  is_point : Addr × FuncData
  is_within : Addr × FuncData
  is_best : Addr × FuncData
  is_empty : Addr × FuncData
  is_endless : Addr × FuncData
  is_answer : Addr × FuncData
structure LPTxt (K : PySem.W.Frag) (mg : Str → Option Value) (A : LPA) : Prop where
  g_ZERO : mg "ZERO" = some (.ref A.ZERO)
  sq_ZERO : ∀ H, SqT K H A.ZERO [.int 0, .int 1]
  g_MOST : ∃ t, mg "MOST" = some (.int 200 t)
  g_MOST_PLACES : ∃ t, mg "MOST_PLACES" = some (.int 40 t)
  g_MOST_LIMITS : ∃ t, mg "MOST_LIMITS" = some (.int 200 t)
  g_gcd : mg "gcd" = some (.builtin "math.gcd")
  g_lcm : mg "lcm" = some (.builtin "math.lcm")
  n_len : mg "len" = none
  n_sum : mg "sum" = none
  n_all : mg "all" = none
  n_any : mg "any" = none
  n_isinstance : mg "isinstance" = none
  n_list : mg "list" = none
  n_tuple : mg "tuple" = none
  n_range : mg "range" = none
  n_zip : mg "zip" = none
  n_enumerate : mg "enumerate" = none
  n_int : mg "int" = none
  n_bool : mg "bool" = none
  n_str : mg "str" = none
  cl_Tableau : Cls K A.Tableau
  mk_Tableau : Mk K A.Tableau A.Tableau___init__.1
  c_Tableau : mg "Tableau" = some (.ref A.Tableau)
  na_many : NoAttr K A.Tableau "many"
  na_lines : NoAttr K A.Tableau "lines"
  na_factors : NoAttr K A.Tableau "factors"
  na_gains : NoAttr K A.Tableau "gains"
  na_scale : NoAttr K A.Tableau "scale"
  na_wants : NoAttr K A.Tableau "wants"
  na_unit : NoAttr K A.Tableau "unit"
  na_basis : NoAttr K A.Tableau "basis"
  c_climbed : FunC K "climbed" "climbed" s_climbed A.climbed A.code
  is_whole : Nm K mg "is_whole" s_is_whole ["value"] A.is_whole
  is_ratio : Nm K mg "is_ratio" s_is_ratio ["value"] A.is_ratio
  lowest : Nm K mg "lowest" s_lowest ["n", "d"] A.lowest
  plus : Nm K mg "plus" s_plus ["one", "other"] A.plus
  times : Nm K mg "times" s_times ["one", "other"] A.times
  is_less : Nm K mg "is_less" s_is_less ["one", "other"] A.is_less
  total : Nm K mg "total" s_total ["ratios"] A.total
  cleared : Nm K mg "cleared" s_cleared ["row"] A.cleared
  Tableau___init__ : Mth K A.Tableau "__init__" "Tableau.__init__" s_Tableau___init__ ["self", "columns", "goals", "gains"] A.Tableau___init__
  Tableau_turn : Mth K A.Tableau "turn" "Tableau.turn" s_Tableau_turn ["self", "spot", "at"] A.Tableau_turn
  Tableau_moved : Mth K A.Tableau "moved" "Tableau.moved" s_Tableau_moved ["self", "line", "own", "head", "at"] A.Tableau_moved
  Tableau_leaving : Mth K A.Tableau "leaving" "Tableau.leaving" s_Tableau_leaving ["self", "at"] A.Tableau_leaving
  Tableau_climb : Mth K A.Tableau "climb" "Tableau.climb" s_Tableau_climb ["self", "line_of"] A.Tableau_climb
  Tableau_drive_out : Mth K A.Tableau "drive_out" "Tableau.drive_out" s_Tableau_drive_out ["self"] A.Tableau_drive_out
  Tableau_weights : Mth K A.Tableau "weights" "Tableau.weights" s_Tableau_weights ["self"] A.Tableau_weights
  Tableau_ray : Mth K A.Tableau "ray" "Tableau.ray" s_Tableau_ray ["self", "at"] A.Tableau_ray
  Tableau_prices : Mth K A.Tableau "prices" "Tableau.prices" s_Tableau_prices ["self", "line", "scale"] A.Tableau_prices
  is_vector : Nm K mg "is_vector" s_is_vector ["value"] A.is_vector
  dot : Nm K mg "dot" s_dot ["one", "other"] A.dot
  scaled : Nm K mg "scaled" s_scaled ["share", "vector"] A.scaled
  added : Nm K mg "added" s_added ["one", "other"] A.added
  mixed : Nm K mg "mixed" s_mixed ["weights", "rows"] A.mixed
  is_limit : Nm K mg "is_limit" s_is_limit ["value", "width"] A.is_limit
  is_program : Nm K mg "is_program" s_is_program ["value"] A.is_program
  need_program : Nm K mg "need_program" s_need_program ["program"] A.need_program
  climbed : Nm K mg "climbed" s_climbed ["goal", "limits"] A.climbed
  solve : Nm K mg "solve" s_solve ["goal", "limits"] A.solve
  answer : Nm K mg "answer" s_answer ["program"] A.answer
  are_prices : Nm K mg "are_prices" s_are_prices ["value", "many"] A.are_prices
  summed : Nm K mg "summed" s_summed ["weights", "limits", "width"] A.summed
  is_point : Nm K mg "is_point" s_is_point ["program", "value"] A.is_point
  is_within : Nm K mg "is_within" s_is_within ["program", "point"] A.is_within
  is_best : Nm K mg "is_best" s_is_best ["program", "value"] A.is_best
  is_empty : Nm K mg "is_empty" s_is_empty ["program", "value"] A.is_empty
  is_endless : Nm K mg "is_endless" s_is_endless ["program", "value"] A.is_endless
  is_answer : Nm K mg "is_answer" s_is_answer ["program", "value"] A.is_answer
end WB
end

section
set_option Elab.async false
set_option linter.all false
set_option maxRecDepth 100000
set_option maxHeartbeats 1000000
namespace WB
open PySem PySem.Spec PyProof.Rows L2 LamX LP
theorem hu64 {k : Nat} {A : Around} (hr : Room k A) : A.units + 64 < cLine := hr.units
theorem iteY {c A B : Prop} [Decidable c] (hc : c) (h : A) : if c then A else B := by rw [if_pos hc]; exact h
theorem iteN {c A B : Prop} [Decidable c] (hc : ¬ c) (h : B) : if c then A else B := by rw [if_neg hc]; exact h
theorem iteNd {p : Prop} [Decidable p] {A B : Prop} (hc : ¬ p) (h : B) : if decide p = true then A else B := iteN (fun z => hc (of_decide_eq_true z)) h
theorem iteYd {p : Prop} [Decidable p] {A B : Prop} (hc : p) (h : A) : if decide p = true then A else B := iteY (decide_eq_true hc) h
variable {P : Program} {w : World} {K : PySem.W.Frag} {mg : Str → Option Value} {base : Heap} {A : LPA}
section
variable (K) (T : List (Addr × Str))
/-- data in, a value of the datum d out; nothing else changes -/
def Gives (H : Hp) (Q : VK) (d : PyData) : Prop := ∀ v H', Ex T No H H' → Dp K H' v d → Q v H'
def sp_lowest : Sp := fun vs H Q _ => ∃ n d : Int, vs = [.int n, .int d] ∧ LowOk n d ∧ Gives K T H Q (dq (quo n d))
def sp_plus : Sp := fun vs H Q _ => ∃ x y a b, vs = [x, y] ∧ Dp K H x (dq a) ∧ Dp K H y (dq b) ∧ PlusOk a b ∧ Gives K T H Q (dq (a + b))
def sp_times : Sp := fun vs H Q _ => ∃ x y a b, vs = [x, y] ∧ Dp K H x (dq a) ∧ Dp K H y (dq b) ∧ TimesOk a b ∧ Gives K T H Q (dq (a * b))
def sp_is_less : Sp := fun vs H Q _ => ∃ x y a b, vs = [x, y] ∧ Dp K H x (dq a) ∧ Dp K H y (dq b) ∧ Fits a ∧ Fits b ∧ ∀ H', Ex T No H H' → Q (.bl (decide (a < b))) H'
def sp_total : Sp := fun vs H Q _ => ∃ l xs qs, vs = [.ref l] ∧ SqL K H l xs ∧ DpAll K H xs (qs.map dq) ∧ TotOk qs ∧ Gives K T H Q (dq (sumL qs))
end
theorem log_of {i : Nat} {n : Nat} (h : i < 2 ^ n) (h0 : 0 < n) : i.log2 < n := PySem.Flt.log2_lt_of h0 h
theorem cdivP_num {n d : Int} (h : LowOk n d) : CDivP n ((Nat.gcd n.natAbs d.natAbs : Nat) : Int) := by
  refine ⟨by exact_mod_cast gcd_pos' h.1, ?_⟩
  rw [Int.natAbs_natCast]
  rcases h.num with z | z
  · exact .inl (log_of z (by omega))
  · exact .inr z
theorem cdivP_den {n d : Int} (h : LowOk n d) : CDivP d ((Nat.gcd n.natAbs d.natAbs : Nat) : Int) := by
  refine ⟨by exact_mod_cast gcd_pos' h.1, ?_⟩
  rw [Int.natAbs_natCast]
  rcases h.den with z | z
  · exact .inl (log_of z (by omega))
  · exact .inr z
theorem two_line : (2 : Nat) ≤ sizeLine := by decide
theorem ok_lowest {T : List (Addr × Str)} (X : LPTxt K mg A) : FnOk P w K mg base CX0 1 A.lowest.1 A.lowest.2 ["n", "d"] (sp_lowest K T) := by
  refine X.lowest.fn.ok sc_lowest (fun vs H Q E h => ?_) (fun cdv A' outer s H vs Q E hr h => ?_)
  · obtain ⟨n, d, rfl, _⟩ := h; rfl
  · obtain ⟨n, d, rfl, hl, k⟩ := h
    refine ⟨_, (pss_cons (ps_set (i := 2) sc_lowest.nd rfl (Or.inl rfl) (pe_ifExp (pt_cmpR op_gt (pv 1) pe_int (nomark _)) (pe_callBfun cr_gcd (by rfl) X.g_gcd (pa_cons (pv 0) (pa_cons (pv 1) pa_nil))) (pe_un un_neg (pe_callBfun cr_gcd (by rfl) X.g_gcd (pa_cons (pv 0) (pa_cons (pv 1) pa_nil))))))
      (pss_one (ps_ret (pe_tup (pa_cons (pe_op op_fdivP (pv 0) (pv 2)) (pa_cons (pe_op op_fdivP (pv 1) (pv 2)) pa_nil)))))), ?_⟩
    refine ⟨_, rfl, _, _, rfl, rfl, _, rfl, ?_⟩
    refine iteY (decide_eq_true hl.1) ?_
    refine ⟨_, rfl, _, rfl, n, d, rfl, ?_⟩
    refine ⟨_, rfl, _, rfl, n, _, rfl, rfl, cdivP_num hl, _, rfl, _, rfl, d, _, rfl, rfl, cdivP_den hl, two_line, fun p hp => ?_⟩
    refine k _ _ (Ex.new hp) (dp_q_of ?_)
    rw [quo_num hl.1, quo_den hl.1]
    exact .inl (.inl upd_same)
theorem fits_mul {i j : Int} (h1 : i.natAbs < 2 ^ 400000) (h2 : j.natAbs < 2 ^ 400000) : CMulW i j := wide_mul h1 h2 (by omega) (by omega) (by omega)
theorem fits_den {q : Rat} (h : Fits q) : (q.den : Int).natAbs < 2 ^ 400000 := by rw [Int.natAbs_natCast]; exact h.2
theorem at0_ {α : Type} {x y : α} : atI [x, y] 0 = some x := rfl
theorem at1_ {α : Type} {x y : α} : atI [x, y] 1 = some y := rfl
theorem ok_plus {T : List (Addr × Str)} (X : LPTxt K mg A) : FnOk P w K mg base CX0 2 A.plus.1 A.plus.2 ["one", "other"] (sp_plus K T) := by
  refine X.plus.fn.ok sc_plus (fun vs H Q E h => ?_) (fun cdv A' outer s H vs Q E hr h => ?_)
  · obtain ⟨_, _, _, _, rfl, _⟩ := h; rfl
  · obtain ⟨x, y, a, b, rfl, hx, hy, ok, k⟩ := h
    obtain ⟨p, rfl, hp⟩ := dp_q hx
    obtain ⟨q, rfl, hq⟩ := dp_q hy
    refine ⟨_, (pss_one (ps_ret (pe_call (ok_lowest (T := T) X) (hr.mono (by decide)) rfl X.lowest.g X.lowest.fn.kp X.lowest.b .nil pass0 (pa_cons (pe_op op_add (pe_op op_mulW (pe_ix ix_tup (pv 0) pe_int (fun _ _ => rfl)) (pe_ix ix_tup (pv 1) pe_int (fun _ _ => rfl))) (pe_op op_mulW (pe_ix ix_tup (pv 1) pe_int (fun _ _ => rfl)) (pe_ix ix_tup (pv 0) pe_int (fun _ _ => rfl)))) (pa_cons (pe_op op_mulW (pe_ix ix_tup (pv 0) pe_int (fun _ _ => rfl)) (pe_ix ix_tup (pv 1) pe_int (fun _ _ => rfl))) pa_nil))))), ?_⟩
    refine ⟨_, rfl, p, _, _, _, rfl, rfl, hp, at0_, _, rfl, q, _, _, _, rfl, rfl, hq, at1_, _, _, rfl, rfl, fits_mul ok.1.1 (fits_den ok.2.1), _, rfl, q, _, _, _, rfl, rfl, hq, at0_, _, rfl, p, _, _, _, rfl, rfl, hp, at1_, _, _, rfl, rfl, fits_mul ok.2.1.1 (fits_den ok.1), _, _, rfl, rfl,
      _, rfl, p, _, _, _, rfl, rfl, hp, at1_, _, rfl, q, _, _, _, rfl, rfl, hq, at1_, _, _, rfl, rfl, fits_mul (fits_den ok.1) (fits_den ok.2.1), _, _, rfl, ok.2.2, fun v H' e d => k v H' e ?_⟩
    rw [quo_plus] at d
    exact d
theorem ok_times {T : List (Addr × Str)} (X : LPTxt K mg A) : FnOk P w K mg base CX0 2 A.times.1 A.times.2 ["one", "other"] (sp_times K T) := by
  refine X.times.fn.ok sc_times (fun vs H Q E h => ?_) (fun cdv A' outer s H vs Q E hr h => ?_)
  · obtain ⟨_, _, _, _, rfl, _⟩ := h; rfl
  · obtain ⟨x, y, a, b, rfl, hx, hy, ok, k⟩ := h
    obtain ⟨p, rfl, hp⟩ := dp_q hx
    obtain ⟨q, rfl, hq⟩ := dp_q hy
    refine ⟨_, (pss_one (ps_ret (pe_call (ok_lowest (T := T) X) (hr.mono (by decide)) rfl X.lowest.g X.lowest.fn.kp X.lowest.b .nil pass0 (pa_cons (pe_op op_mulW (pe_ix ix_tup (pv 0) pe_int (fun _ _ => rfl)) (pe_ix ix_tup (pv 1) pe_int (fun _ _ => rfl))) (pa_cons (pe_op op_mulW (pe_ix ix_tup (pv 0) pe_int (fun _ _ => rfl)) (pe_ix ix_tup (pv 1) pe_int (fun _ _ => rfl))) pa_nil))))), ?_⟩
    refine ⟨_, rfl, p, _, _, _, rfl, rfl, hp, at0_, _, rfl, q, _, _, _, rfl, rfl, hq, at0_, _, _, rfl, rfl, fits_mul ok.1.1 ok.2.1.1,
      _, rfl, p, _, _, _, rfl, rfl, hp, at1_, _, rfl, q, _, _, _, rfl, rfl, hq, at1_, _, _, rfl, rfl, fits_mul (fits_den ok.1) (fits_den ok.2.1), _, _, rfl, ok.2.2, fun v H' e d => k v H' e ?_⟩
    rw [quo_times] at d
    exact d
theorem ok_is_less {T : List (Addr × Str)} (X : LPTxt K mg A) : FnOk P w K mg base CX0 1 A.is_less.1 A.is_less.2 ["one", "other"] (sp_is_less K T) := by
  refine X.is_less.fn.ok sc_is_less (fun vs H Q E h => ?_) (fun cdv A' outer s H vs Q E hr h => ?_)
  · obtain ⟨_, _, _, _, rfl, _⟩ := h; rfl
  · obtain ⟨x, y, a, b, rfl, hx, hy, f1, f2, k⟩ := h
    obtain ⟨p, rfl, hp⟩ := dp_q hx
    obtain ⟨q, rfl, hq⟩ := dp_q hy
    refine ⟨_, (pss_one (ps_ret (pe_cmpR op_lt (pe_op op_mulW (pe_ix ix_tup (pv 0) pe_int (fun _ _ => rfl)) (pe_ix ix_tup (pv 1) pe_int (fun _ _ => rfl))) (pe_op op_mulW (pe_ix ix_tup (pv 1) pe_int (fun _ _ => rfl)) (pe_ix ix_tup (pv 0) pe_int (fun _ _ => rfl))) (nomark _)))), ?_⟩
    refine ⟨_, rfl, p, _, _, _, rfl, rfl, hp, at0_, _, rfl, q, _, _, _, rfl, rfl, hq, at1_, _, _, rfl, rfl, fits_mul f1.1 (fits_den f2), _, rfl, q, _, _, _, rfl, rfl, hq, at0_, _, rfl, p, _, _, _, rfl, rfl, hp, at1_, _, _, rfl, rfl, fits_mul f2.1 (fits_den f1), _, _, rfl, rfl, ?_⟩
    have e : decide (a.num * (b.den : Int) < b.num * (a.den : Int)) = decide (a < b) := by
      rw [decide_eq_decide]; exact (Rat.lt_iff a b).symm
    show Q (.bl (decide (a.num * (b.den : Int) < b.num * (a.den : Int)))) H
    rw [e]
    exact k _ Ex.refl
theorem dp_zero (X : LPTxt K mg A) (H : Hp) : Dp K H (.ref A.ZERO) (dq 0) := dp_q_of (X.sq_ZERO H)
theorem dpAll_mapget {α : Type} {f : α → PyData} {H : Hp} {xs : List V} {ds : List α} {i : Nat} {v : V} (h : DpAll K H xs (ds.map f)) (e : xs[i]? = some v) : ∃ d, ds[i]? = some d ∧ Dp K H v (f d) := by
  obtain ⟨d, e1, e2⟩ := dpAll_get h e
  rw [List.getElem?_map] at e1
  cases e3 : ds[i]? with
  | none => rw [e3] at e1; cases e1
  | some y => rw [e3] at e1; cases e1; exact ⟨y, rfl, e2⟩
theorem flatAll_q (qs : List Rat) : flatAll (qs.map dq) = true := flatAll_of fun x hx => by obtain ⟨q, _, rfl⟩ := List.mem_map.mp hx; rfl
theorem ok_total {T : List (Addr × Str)} (X : LPTxt K mg A) : FnOk P w K mg base CX0 3 A.total.1 A.total.2 ["ratios"] (sp_total K T) := by
  refine X.total.fn.ok sc_total (fun vs H Q E h => ?_) (fun cdv A' outer s H vs Q E hr h => ?_)
  · obtain ⟨_, _, _, rfl, _⟩ := h; rfl
  · obtain ⟨l, xs, qs, rfl, hl, hx, ok, k⟩ := h
    refine ⟨_, (pss_cons (ps_set (i := 1) sc_total.nd rfl (Or.inl rfl) (pe_glob (v := V.ref A.ZERO) rfl X.g_ZERO rfl))
  (pss_cons (ps_for PassesOwn.never rfl (pi_list (pv 0)) (pg_name (i := 2) sc_total.nd rfl (Or.inl rfl)) (pss_one (ps_set (i := 1) sc_total.nd rfl (Or.inl rfl) (pe_call (ok_plus (T := T) X) (hr.mono (by decide)) rfl X.plus.g X.plus.fn.kp X.plus.b .nil pass0 (pa_cons (pv 1) (pa_cons (pv 2) pa_nil))))))
  (pss_one (ps_ret (pv 1))))), ?_⟩
    refine ⟨_, rfl, l, rfl, ⟨xs, hl⟩, for_src (src_list (K := K) (a := l) (xs := xs)) (fun i σ H' => ∃ f e, σ = [some (.ref l), some f, e] ∧ Ex T No H H' ∧ Dp K H' f (dq (sumFrom 0 (qs.take i))))
      ⟨_, _, rfl, Ex.refl, dp_zero X H⟩ (fun i σ H' _ ⟨_, _, _, e, _⟩ => e.sqL hl) ?_ ?_⟩
    · rintro i v σ H' _ hi ⟨f, e, rfl, ex, hf⟩ ⟨hv, rfl⟩
      obtain ⟨q, hq, dv⟩ := dpAll_mapget hx hv
      refine ⟨_, rfl, _, rfl, f, v, _, q, rfl, hf, dp_tu ex.tu rfl dv, tot_at ok hq, fun f' H2 e2 d2 => ⟨f', some v, rfl, ex.trans e2, ?_⟩⟩
      rw [sum_take hq]
      exact d2
    · rintro σ H' ⟨f, e, rfl, ex, hf⟩
      have hlen : xs.length = qs.length := by simpa using dpAll_len hx
      rw [hlen, List.take_length] at hf
      exact ⟨f, rfl, k f H' ex hf⟩
end WB
end

section
set_option Elab.async false
set_option linter.all false
set_option maxRecDepth 100000
set_option maxHeartbeats 2000000
set_option exponentiation.threshold 1000000
namespace WB
open PySem PySem.Spec PyProof.Rows L2 LamX LP
variable {P : Program} {w : World} {K : PySem.W.Frag} {mg : Str → Option Value} {base : Heap} {A : LPA} {T : List (Addr × Str)}

/-! ### lists of whole numbers -/
/-- at p a list of whole numbers -/
def IL (H : Hp) (p : Addr) (l : List Int) : Prop := H p = some (.lst (l.map V.int))
theorem IL.sq {H : Hp} {p : Addr} {l : List Int} (h : IL H p l) : SqL K H p (l.map V.int) := .inl (.inl h)
theorem IL.ex {H H' : Hp} {S : Addr → Prop} {p : Addr} {l : List Int} (h : IL H p l) (e : Ex T S H H') (n : ¬ S p) : IL H' p l := e.lst h n
theorem ent_get {l : List Int} {j : Nat} (h : j < l.length) : (l.map V.int)[j]? = some (.int (ent l j)) := by
  rw [List.getElem?_map, List.getElem?_eq_getElem h]
  unfold ent
  rw [List.getD_eq_getElem?_getD, List.getElem?_eq_getElem h]; rfl
theorem atI_ent {l : List Int} {j : Nat} (h : j < l.length) : atI (l.map V.int) (j : Int) = some (.int (ent l j)) := atI_nat (ent_get h)
theorem atI_last {l : List Int} (h : 0 < l.length) : atI (l.map V.int) (-1) = some (.int (lastE l)) := by
  unfold atI ixN
  rw [if_neg (by omega), if_pos (by rw [List.length_map]; omega)]
  have e : ((-1 : Int) + ((l.map V.int).length : Nat)).toNat = l.length - 1 := by rw [List.length_map]; omega
  rw [Option.bind_some, e]
  exact ent_get (by omega)
/-- sizes that a tableau's numbers have -/
def Sm (i : Int) : Prop := i.natAbs < 2 ^ 9000
theorem Sm.fit {i : Int} (h : Sm i) : i.natAbs < 2 ^ 400000 := Nat.lt_of_lt_of_le h (Nat.pow_le_pow_right (by omega) (by omega))
theorem Sm.mul {i j : Int} (h : Sm i) (k : Sm j) : CMulW i j := fits_mul h.fit k.fit
theorem Sm.neg {i : Int} (h : Sm i) : Sm (-i) := by unfold Sm; rw [Int.natAbs_neg]; exact h
theorem sm_zero : Sm 0 := by unfold Sm; exact Nat.two_pow_pos _
theorem sm_div {i j : Int} (h : 0 < j) (k : Sm j) : CDivP i j := ⟨h, .inl (log_of k (by omega))⟩

/-! ### cleared -/
section
variable (K T)
/-- what clearing asks -/
def ClrOk (qs : List Rat) : Prop := lcmL qs < 2 ^ 9000 ∧ ∀ q ∈ qs, q.num.natAbs < 2 ^ 400000
def sp_cleared : Sp := fun vs H Q _ => ∃ l xs qs, vs = [.ref l] ∧ SqL K H l xs ∧ DpAll K H xs (qs.map dq) ∧ ClrOk qs ∧ qs.length < sizeLine ∧
  ∀ p l2 H', Ex T No H H' → SqT K H' p [.ref l2, .int (lcmL qs : Nat)] → IL H' l2 (clr qs) → H l2 = none → Q (.ref p) H'
end
theorem lcmL_app (a : List Rat) (q : Rat) : lcmL (a ++ [q]) = Nat.lcm (lcmL a) q.den := by unfold lcmL; rw [List.foldl_append]; rfl
theorem lcmL_take_succ {qs : List Rat} {i : Nat} {q : Rat} (h : qs[i]? = some q) : lcmL (qs.take (i + 1)) = Nat.lcm (lcmL (qs.take i)) q.den := by
  rw [List.take_add_one, h]; exact lcmL_app _ _
theorem lcmL_dvd_app (a b : List Rat) : lcmL a ∣ lcmL (a ++ b) := by
  unfold lcmL; rw [List.foldl_append]
  exact (lcmL_step b _ (lcmL_pos a)).2.1
theorem lcmL_take_le (qs : List Rat) (i : Nat) : lcmL (qs.take i) ≤ lcmL qs := by
  have := lcmL_dvd_app (qs.take i) (qs.drop i)
  rw [List.take_append_drop] at this
  exact Nat.le_of_dvd (lcmL_pos qs) this
theorem ok_cleared (X : LPTxt K mg A) : FnOk P w K mg base CX0 1 A.cleared.1 A.cleared.2 ["row"] (sp_cleared K T) := by
  refine X.cleared.fn.ok sc_cleared (fun vs H Q E h => ?_) (fun cdv A' outer s H vs Q E hr h => ?_)
  · obtain ⟨_, _, _, rfl, _⟩ := h; rfl
  · obtain ⟨l, xs, qs, rfl, hl, hx, ⟨hL, hn⟩, hsz, k⟩ := h
    refine ⟨_, (pss_cons (ps_set (i := 1) sc_cleared.nd rfl (Or.inr rfl) pe_int)
  (pss_cons (ps_for PassesOwn.never rfl (kpi_list (K := K) (pv 0)) (pg_name (i := 2) sc_cleared.nd rfl (Or.inl rfl)) (pss_one (ps_set (i := 1) sc_cleared.nd rfl (Or.inr rfl) (pe_callBfun cr_lcm (by rfl) X.g_lcm (pa_cons (pv 1) (pa_cons (pe_ix (kix_tup (K := K)) (pv 2) pe_int (fun _ _ => rfl)) pa_nil))))))
  (pss_one (ps_ret (pe_tup (pa_cons (pe_lc (own := [("part", 2)]) (tt := tYes) rfl sc_cleared.nd  (kpi_list (K := K) (pv 0)) (blkOk_by (N := ["row", "common", "part"]) (sc := defScope s_cleared) (by decide +kernel)) (fun _ _ _ _ _ => (pg_name (i := 2) sc_cleared.nd rfl (Or.inl rfl))) (fun _ _ _ _ _ => pts_nil) (fun _ _ _ _ _ => (pe_op op_mulW (pe_ix (kix_tup (K := K)) (pv 2) pe_int (fun _ _ => rfl)) (pe_op op_fdivP (pv 1) (pe_ix (kix_tup (K := K)) (pv 2) pe_int (fun _ _ => rfl)))))) (pa_cons (pv 1) pa_nil))))))), ?_⟩
    have hlen : xs.length = qs.length := by simpa using dpAll_len hx
    have hden : ∀ q ∈ qs, q.den < 2 ^ 9000 := fun q hq => Nat.lt_of_le_of_lt (Nat.le_of_dvd (lcmL_pos qs) (lcmL_dvd hq)) hL
    refine ⟨_, rfl, l, rfl, ⟨xs, hl⟩, for_src (src_list (K := K) (a := l) (xs := xs)) (fun i σ H' => ∃ e, σ = [some (.ref l), some (.int (lcmL (qs.take i) : Nat)), e] ∧ H' = H)
      ⟨_, rfl, rfl⟩ (fun i σ H' _ ⟨_, _, e⟩ => by rw [e]; exact hl) ?_ ?_⟩
    · rintro i v σ H' _ hi ⟨e, rfl, rfl⟩ ⟨hv, rfl⟩
      obtain ⟨q, hq, dv⟩ := dpAll_mapget hx hv
      obtain ⟨p, rfl, hp⟩ := dp_q dv
      refine ⟨_, rfl, _, rfl, p, _, _, _, rfl, rfl, hp, at1_, _, q.den, rfl, ?_, ?_, some (.ref p), ?_, rfl⟩
      · exact Nat.lt_of_le_of_lt (lcmL_take_le qs i) (Nat.lt_of_lt_of_le hL (Nat.pow_le_pow_right (by omega) (by omega)))
      · exact Nat.lt_of_lt_of_le (hden q (List.mem_of_getElem? hq)) (Nat.pow_le_pow_right (by omega) (by omega))
      · rw [lcmL_take_succ hq]; rfl
    · rintro σ H' ⟨e, rfl, rfl⟩
      have hall : qs.take xs.length = qs := List.take_of_length_le (by omega)
      rw [hall]
      refine ⟨_, rfl, l, rfl, ⟨xs, hl⟩, lc_src (T := T) (src_list (K := K) (a := l) (xs := xs)) (by rw [hlen]; exact Nat.le_of_lt hsz) (P := fun D i y _ => ∃ q, qs[i]? = some q ∧ y = .int (q.num * ((lcmL qs : Int) / (q.den : Int)))) (keep := fun _ => true) (fun D H1 hD ex => ?_) (fun D i y H1 H2 _ _ _ h => h)
        (fun D i x H1 H2 R hD hacc hi ex hY h1 h2 => ?_) (fun D ys H1 hD ex hys hl2 hP => ?_)⟩
      · rcases hl with (h | ⟨o, h⟩) | h
        · exact .inl (.inl (ex.e l _ (fun z => by have z : l = D := z; rw [z, hD] at h; cases h) h (fun ps z => by cases z)))
        · exact .inl (.inr ⟨o, ex.e l _ (fun z => by have z : l = D := z; rw [z, hD] at h; cases h) h (fun ps z => by cases z)⟩)
        · exact .inr h
      · obtain ⟨hv, rfl⟩ := hY
        obtain ⟨q, hq, dv⟩ := dpAll_mapget hx hv
        have hm := List.mem_of_getElem? hq
        have dv2 := dp_tu (ex.tuS (fun p hp u hu => by
          have hp : p = D := hp
          rw [hp, hD] at hu; cases hu)) rfl dv
        obtain ⟨p, rfl, hp⟩ := dp_q dv2
        refine ⟨rfl, _, rfl, p, _, _, _, rfl, rfl, hp, at0_, _, rfl, _, rfl, p, _, _, _, rfl, rfl, hp, at1_, _, _, rfl, rfl, ?_, _, _, rfl, rfl, ?_, ?_⟩
        · exact ⟨by exact_mod_cast q.den_pos, .inl (by rw [Int.natAbs_natCast]; exact log_of (hden q hm) (by omega))⟩
        · refine fits_mul (hn q hm) ?_
          refine Nat.lt_of_le_of_lt (Int.natAbs_ediv_le_natAbs _ _) ?_
          rw [Int.natAbs_natCast]
          exact Nat.lt_of_lt_of_le hL (Nat.pow_le_pow_right (by omega) (by omega))
        · exact h1 rfl _ _ Ex.refl ⟨q, hq, rfl⟩
      · rw [kept_all] at hl2 hP
        have ey : ys = (clr qs).map V.int := by
          refine List.ext_getElem? fun j => ?_
          by_cases hj : j < qs.length
          · have hjy : j < ys.length := by rw [hl2, List.length_range, hlen]; exact hj
            obtain ⟨q, hq, e⟩ := hP j ys[j] j (List.getElem?_eq_getElem hjy) (by rw [List.getElem?_range (by rw [hlen]; exact hj)])
            rw [List.getElem?_eq_getElem hjy, e]
            unfold clr
            rw [List.getElem?_map, List.getElem?_map, hq]; rfl
          · rw [List.getElem?_eq_none (by rw [hl2, List.length_range, hlen]; omega), List.getElem?_eq_none (by rw [List.length_map, clr_len]; omega)]
        subst ey
        refine ⟨_, rfl, two_line, fun p hp => ?_⟩
        exact k p D _ (ex.more hp) (.inl (.inl upd_same)) (by unfold IL; rw [upd_ne (ne_of_none hys hp)]; exact hys) hD

/-! ### moved -/
section
variable (K T)
def sp_moved (C : Addr) : Sp := fun vs H Q _ => ∃ a dx fs l o line own head j u, vs = [.ref a, .ref l, .ref o, .int head, .int (j : Nat)] ∧ H a = some (.ins C dx fs) ∧ fs.lookup ("unit" : Str) = some (.int u) ∧ IL H l line ∧ IL H o own ∧ line.length = own.length ∧ j < line.length ∧ line.length < sizeLine ∧
  0 < u ∧ Sm u ∧ Sm head ∧ (∀ i, Sm (ent line i)) ∧ (∀ i, Sm (ent own i)) ∧ ∀ l2 H', Ex T No H H' → H l2 = none → IL H' l2 (movedL u line own head j) → Q (.ref l2) H'
end
theorem ne_D {H1 : Hp} {D p : Addr} {o : HO} (h : H1 p = some o) (hD : H1 D = none) : ¬ p = D := fun z => by rw [z, hD] at h; cases h
theorem ok_Tableau_moved (X : LPTxt K mg A) : FnOk P w K mg base CX0 1 A.Tableau_moved.1 A.Tableau_moved.2 ["self", "line", "own", "head", "at"] (sp_moved T A.Tableau) := by
  refine X.Tableau_moved.fn.ok sc_Tableau_moved (fun vs H Q E h => ?_) (fun cdv A' outer s H vs Q E hr h => ?_)
  · obtain ⟨_, _, _, _, _, _, _, _, _, _, rfl, _⟩ := h; rfl
  · obtain ⟨a, dx, fs, l, o, line, own, head, j, u, rfl, ha, hu, hl, ho, hlo, hj, hz, u0, uS, hS, lS, oS, k⟩ := h
    refine ⟨_, (pss_one (ps_ret (pe_lc (own := [("part", 5), ("other", 6)]) (tt := tYes) rfl sc_Tableau_moved.nd  (kpi_zip (K := K) (by rfl) X.n_zip (pa_cons (pv 1) (pa_cons (pv 2) pa_nil))) (blkOk_by (N := ["self", "line", "own", "head", "at", "part", "other"]) (sc := defScope s_Tableau_moved) (by decide +kernel)) (fun _ _ _ _ _ => (kpg_tup (K := K) (n := 2) rfl (pgs_cons (pg_name (i := 5) sc_Tableau_moved.nd rfl (Or.inl rfl)) (pgs_cons (pg_name (i := 6) sc_Tableau_moved.nd rfl (Or.inl rfl)) pgs_nil)))) (fun _ _ _ _ _ => pts_nil) (fun _ _ _ _ _ => (pe_op op_fdivP (pe_op op_sub (pe_op op_mulW (pv 5) (pv 3)) (pe_op op_mulW (pe_ix (kix_list (K := K)) (pv 1) (pv 4) (fun _ _ => rfl)) (pv 6))) (kfld (K := K) (pv 0) rfl)))))), ?_⟩
    have hlen : (line.map V.int).length = (own.map V.int).length := by simpa using hlo
    refine ⟨_, rfl, _, rfl, l, o, _, _, rfl, hl.sq, ho.sq, lc_src (T := T) (src_zipL (K := K) (a := l) (b := o) hlen) (by simpa using Nat.le_of_lt hz) (P := fun D i y _ => y = .int ((ent line i * head - ent line j * ent own i) / u)) (keep := fun _ => true) (fun D H1 hD ex => ⟨(hl.ex ex (ne_D hl hD)).sq, (ho.ex ex (ne_D ho hD)).sq⟩) (fun D i y H1 H2 _ _ _ h => h)
        (fun D i x H1 H2 R hD hacc hi ex hY h1 h2 => ?_) (fun D ys H1 hD ex hys hl2 hP => ?_)⟩
    · obtain ⟨t, x1, x2, rfl, nt, rfl, e1, e2⟩ := hY
      have hi1 : i < line.length := by simpa using hi
      rw [ent_get hi1] at e1
      rw [ent_get (by omega)] at e2
      cases e1; cases e2
      have ha1 : H1 a = some (.ins A.Tableau dx fs) := ex.ins ha (ne_D ha hD)
      have hl1 : IL H1 l line := hl.ex ex (ne_D hl hD)
      have at_ : ∀ {p : Addr} {ob : HO}, H1 p = some ob → upd H1 t (.tup [V.int (ent line i), V.int (ent own i)]) p = some ob := fun {p ob} e => by rw [upd_ne (ne_of_none e nt)]; exact e
      refine ⟨t, _, rfl, .inl (.inl upd_same), rfl, _, _, rfl, _, _, rfl, rfl, rfl, ?_⟩
      refine ⟨_, rfl, _, rfl, _, _, rfl, rfl, (lS i).mul hS, _, rfl, _, rfl, l, _, _, _, rfl, rfl, IL.sq (at_ hl1), atI_ent hj, _, rfl, _, _, rfl, rfl, (lS j).mul (oS i), _, _, rfl, rfl, _, rfl, a, _, _, _, _, rfl, at_ ha1, X.cl_Tableau, X.na_unit, hu, _, _, rfl, rfl, sm_div u0 uS, ?_⟩
      exact h1 rfl _ _ (Ex.new nt) rfl
    · rw [kept_all] at hl2 hP
      have ey : ys = (movedL u line own head j).map V.int := by
        have hml : (movedL u line own head j).length = line.length := by rw [moved_len]; omega
        refine List.ext_getElem? fun i => ?_
        by_cases hi : i < line.length
        · have hjy : i < ys.length := by rw [hl2, List.length_range]; simpa using hi
          have e := hP i ys[i] i (List.getElem?_eq_getElem hjy) (by rw [List.getElem?_range (by simpa using hi)])
          rw [List.getElem?_eq_getElem hjy, e, ent_get (by omega), ent_moved hi (by omega)]
        · rw [List.getElem?_eq_none (by rw [hl2, List.length_range]; simp; omega), List.getElem?_eq_none (by rw [List.length_map, hml]; omega)]
      subst ey
      exact k D H1 ex hD hys
end WB
end

section
set_option Elab.async false
set_option linter.all false
set_option maxRecDepth 100000
set_option maxHeartbeats 2000000
set_option exponentiation.threshold 1000000
namespace WB
open PySem PySem.Spec PyProof.Rows L2 LamX LP
variable {P : Program} {w : World} {K : PySem.W.Frag} {mg : Str → Option Value} {base : Heap} {A : LPA} {T : List (Addr × Str)}

/-! ### the tableau's object -/
def tabF (t : Tab) (L F G W B : Addr) : List (Str × V) :=
  [("many", .int (t.many : Nat)), ("lines", .ref L), ("factors", .ref F), ("scale", .int t.scale), ("gains", .ref G), ("wants", .ref W), ("unit", .int t.unit), ("basis", .ref B)]
section
variable {t : Tab} {L F G W B : Addr}
theorem lk_many : (tabF t L F G W B).lookup ("many" : Str) = some (.int (t.many : Nat)) := rfl
theorem lk_lines : (tabF t L F G W B).lookup ("lines" : Str) = some (.ref L) := rfl
theorem lk_factors : (tabF t L F G W B).lookup ("factors" : Str) = some (.ref F) := rfl
theorem lk_gains : (tabF t L F G W B).lookup ("gains" : Str) = some (.ref G) := rfl
theorem lk_scale : (tabF t L F G W B).lookup ("scale" : Str) = some (.int t.scale) := rfl
theorem lk_wants : (tabF t L F G W B).lookup ("wants" : Str) = some (.ref W) := rfl
theorem lk_unit : (tabF t L F G W B).lookup ("unit" : Str) = some (.int t.unit) := rfl
theorem lk_basis : (tabF t L F G W B).lookup ("basis" : Str) = some (.ref B) := rfl
theorem lk_meth {m : Str} (h : (m == "many") = false ∧ (m == "lines") = false ∧ (m == "factors") = false ∧ (m == "gains") = false ∧ (m == "scale") = false ∧ (m == "wants") = false ∧ (m == "unit") = false ∧ (m == "basis") = false) : (tabF t L F G W B).lookup m = none := by
  obtain ⟨h1, h2, h3, h4, h5, h6, h7, h8⟩ := h
  simp only [tabF, List.lookup_cons, List.lookup_nil, h1, h2, h3, h4, h5, h6, h7, h8]
theorem pt_gains {x : Addr} {l : List Int} : putF "gains" (.ref x) (tabF t L F G W B) = tabF { t with gains := l } L F x W B := rfl
theorem pt_wants {x : Addr} {l : List Int} : putF "wants" (.ref x) (tabF t L F G W B) = tabF { t with wants := l } L F G x B := rfl
theorem pt_unit {i : Int} : putF "unit" (.int i) (tabF t L F G W B) = tabF { t with unit := i } L F G W B := rfl
end
/-- a tableau's object at a, its parts -/
structure TabIn (C a dx L F G W B : Addr) (rs : List Addr) (t : Tab) (H : Hp) : Prop where
  ins : H a = some (.ins C dx (tabF t L F G W B))
  ln : H L = some (.lst (rs.map V.ref))
  len : rs.length = t.lines.length
  row : ∀ (i : Nat) r, rs[i]? = some r → IL H r (t.line i)
  rne : ∀ r ∈ rs, r ≠ B ∧ r ≠ L
  f : IL H F t.factors
  g : IL H G t.gains
  w : IL H W t.wants
  b : IL H B (t.basis.map fun (k : Nat) => (k : Int))
  lb : L ≠ B
  fn : F ≠ B ∧ F ≠ L
  gn : G ≠ B ∧ G ≠ L
  wn : W ≠ B ∧ W ≠ L
def TabAt (C a L B : Addr) (t : Tab) (H : Hp) : Prop := ∃ dx F G W rs, TabIn C a dx L F G W B rs t H
/-- what a tableau's methods write -/
def Tw (a L B : Addr) : Addr → Prop := fun b => b = a ∨ b = L ∨ b = B
/-- lengths and sizes -/
structure Fit (n : Nat) (t : Tab) : Prop where
  lw : ∀ i, i < t.lines.length → (t.line i).length = n
  bn : t.basis.length = t.lines.length
  gn : t.gains.length = n
  wn : t.wants.length = n
  n0 : 0 < n
  nz : n < sizeLine
  lz : t.lines.length < sizeLine
  mn : t.many ≤ n
  pos : 0 < t.unit
  u : Sm t.unit
  l : ∀ i j, Sm (ent (t.line i) j)
  g : ∀ j, Sm (ent t.gains j)
  w : ∀ j, Sm (ent t.wants j)
section
variable {C a dx L F G W B : Addr} {rs : List Addr} {t : Tab} {H H' : Hp} {S : Addr → Prop}
theorem TabIn.al (h : TabIn C a dx L F G W B rs t H) : a ≠ L := ne_of h.ins h.ln (by intro z; cases z)
theorem TabIn.ab (h : TabIn C a dx L F G W B rs t H) : a ≠ B := ne_of h.ins h.b (by intro z; cases z)
theorem IL.na {p : Addr} {l : List Int} (h : IL H p l) (k : TabIn C a dx L F G W B rs t H) : p ≠ a := ne_of h k.ins (by intro z; cases z)
theorem TabIn.ex (h : TabIn C a dx L F G W B rs t H) (e : Ex T No H H') : TabIn C a dx L F G W B rs t H' where
  ins := e.ins h.ins id
  ln := e.lst h.ln id
  len := h.len
  row := fun i r q => (h.row i r q).ex e id
  rne := h.rne
  f := h.f.ex e id
  g := h.g.ex e id
  w := h.w.ex e id
  b := h.b.ex e id
  lb := h.lb
  fn := h.fn
  gn := h.gn
  wn := h.wn
theorem TabIn.sqL (h : TabIn C a dx L F G W B rs t H) : SqL K H L (rs.map V.ref) := .inl (.inl h.ln)
theorem TabIn.get (h : TabIn C a dx L F G W B rs t H) {i : Nat} (hi : i < t.lines.length) : ∃ r, rs[i]? = some r ∧ IL H r (t.line i) ∧ (rs.map V.ref)[i]? = some (.ref r) := by
  have e := List.getElem?_eq_getElem (l := rs) (i := i) (by rw [h.len]; exact hi)
  exact ⟨_, e, h.row i _ e, by rw [List.getElem?_map, e]; rfl⟩
theorem bas_get {i : Nat} (h : i < t.basis.length) : atI ((t.basis.map fun (k : Nat) => (k : Int)).map V.int) (i : Int) = some (.int (t.bas i : Nat)) := by
  refine atI_nat ?_
  rw [List.getElem?_map, List.getElem?_map, List.getElem?_eq_getElem h]
  unfold Tab.bas
  rw [List.getD_eq_getElem?_getD, List.getElem?_eq_getElem h]; rfl
/-- a row is written -/
theorem TabIn.setRow {p : Nat} {r : Addr} {l : List Int} (h : TabIn C a dx L F G W B rs t H) (hr : IL H r l) (nb : r ≠ B) (nl : r ≠ L) : TabIn C a dx L F G W B (rs.set p r) { t with lines := t.lines.set p l } (upd H L (.lst ((rs.map V.ref).set p (.ref r)))) where
  ins := by rw [upd_ne h.al]; exact h.ins
  ln := by rw [upd_same, List.map_set]
  len := by rw [List.length_set, h.len]; simp
  row := fun i r' q => by
    have hne : r' ≠ L := by
      rcases List.mem_or_eq_of_mem_set (List.mem_of_getElem? q) with z | z
      · exact (h.rne _ z).2
      · rw [z]; exact nl
    unfold IL
    rw [upd_ne hne]
    unfold Tab.line
    dsimp only
    by_cases e : i = p
    · subst e
      have hi : i < rs.length := by have := (List.getElem?_eq_some_iff.mp q).1; rwa [List.length_set] at this
      rw [List.getElem?_set_self hi] at q
      cases q
      rw [List.getD_eq_getElem?_getD, List.getElem?_set_self (by rw [← h.len]; exact hi)]
      exact hr
    · rw [List.getElem?_set_ne (Ne.symm e)] at q
      rw [List.getD_eq_getElem?_getD, List.getElem?_set_ne (Ne.symm e), ← List.getD_eq_getElem?_getD]
      exact h.row i r' q
  rne := fun r' hm => by
    rcases List.mem_or_eq_of_mem_set hm with z | z
    · exact h.rne _ z
    · rw [z]; exact ⟨nb, nl⟩
  f := by unfold IL; rw [upd_ne h.fn.2]; exact h.f
  g := by unfold IL; rw [upd_ne h.gn.2]; exact h.g
  w := by unfold IL; rw [upd_ne h.wn.2]; exact h.w
  b := by unfold IL; rw [upd_ne h.lb.symm]; exact h.b
  lb := h.lb
  fn := h.fn
  gn := h.gn
  wn := h.wn
theorem TabIn.setGains {G' : Addr} {l : List Int} (h : TabIn C a dx L F G W B rs t H) (hg : IL H G' l) (nb : G' ≠ B) (nl : G' ≠ L) : TabIn C a dx L F G' W B rs { t with gains := l } (upd H a (.ins C dx (putF "gains" (.ref G') (tabF t L F G W B)))) where
  ins := by rw [upd_same, pt_gains]
  ln := by rw [upd_ne h.al.symm]; exact h.ln
  len := h.len
  row := fun i r q => by unfold IL; rw [upd_ne ((h.row i r q).na h)]; exact h.row i r q
  rne := h.rne
  f := by unfold IL; rw [upd_ne (h.f.na h)]; exact h.f
  g := by unfold IL; rw [upd_ne (hg.na h)]; exact hg
  w := by unfold IL; rw [upd_ne (h.w.na h)]; exact h.w
  b := by unfold IL; rw [upd_ne (h.b.na h)]; exact h.b
  lb := h.lb
  fn := h.fn
  gn := ⟨nb, nl⟩
  wn := h.wn
theorem TabIn.setWants {W' : Addr} {l : List Int} (h : TabIn C a dx L F G W B rs t H) (hg : IL H W' l) (nb : W' ≠ B) (nl : W' ≠ L) : TabIn C a dx L F G W' B rs { t with wants := l } (upd H a (.ins C dx (putF "wants" (.ref W') (tabF t L F G W B)))) where
  ins := by rw [upd_same, pt_wants]
  ln := by rw [upd_ne h.al.symm]; exact h.ln
  len := h.len
  row := fun i r q => by unfold IL; rw [upd_ne ((h.row i r q).na h)]; exact h.row i r q
  rne := h.rne
  f := by unfold IL; rw [upd_ne (h.f.na h)]; exact h.f
  g := by unfold IL; rw [upd_ne (h.g.na h)]; exact h.g
  w := by unfold IL; rw [upd_ne (hg.na h)]; exact hg
  b := by unfold IL; rw [upd_ne (h.b.na h)]; exact h.b
  lb := h.lb
  fn := h.fn
  gn := h.gn
  wn := ⟨nb, nl⟩
theorem TabIn.setUnit {i : Int} (h : TabIn C a dx L F G W B rs t H) : TabIn C a dx L F G W B rs { t with unit := i } (upd H a (.ins C dx (putF "unit" (.int i) (tabF t L F G W B)))) where
  ins := by rw [upd_same, pt_unit]
  ln := by rw [upd_ne h.al.symm]; exact h.ln
  len := h.len
  row := fun i r q => by unfold IL; rw [upd_ne ((h.row i r q).na h)]; exact h.row i r q
  rne := h.rne
  f := by unfold IL; rw [upd_ne (h.f.na h)]; exact h.f
  g := by unfold IL; rw [upd_ne (h.g.na h)]; exact h.g
  w := by unfold IL; rw [upd_ne (h.w.na h)]; exact h.w
  b := by unfold IL; rw [upd_ne (h.b.na h)]; exact h.b
  lb := h.lb
  fn := h.fn
  gn := h.gn
  wn := h.wn
theorem TabIn.setBasis {p q : Nat} (h : TabIn C a dx L F G W B rs t H) : TabIn C a dx L F G W B rs { t with basis := t.basis.set p q } (upd H B (.lst (((t.basis.map fun (k : Nat) => (k : Int)).map V.int).set p (.int (q : Nat))))) where
  ins := by rw [upd_ne h.ab]; exact h.ins
  ln := by rw [upd_ne h.lb]; exact h.ln
  len := h.len
  row := fun i r k => by unfold IL; rw [upd_ne (h.rne r (List.mem_of_getElem? k)).1]; exact h.row i r k
  rne := h.rne
  f := by unfold IL; rw [upd_ne h.fn.1]; exact h.f
  g := by unfold IL; rw [upd_ne h.gn.1]; exact h.g
  w := by unfold IL; rw [upd_ne h.wn.1]; exact h.w
  b := by unfold IL; rw [upd_same, List.map_set, List.map_set]
  lb := h.lb
  fn := h.fn
  gn := h.gn
  wn := h.wn
end

/-! ### leaving -/
def optV : Option Nat → V
  | none => .non
  | some i => .int (i : Nat)
section
variable (T)
def sp_leaving (C : Addr) : Sp := fun vs H Q _ => ∃ a L B t n q, vs = [.ref a, .int (q : Nat)] ∧ TabAt C a L B t H ∧ Fit n t ∧ q < n ∧ ∀ H', Ex T No H H' → Q (optV (t.leaving q)) H'
end
theorem leaveTo_lt {t : Tab} {q : Nat} : ∀ n {b}, t.leaveTo q n = some b → b < n := fun n b h => (leaving_some n h).lt
theorem ok_Tableau_leaving (X : LPTxt K mg A) : FnOk P w K mg base CX0 1 A.Tableau_leaving.1 A.Tableau_leaving.2 ["self", "at"] (sp_leaving T A.Tableau) := by
  refine X.Tableau_leaving.fn.ok sc_Tableau_leaving (fun vs H Q E h => ?_) (fun cdv A' outer s H vs Q E hr h => ?_)
  · obtain ⟨_, _, _, _, _, _, rfl, _⟩ := h; rfl
  · obtain ⟨a, L, B, t, n, q, rfl, ⟨dx, F, G, W, rs, hT⟩, hF, hq, k⟩ := h
    refine ⟨_, (pss_cons (ps_set (i := 2) sc_Tableau_leaving.nd rfl (Or.inl rfl) pe_non)
  (pss_cons (ps_for PassesOwn.never rfl (kpi_enum (K := K) (by rfl) X.n_enumerate (pa_cons (kfld (K := K) (pv 0) rfl) pa_nil)) (kpg_tup (K := K) (n := 2) rfl (pgs_cons (pg_name (i := 3) sc_Tableau_leaving.nd rfl (Or.inl rfl)) (pgs_cons (pg_name (i := 4) sc_Tableau_leaving.nd rfl (Or.inl rfl)) pgs_nil))) (pss_one (ps_if (pt_cmpR op_gt (pe_ix (kix_list (K := K)) (pv 4) (pv 1) (fun _ _ => rfl)) pe_int (nomark _)) (pss_one (ps_if (pt_cmpR op_isN (pv 2) pe_non (nomark _)) (pss_one (ps_set (i := 2) sc_Tableau_leaving.nd rfl (Or.inl rfl) (pv 3))) (pss_cons (ps_par (i := 5) (j := 6) rfl sc_Tableau_leaving.nd rfl rfl (by decide) rfl rfl (pa_cons (pe_op op_mulW (pe_ix (kix_list (K := K)) (pv 4) (pe_un un_neg pe_int) (fun _ _ => rfl)) (pe_ix (kix_list (K := K)) (pe_ix (kix_list (K := K)) (kfld (K := K) (pv 0) rfl) (pv 2) (fun _ _ => rfl)) (pv 1) (fun _ _ => rfl))) (pa_cons (pe_op op_mulW (pe_ix (kix_list (K := K)) (pe_ix (kix_list (K := K)) (kfld (K := K) (pv 0) rfl) (pv 2) (fun _ _ => rfl)) (pe_un un_neg pe_int) (fun _ _ => rfl)) (pe_ix (kix_list (K := K)) (pv 4) (pv 1) (fun _ _ => rfl))) pa_nil)) rfl)
  (pss_one (ps_if (PW.pt (pw_or (pt_cmpR op_lt (pv 5) (pv 6) (nomark _)) (pw_or1 (PW.pt (pw_and (pt_cmpR op_eq (pv 5) (pv 6) (nomark _)) (pw_and1 (pt_cmpR op_lt (pe_ix (kix_list (K := K)) (kfld (K := K) (pv 0) rfl) (pv 3) (fun _ _ => rfl)) (pe_ix (kix_list (K := K)) (kfld (K := K) (pv 0) rfl) (pv 2) (fun _ _ => rfl)) (nomark _)))))))) (pss_one (ps_set (i := 2) sc_Tableau_leaving.nd rfl (Or.inl rfl) (pv 3))) pss_nil))))) pss_nil)))
  (pss_one (ps_ret (pv 2))))), ?_⟩
    refine ⟨_, rfl, a, _, _, _, _, rfl, hT.ins, X.cl_Tableau, X.na_lines, lk_lines, L, _, rfl, hT.sqL, for_src (src_enum (K := K) (a := L) (xs := rs.map V.ref)) (fun i σ H' => ∃ e3 e4 e5 e6, σ = [some (.ref a), some (.int (q : Nat)), some (optV (t.leaveTo q i)), e3, e4, e5, e6] ∧ Ex T No H H')
      ⟨_, _, _, _, rfl, Ex.refl⟩ (fun i σ H' _ ⟨_, _, _, _, _, e⟩ => (hT.ex e).sqL) ?_ ?_⟩
    · rintro i v σ H' H2 hi ⟨e3, e4, e5, e6, rfl, ex⟩ ⟨p, x, rfl, np, rfl, hx⟩
      have hi' : i < t.lines.length := by rw [← hT.len]; simpa using hi
      obtain ⟨r, hr1, hr2, hr3⟩ := hT.get hi'
      rw [hr3] at hx; cases hx
      have ex2 : Ex T No H (upd H' p (.tup [V.int (i : Nat), V.ref r])) := ex.more np
      have hT2 := hT.ex ex2
      have row2 := hr2.ex ex2 id
      have lw := hF.lw i hi'
      refine ⟨p, _, rfl, .inl (.inl upd_same), rfl, _, _, rfl, _, _, rfl, rfl, ?_⟩
      refine ⟨_, rfl, _, rfl, r, _, _, _, rfl, rfl, row2.sq, atI_ent (l := t.line i) (j := q) (by omega), _, _, rfl, rfl, _, rfl, ?_⟩
      refine ite2 (fun hp => ?_) (fun hp => ?_)
      · have hp : 0 < ent (t.line i) q := of_decide_eq_true hp
        cases hb : t.leaveTo q i with
        | none =>
          refine ⟨_, rfl, rfl, _, rfl, iteYd rfl ?_⟩
          refine ⟨_, rfl, some (.int (i : Nat)), some (.ref r), e5, e6, ?_, ex2⟩
          rw [leaveTo_succ, hb]
          unfold Tab.leaveStep
          rw [if_pos hp]; rfl
        | some b =>
          have hbi := leaveTo_lt i hb
          have hbl : b < t.lines.length := by omega
          obtain ⟨rb, hb1, hb2, hb3⟩ := hT.get hbl
          have rowb := hb2.ex ex2 id
          have lwb := hF.lw b hbl
          refine ⟨_, rfl, rfl, _, rfl, iteNd (by intro z; cases z) ?_⟩
          refine ⟨_, rfl, _, rfl, r, _, _, _, rfl, rfl, row2.sq, atI_last (by omega), _, rfl, a, _, _, _, _, rfl, hT2.ins, X.cl_Tableau, X.na_lines, lk_lines, _, rfl, L, _, _, _, rfl, rfl, hT2.sqL, atI_nat hb3, _, rfl, rb, _, _, _, rfl, rfl, rowb.sq, atI_ent (by omega), _, _, rfl, rfl, (hF.l i _).mul (hF.l b _), ?_⟩
          refine ⟨_, rfl, a, _, _, _, _, rfl, hT2.ins, X.cl_Tableau, X.na_lines, lk_lines, _, rfl, L, _, _, _, rfl, rfl, hT2.sqL, atI_nat hb3, _, rfl, rb, _, _, _, rfl, rfl, rowb.sq, atI_last (by omega), _, rfl, _, rfl, r, _, _, _, rfl, rfl, row2.sq, atI_ent (by omega), _, _, rfl, rfl, (hF.l b _).mul (hF.l i _), _, _, rfl, ?_⟩
          have fin : ∀ (c : Bool), c = t.better q i b → optV (if c = true then some i else some b) = optV (t.leaveTo q (i + 1)) := fun c hc => by
            rw [leaveTo_succ, hb]
            unfold Tab.leaveStep
            rw [if_pos hp, hc]
          refine ⟨_, rfl, _, rfl, _, _, rfl, rfl, _, rfl, ?_⟩
          refine ite2 (fun c1 => ?_) (fun c1 => ?_)
          · refine iteY rfl ?_
            refine ⟨_, rfl, some (.int (i : Nat)), some (.ref r), some (.int (lastE (t.line i) * ent (t.line b) q)), some (.int (lastE (t.line b) * ent (t.line i) q)), ?_, ex2⟩
            rw [← fin true (by unfold Tab.better; rw [show decide (lastE (t.line i) * ent (t.line b) q < lastE (t.line b) * ent (t.line i) q) = true from c1]; rfl)]; rfl
          · refine ⟨_, rfl, _, rfl, rfl, _, rfl, ?_⟩
            refine ite2 (fun c2 => ?_) (fun c2 => ?_)
            · refine ⟨_, rfl, a, _, _, _, _, rfl, hT2.ins, X.cl_Tableau, X.na_basis, lk_basis, _, rfl, B, _, _, _, rfl, rfl, hT2.b.sq, bas_get (by rw [hF.bn]; exact hi'), _, rfl, a, _, _, _, _, rfl, hT2.ins, X.cl_Tableau, X.na_basis, lk_basis, _, rfl, B, _, _, _, rfl, rfl, hT2.b.sq, bas_get (by rw [hF.bn]; exact hbl), _, _, rfl, rfl, _, rfl, ?_⟩
              refine ite2 (fun c3 => ?_) (fun c3 => ?_)
              · refine ⟨_, rfl, some (.int (i : Nat)), some (.ref r), some (.int (lastE (t.line i) * ent (t.line b) q)), some (.int (lastE (t.line b) * ent (t.line i) q)), ?_, ex2⟩
                rw [← fin true (by unfold Tab.better; rw [show decide (lastE (t.line i) * ent (t.line b) q = lastE (t.line b) * ent (t.line i) q) = true from (by have := of_decide_eq_true c2; exact decide_eq_true (by injection this)), show decide (t.bas i < t.bas b) = true from (by have := of_decide_eq_true c3; exact decide_eq_true (by exact_mod_cast this)), Bool.and_true, Bool.or_true])]; rfl
              · refine ⟨some (.int (i : Nat)), some (.ref r), some (.int (lastE (t.line i) * ent (t.line b) q)), some (.int (lastE (t.line b) * ent (t.line i) q)), ?_, ex2⟩
                rw [← fin false (by unfold Tab.better; rw [show decide (lastE (t.line i) * ent (t.line b) q < lastE (t.line b) * ent (t.line i) q) = false from Bool.eq_false_iff.mpr c1, show decide (t.bas i < t.bas b) = false from (by refine decide_eq_false fun z => c3 (decide_eq_true (by exact_mod_cast z))), Bool.and_false]; rfl)]; rfl
            · refine iteN Bool.false_ne_true ?_
              refine ⟨some (.int (i : Nat)), some (.ref r), some (.int (lastE (t.line i) * ent (t.line b) q)), some (.int (lastE (t.line b) * ent (t.line i) q)), ?_, ex2⟩
              rw [← fin false (by unfold Tab.better; rw [show decide (lastE (t.line i) * ent (t.line b) q < lastE (t.line b) * ent (t.line i) q) = false from Bool.eq_false_iff.mpr c1, show decide (lastE (t.line i) * ent (t.line b) q = lastE (t.line b) * ent (t.line i) q) = false from (by refine decide_eq_false fun z => c2 (decide_eq_true (congrArg V.int z))), Bool.false_and]; rfl)]; rfl
      · refine ⟨some (.int (i : Nat)), some (.ref r), e5, e6, ?_, ex2⟩
        rw [leaveTo_succ]
        unfold Tab.leaveStep
        rw [if_neg (fun z => hp (decide_eq_true z))]; rfl
    · rintro σ H' ⟨e3, e4, e5, e6, rfl, ex⟩
      refine ⟨_, rfl, ?_⟩
      have e : (rs.map V.ref).length = t.lines.length := by rw [List.length_map, hT.len]
      rw [e]
      exact k H' ex
end WB
end

section
set_option Elab.async false
set_option linter.all false
set_option maxRecDepth 100000
set_option maxHeartbeats 2000000
set_option exponentiation.threshold 1000000
namespace WB
open PySem PySem.Spec PyProof.Rows L2 LamX LP
variable {P : Program} {w : World} {K : PySem.W.Frag} {mg : Str → Option Value} {base : Heap} {A : LPA} {T : List (Addr × Str)}

/-- one statement, what holds behind it, the rest -/
theorem seq_of {t u : TS} {D : Ends} {σ : L2.St} {H : Hp} (R : L2.St → Hp → Prop) (h1 : ∀ N : L2.St → Hp → Prop, (∀ σ' H', R σ' H' → N σ' H') → t { D with nx := N } σ H) (h2 : ∀ σ' H', R σ' H' → u D σ' H') : tSeq t u D σ H := h1 (u D) h2
theorem ixN_natt {n j : Nat} (hj : j < n) : ixN n (j : Int) = some j := by unfold ixN; rw [if_pos (by omega), if_pos (by omega)]; simp
/-! ### turn -/
section
variable (T)
def sp_turn (C : Addr) : Sp := fun vs H Q _ => ∃ a L B t n p q, vs = [.ref a, .int (p : Nat), .int (q : Nat)] ∧ TabAt C a L B t H ∧ Fit n t ∧ p < t.lines.length ∧ q < n ∧ ∀ H', Ex T (Tw a L B) H H' → TabAt C a L B (t.turn p q) H' → Q .non H'
end
/-- the lines behind i steps of the loop -/
def turnL (t : Tab) (p q i : Nat) : List (List Int) := t.lines.mapIdx fun k l => if k = p then t.own p q else if k < i then movedL t.unit l (t.own p q) (t.head p q) q else l
theorem turnL_len (t : Tab) (p q i : Nat) : (turnL t p q i).length = t.lines.length := by unfold turnL; rw [List.length_mapIdx]
theorem turnL_zero {t : Tab} {p q : Nat} (hp : p < t.lines.length) : turnL t p q 0 = t.lines.set p (t.own p q) := by
  unfold turnL
  refine List.ext_getElem? fun k => ?_
  rw [List.getElem?_mapIdx, List.getElem?_set]
  by_cases e : p = k
  · subst e; rw [if_pos rfl, if_pos hp, List.getElem?_eq_getElem hp]; simp
  · rw [if_neg e]
    cases h : t.lines[k]? with
    | none => rfl
    | some l => simp [Ne.symm e]
theorem turnL_skip {t : Tab} {p q : Nat} : turnL t p q p = turnL t p q (p + 1) := by
  unfold turnL
  refine List.ext_getElem? fun k => ?_
  rw [List.getElem?_mapIdx, List.getElem?_mapIdx]
  cases t.lines[k]? with
  | none => rfl
  | some l => simp only [Option.map_some]; grind
theorem turnL_step {t : Tab} {p q i : Nat} (hi : i < t.lines.length) (hne : i ≠ p) : (turnL t p q i).set i (movedL t.unit (t.line i) (t.own p q) (t.head p q) q) = turnL t p q (i + 1) := by
  unfold turnL
  refine List.ext_getElem? fun k => ?_
  rw [List.getElem?_set, List.getElem?_mapIdx, List.getElem?_mapIdx]
  by_cases e : i = k
  · subst e
    rw [if_pos rfl, if_pos (by rw [List.length_mapIdx]; exact hi), List.getElem?_eq_getElem hi, Option.map_some]
    rw [if_neg hne, if_pos (by omega)]
    congr 2
    unfold Tab.line
    rw [List.getD_eq_getElem?_getD, List.getElem?_eq_getElem hi]; rfl
  · rw [if_neg e]
    cases t.lines[k]? with
    | none => rfl
    | some l => simp only [Option.map_some]; grind
theorem turnL_end {t : Tab} {p q : Nat} : turnL t p q t.lines.length = (t.turn p q).lines := by
  unfold turnL Tab.turn
  dsimp only
  refine List.ext_getElem? fun k => ?_
  rw [List.getElem?_mapIdx, List.getElem?_mapIdx]
  cases h : t.lines[k]? with
  | none => rfl
  | some l =>
    have hk := (List.getElem?_eq_some_iff.mp h).1
    simp only [Option.map_some]; grind
theorem own_sm {n : Nat} {t : Tab} {p q : Nat} (F : Fit n t) (j : Nat) : Sm (ent (t.own p q) j) := by
  unfold Tab.own; split
  · rw [ent_neg]; exact (F.l p j).neg
  · exact F.l p j
theorem Twa {a L B : Addr} : Tw a L B a := .inl rfl
theorem TwL {a L B : Addr} : Tw a L B L := .inr (.inl rfl)
theorem TwB {a L B : Addr} : Tw a L B B := .inr (.inr rfl)
theorem ok_Tableau_turn (X : LPTxt K mg A) : FnOk P w K mg base CX0 2 A.Tableau_turn.1 A.Tableau_turn.2 ["self", "spot", "at"] (sp_turn T A.Tableau) := by
  refine X.Tableau_turn.fn.ok sc_Tableau_turn (fun vs H Q E h => ?_) (fun cdv A' outer s H vs Q E hr h => ?_)
  · obtain ⟨_, _, _, _, _, _, _, rfl, _⟩ := h; rfl
  · obtain ⟨a, L, B, t, n, p, q, rfl, ⟨dx, F, G, W, rs, hT⟩, hF, hp, hq, k⟩ := h
    have ok_Tableau_moved : ∀ {P : Program} {w : World} {base : Heap} (X : LPTxt K mg A), FnOk P w K mg base CX0 1 A.Tableau_moved.1 A.Tableau_moved.2 ["self", "line", "own", "head", "at"] (sp_moved T A.Tableau) := fun X => ok_Tableau_moved X
    refine ⟨_, (pss_cons (ps_if (pt_cmpR op_lt (pe_ix (kix_list (K := K)) (pe_ix (kix_list (K := K)) (kfld (K := K) (pv 0) rfl) (pv 1) (fun _ _ => rfl)) (pv 2) (fun _ _ => rfl)) pe_int (nomark _)) (pss_one (ps_asg (pe_lc (own := [("part", 3)]) (tt := tYes) rfl sc_Tableau_turn.nd  (kpi_list (K := K) (pe_ix (kix_list (K := K)) (kfld (K := K) (pv 0) rfl) (pv 1) (fun _ _ => rfl))) (blkOk_by (N := ["self", "spot", "at", "part", "own", "head", "index", "line"]) (sc := defScope s_Tableau_turn) (by decide +kernel)) (fun _ _ _ _ _ => (pg_name (i := 3) sc_Tableau_turn.nd rfl (Or.inl rfl))) (fun _ _ _ _ _ => pts_nil) (fun _ _ _ _ _ => (pe_un un_neg (pv 3)))) (pg_sub (kfld (K := K) (pv 0) rfl) (pv 1) set_list (fun _ => rfl)))) pss_nil)
  (pss_cons (ps_par (i := 4) (j := 5) rfl sc_Tableau_turn.nd rfl rfl (by decide) rfl rfl (pa_cons (pe_ix (kix_list (K := K)) (kfld (K := K) (pv 0) rfl) (pv 1) (fun _ _ => rfl)) (pa_cons (pe_ix (kix_list (K := K)) (pe_ix (kix_list (K := K)) (kfld (K := K) (pv 0) rfl) (pv 1) (fun _ _ => rfl)) (pv 2) (fun _ _ => rfl)) pa_nil)) rfl)
  (pss_cons (ps_for PassesOwn.never rfl (kpi_enum (K := K) (by rfl) X.n_enumerate (pa_cons (pe_callTy (klist (K := K)) (by rfl) X.n_list (by decide +kernel) (pa_cons (kfld (K := K) (pv 0) rfl) pa_nil)) pa_nil)) (kpg_tup (K := K) (n := 2) rfl (pgs_cons (pg_name (i := 6) sc_Tableau_turn.nd rfl (Or.inl rfl)) (pgs_cons (pg_name (i := 7) sc_Tableau_turn.nd rfl (Or.inl rfl)) pgs_nil))) (pss_one (ps_if (pt_cmpR op_ne (pv 6) (pv 1) (nomark _)) (pss_one (ps_asg (pe_meth (pv 0) X.cl_Tableau X.Tableau_moved.m (ok_Tableau_moved X) (hr.mono (by decide)) X.Tableau_moved.b .nil pass0 (pa_cons (pv 7) (pa_cons (pv 4) (pa_cons (pv 5) (pa_cons (pv 2) pa_nil))))) (pg_sub (kfld (K := K) (pv 0) rfl) (pv 6) set_list (fun _ => rfl)))) pss_nil)))
  (pss_cons (ps_fld (pv 0) (pe_meth (pv 0) X.cl_Tableau X.Tableau_moved.m (ok_Tableau_moved X) (hr.mono (by decide)) X.Tableau_moved.b .nil pass0 (pa_cons (kfld (K := K) (pv 0) rfl) (pa_cons (pv 4) (pa_cons (pv 5) (pa_cons (pv 2) pa_nil))))) rfl)
  (pss_cons (ps_fld (pv 0) (pe_meth (pv 0) X.cl_Tableau X.Tableau_moved.m (ok_Tableau_moved X) (hr.mono (by decide)) X.Tableau_moved.b .nil pass0 (pa_cons (kfld (K := K) (pv 0) rfl) (pa_cons (pv 4) (pa_cons (pv 5) (pa_cons (pv 2) pa_nil))))) rfl)
  (pss_cons (ps_fld (pv 0) (pv 5) rfl)
  (pss_one (ps_asg (pv 2) (pg_sub (kfld (K := K) (pv 0) rfl) (pv 1) set_list (fun _ => rfl)))))))))), ?_⟩
    obtain ⟨r, hr1, hr2, hr3⟩ := hT.get hp
    have lw := hF.lw p hp
    have tun : ∀ {H1 H2 : Hp} {b : Addr} {l : List Int}, IL H1 b l → ∀ {S : Addr → Prop}, Ex T S H1 H2 → ¬ S b → IL H2 b l := fun h _ e n => h.ex e n
    refine seq_of (fun σ H1 => ∃ rs0 r0, σ = [some (.ref a), some (.int (p : Nat)), some (.int (q : Nat)), none, none, none, none, none] ∧ Ex T (Tw a L B) H H1 ∧ TabIn A.Tableau a dx L F G W B rs0 { t with lines := turnL t p q 0 } H1 ∧ rs0[p]? = some r0 ∧ IL H1 r0 (t.own p q)) (fun N hN => ?_) ?_
    · refine ⟨_, rfl, a, _, _, _, _, rfl, hT.ins, X.cl_Tableau, X.na_lines, lk_lines, _, rfl, L, _, _, _, rfl, rfl, hT.sqL, atI_nat hr3, _, rfl, r, _, _, _, rfl, rfl, hr2.sq, atI_ent (l := t.line p) (j := q) (by omega), _, _, rfl, rfl, _, rfl, ?_⟩
      refine ite2 (fun hc => ?_) (fun hc => ?_)
      · have hc : ent (t.line p) q < 0 := of_decide_eq_true hc
        have eo : t.own p q = (t.line p).map fun x => -x := by unfold Tab.own; rw [if_pos hc]
        refine ⟨_, rfl, a, _, _, _, _, rfl, hT.ins, X.cl_Tableau, X.na_lines, lk_lines, _, rfl, L, _, _, _, rfl, rfl, hT.sqL, atI_nat hr3, r, rfl, ⟨_, hr2.sq⟩, lc_src (T := T) (src_list (K := K) (a := r) (xs := (t.line p).map V.int)) (by rw [List.length_map, lw]; exact Nat.le_of_lt hF.nz) (P := fun D i y _ => y = .int (- ent (t.line p) i)) (keep := fun _ => true) (fun D H1 hD ex => (hr2.ex ex (ne_D hr2 hD)).sq) (fun D i y H1 H2 _ _ _ h => h)
          (fun D i x H1 H2 R hD hacc hi ex hY h1 h2 => ?_) (fun D ys H1 hD ex hys hl2 hP => ?_)⟩
        · obtain ⟨hv, rfl⟩ := hY
          have hi1 : i < (t.line p).length := by simpa using hi
          rw [ent_get hi1] at hv; cases hv
          exact ⟨rfl, _, rfl, _, rfl, h1 rfl _ _ Ex.refl rfl⟩
        · rw [kept_all] at hl2 hP
          have ey : ys = (t.own p q).map V.int := by
            rw [eo]
            refine List.ext_getElem? fun i => ?_
            by_cases hi : i < (t.line p).length
            · have hjy : i < ys.length := by rw [hl2, List.length_range]; simpa using hi
              have e := hP i ys[i] i (List.getElem?_eq_getElem hjy) (by rw [List.getElem?_range (by simpa using hi)])
              rw [List.getElem?_eq_getElem hjy, e, ent_get (by rw [List.length_map]; exact hi), ent_neg]
            · rw [List.getElem?_eq_none (by rw [hl2, List.length_range]; simp; omega), List.getElem?_eq_none (by rw [List.length_map, List.length_map]; omega)]
          subst ey
          have hT1 := hT.ex ex
          have hr0 : IL H1 D (t.own p q) := hys
          have nB : D ≠ B := (ne_D hT.b hD ·.symm)
          have nL : D ≠ L := (ne_D hT.ln hD ·.symm)
          refine ⟨_, rfl, a, _, _, _, _, rfl, hT1.ins, X.cl_Tableau, X.na_lines, lk_lines, _, rfl, L, _, _, _, rfl, rfl, hT1.ln, ixN_natt (by rw [List.length_map, hT.len]; exact hp), ?_⟩
          refine hN _ _ ⟨rs.set p D, D, rfl, ex.of_no.set TwL hT1.ln (.lst _), ?_, ?_, ?_⟩
          · rw [turnL_zero hp]; exact hT1.setRow hr0 nB nL
          · rw [List.getElem?_set_self (by rw [hT.len]; exact hp)]
          · unfold IL; rw [upd_ne nL]; exact hr0
      · have hc : ¬ ent (t.line p) q < 0 := fun z => hc (decide_eq_true z)
        have eo : t.own p q = t.line p := by unfold Tab.own; rw [if_neg hc]
        refine hN _ _ ⟨rs, r, rfl, Ex.refl, ?_, hr1, by rw [eo]; exact hr2⟩
        have e : turnL t p q 0 = t.lines := by
          rw [turnL_zero hp, eo]
          refine List.ext_getElem? fun k => ?_
          rw [List.getElem?_set]
          by_cases e : p = k
          · subst e; rw [if_pos rfl, if_pos hp]; unfold Tab.line; rw [List.getD_eq_getElem?_getD, List.getElem?_eq_getElem hp]; rfl
          · rw [if_neg e]
        rw [e]; exact hT
    · rintro σ H1 ⟨rs0, r0, rfl, ex1, hT1, hr01, hr0⟩
      have hown : (t.own p q).length = n := by rw [own_len, lw]
      have hrl : (rs0.map V.ref)[p]? = some (.ref r0) := by rw [List.getElem?_map, hr01]; rfl
      have hmeth : ∀ {t' : Tab} {F' G' W' : Addr}, (tabF t' L F' G' W' B).lookup ("moved" : Str) = none := fun {t' F' G' W'} => lk_meth (by decide +kernel)
      have len0 : rs0.length = t.lines.length := by rw [hT1.len, turnL_len]
      have nrow : ∀ {k : Nat} {r' : Addr}, rs0[k]? = some r' → ¬ Tw a L B r' := fun {k r'} e z => by
        rcases z with z | z | z
        · exact (hT1.row k r' e).na hT1 z
        · exact (hT1.rne r' (List.mem_of_getElem? e)).2 z
        · exact (hT1.rne r' (List.mem_of_getElem? e)).1 z
      -- own, head = ..
      refine seq_of (fun σ H2 => σ = [some (.ref a), some (.int (p : Nat)), some (.int (q : Nat)), none, some (.ref r0), some (.int (t.head p q)), none, none] ∧ H1 = H2) (fun N hN => ?_) ?_
      · exact ⟨_, rfl, a, _, _, _, _, rfl, hT1.ins, X.cl_Tableau, X.na_lines, lk_lines, _, rfl, L, _, _, _, rfl, rfl, hT1.sqL, atI_nat hrl, _, rfl, a, _, _, _, _, rfl, hT1.ins, X.cl_Tableau, X.na_lines, lk_lines, _, rfl, L, _, _, _, rfl, rfl, hT1.sqL, atI_nat hrl, _, rfl, r0, _, _, _, rfl, rfl, hr0.sq, atI_ent (l := t.own p q) (j := q) (by omega), _, _, rfl, hN _ _ ⟨rfl, rfl⟩⟩
      rintro _ _ ⟨rfl, rfl⟩
      -- the loop
      refine seq_of (fun σ H2 => ∃ e6 e7 rs2, σ = [some (.ref a), some (.int (p : Nat)), some (.int (q : Nat)), none, some (.ref r0), some (.int (t.head p q)), e6, e7] ∧ Ex T (Tw a L B) H1 H2 ∧ TabIn A.Tableau a dx L F G W B rs2 { t with lines := (t.turn p q).lines } H2) (fun N hN => ?_) ?_
      · refine ⟨_, rfl, a, _, _, _, _, rfl, hT1.ins, X.cl_Tableau, X.na_lines, lk_lines, L, _, rfl, .inl hT1.sqL, fun c hc => ?_⟩
        have exc : Ex T No H1 (upd H1 c (.lst (rs0.map V.ref))) := Ex.new hc
        have nc : ¬ Tw a L B c := fun z => by
          rcases z with z | z | z
          · exact ne_of_none hT1.ins hc z.symm
          · exact ne_of_none hT1.ln hc z.symm
          · exact ne_of_none hT1.b hc z.symm
        refine ⟨c, _, rfl, .inl (.inl upd_same), for_src (src_enum (K := K) (a := c) (xs := rs0.map V.ref)) (fun i σ H2 => ∃ e6 e7 rs2, σ = [some (.ref a), some (.int (p : Nat)), some (.int (q : Nat)), none, some (.ref r0), some (.int (t.head p q)), e6, e7] ∧ Ex T (Tw a L B) H1 H2 ∧ H2 c = some (.lst (rs0.map V.ref)) ∧ TabIn A.Tableau a dx L F G W B rs2 { t with lines := turnL t p q i } H2)
          ⟨_, _, rs0, rfl, exc.of_no, upd_same, hT1.ex exc⟩ (fun i σ H2 _ ⟨_, _, _, _, _, e, _⟩ => .inl (.inl e)) ?_ ?_⟩
        · rintro i v σ H2 H3 hi ⟨e6, e7, rs2, rfl, ex2, h2c, hT2⟩ ⟨pp, x, rfl, np, rfl, hx⟩
          have hi' : i < t.lines.length := by rw [← len0]; simpa using hi
          obtain ⟨ri, hri⟩ : ∃ ri, rs0[i]? = some ri := ⟨_, List.getElem?_eq_getElem (by rw [len0]; exact hi')⟩
          rw [List.getElem?_map, hri] at hx; cases hx
          have exn : Ex T No H2 (upd H2 pp (.tup [V.int (i : Nat), V.ref ri])) := Ex.new np
          have ex3 : Ex T (Tw a L B) H1 (upd H2 pp (.tup [V.int (i : Nat), V.ref ri])) := ex2.trans exn.of_no
          have hT3 := hT2.ex exn
          refine ⟨pp, _, rfl, .inl (.inl upd_same), rfl, _, _, rfl, _, _, rfl, rfl, ?_⟩
          refine ⟨_, rfl, _, rfl, rfl, _, rfl, ?_⟩
          by_cases hip : i = p
          · subst hip
            refine iteNS rfl ?_
            refine ⟨_, _, rs2, rfl, ex3, exn.lst h2c id, ?_⟩
            rw [← turnL_skip]; exact hT3
          · refine iteY (by rw [decide_eq_false (fun z => hip (by injection z with z; exact_mod_cast z))]; rfl) ?_
            have hrow : IL (upd H2 pp (.tup [V.int (i : Nat), V.ref ri])) ri (t.line i) := by
              have h1 := (hT1.row i ri hri).ex ex3 (nrow hri)
              have e : ({ t with lines := turnL t p q 0 } : Tab).line i = t.line i := by
                rw [turnL_zero hp]
                unfold Tab.line
                dsimp only
                rw [List.getD_eq_getElem?_getD, List.getElem?_set_ne (Ne.symm hip), ← List.getD_eq_getElem?_getD]
              rw [e] at h1; exact h1
            have hown' := hr0.ex ex3 (nrow hr01)
            have li := hF.lw i hi'
            refine ⟨_, rfl, a, _, _, rfl, hT3.ins, hmeth, _, rfl, _, rfl, _, rfl, _, rfl, a, _, _, ri, r0, _, _, _, q, _, rfl, hT3.ins, lk_unit, hrow, hown', by omega, by omega, by rw [li]; exact hF.nz, hF.pos, hF.u, own_sm hF q, hF.l i, own_sm hF, fun l2 H4 ex4 hl2 hIL => ?_⟩
            have hT4 := hT3.ex ex4
            have nB : l2 ≠ B := (ne_of_none hT3.b hl2).symm
            have nL : l2 ≠ L := (ne_of_none hT3.ln hl2).symm
            refine ⟨_, rfl, a, _, _, _, _, rfl, hT4.ins, X.cl_Tableau, X.na_lines, lk_lines, _, rfl, L, _, _, i, rfl, rfl, hT4.ln, ixN_natt (by rw [List.length_map, hT4.len, turnL_len]; exact hi'), ?_⟩
            refine ⟨_, _, rs2.set i l2, rfl, (ex3.trans ex4.of_no).set TwL hT4.ln (.lst _), ?_, ?_⟩
            · rw [upd_ne (fun z => nc (.inr (.inl z)))]
              exact ex4.lst (exn.lst h2c id) id
            · have hs := hT4.setRow (p := i) hIL nB nL
              rw [turnL_step hi' hip] at hs
              exact hs
        · rintro σ H2 ⟨e6, e7, rs2, rfl, ex2, h2c, hT2⟩
          have e : (rs0.map V.ref).length = t.lines.length := by rw [List.length_map, len0]
          rw [e, turnL_end] at hT2
          exact hN _ _ ⟨_, _, rs2, rfl, ex2, hT2⟩
      · rintro σ H2 ⟨e6, e7, rs2, rfl, ex2, hT2⟩
        have hown2 := hr0.ex ex2 (nrow hr01)
        refine ⟨_, rfl, a, _, _, rfl, hT2.ins, hmeth, _, rfl, a, _, _, _, _, rfl, hT2.ins, X.cl_Tableau, X.na_gains, lk_gains, _, rfl, _, rfl, _, rfl, a, _, _, G, r0, _, _, _, q, _, rfl, hT2.ins, lk_unit, hT2.g, hown2, by show t.gains.length = _; rw [hF.gn]; exact hown.symm, by show q < t.gains.length; rw [hF.gn]; exact hq, by show t.gains.length < _; rw [hF.gn]; exact hF.nz, hF.pos, hF.u, own_sm hF q, hF.g, own_sm hF, fun g2 H3 ex3 hg2 hIL => ?_⟩
        have hT3 := hT2.ex ex3
        refine ⟨_, rfl, a, _, _, _, rfl, hT3.ins, X.cl_Tableau, X.na_gains, by show 8 < 1000; omega, ?_⟩
        have hT4 := hT3.setGains hIL (ne_of_none hT2.b hg2).symm (ne_of_none hT2.ln hg2).symm
        have ex4 := (ex2.trans ex3.of_no).set (o := .ins A.Tableau dx (putF "gains" (.ref g2) (tabF { t with lines := (t.turn p q).lines } L F G W B))) Twa hT3.ins (.ins _ _ _)
        have hown4 := hr0.ex ex4 (nrow hr01)
        refine ⟨_, rfl, a, _, _, rfl, hT4.ins, hmeth, _, rfl, a, _, _, _, _, rfl, hT4.ins, X.cl_Tableau, X.na_wants, lk_wants, _, rfl, _, rfl, _, rfl, a, _, _, W, r0, _, _, _, q, _, rfl, hT4.ins, lk_unit, hT4.w, hown4, by show t.wants.length = _; rw [hF.wn]; exact hown.symm, by show q < t.wants.length; rw [hF.wn]; exact hq, by show t.wants.length < _; rw [hF.wn]; exact hF.nz, hF.pos, hF.u, own_sm hF q, hF.w, own_sm hF, fun w2 H5 ex5 hw2 hIL2 => ?_⟩
        have hT5 := hT4.ex ex5
        refine ⟨_, rfl, a, _, _, _, rfl, hT5.ins, X.cl_Tableau, X.na_wants, by show 8 < 1000; omega, ?_⟩
        have hT6 := hT5.setWants hIL2 (ne_of_none hT4.b hw2).symm (ne_of_none hT4.ln hw2).symm
        have ex6 := (ex4.trans ex5.of_no).set (o := .ins A.Tableau dx (putF "wants" (.ref w2) (tabF { t with lines := (t.turn p q).lines, gains := movedL t.unit t.gains (t.own p q) (t.head p q) q } L F g2 W B))) Twa hT5.ins (.ins _ _ _)
        refine ⟨_, rfl, _, rfl, a, _, _, _, rfl, hT6.ins, X.cl_Tableau, X.na_unit, by show 8 < 1000; omega, ?_⟩
        have hT7 := hT6.setUnit (i := t.head p q)
        have ex7 := ex6.set (o := .ins A.Tableau dx (putF "unit" (.int (t.head p q)) (tabF { t with lines := (t.turn p q).lines, gains := movedL t.unit t.gains (t.own p q) (t.head p q) q, wants := movedL t.unit t.wants (t.own p q) (t.head p q) q } L F g2 w2 B))) Twa hT6.ins (.ins _ _ _)
        refine ⟨_, rfl, _, rfl, a, _, _, _, _, rfl, hT7.ins, X.cl_Tableau, X.na_basis, lk_basis, _, rfl, B, _, _, p, rfl, rfl, hT7.b, ixN_natt (by rw [List.length_map, List.length_map]; show p < t.basis.length; rw [hF.bn]; exact hp), ?_⟩
        have hT8 := hT7.setBasis (p := p) (q := q)
        exact k _ (ex1.trans (ex7.set TwB hT7.b (.lst _))) ⟨_, _, _, _, _, hT8⟩
end WB
end

section
set_option Elab.async false
set_option linter.all false
set_option maxRecDepth 100000
set_option maxHeartbeats 2000000
set_option exponentiation.threshold 1000000
namespace WB
open PySem PySem.Spec PyProof.Rows L2 LamX LP
variable {P : Program} {w : World} {K : PySem.W.Frag} {mg : Str → Option Value} {base : Heap} {A : LPA} {T : List (Addr × Str)}

/-! ### climb -/
/-- the field fld holds the line row -/
structure RowFld (K : PySem.W.Frag) (C : Addr) (fld : Str) (row : Tab → List Int) : Prop where
  at_ : ∀ {a dx L F G W B : Addr} {rs : List Addr} {t : Tab} {H : Hp}, TabIn C a dx L F G W B rs t H → ∃ x, (tabF t L F G W B).lookup fld = some (.ref x) ∧ IL H x (row t)
  len : ∀ {n : Nat} {t : Tab}, Fit n t → (row t).length = n
  na : NoAttr K C fld
theorem row_wants (X : LPTxt K mg A) : RowFld K A.Tableau "wants" Tab.wants := ⟨fun h => ⟨_, lk_wants, h.w⟩, fun h => h.wn, X.na_wants⟩
theorem row_gains (X : LPTxt K mg A) : RowFld K A.Tableau "gains" Tab.gains := ⟨fun h => ⟨_, lk_gains, h.g⟩, fun h => h.gn, X.na_gains⟩
/-- what is kept while it climbs -/
structure Keeps (row : Tab → List Int) (n : Nat) (R : Tab → Prop) : Prop where
  fit : ∀ t, R t → Fit n t
  step : ∀ t p q r, R t → gainsL (row t) t.many = q :: r → t.leaving q = some p → R (t.turn p q)
section
variable (T)
def sp_climb (C : Addr) (row : Tab → List Int) (q : Str) : SpLam := fun f c' v vs H Q _ => ∃ a L B t t' o m n R, v = .ref a ∧ vs = [.ref a, .ref f] ∧ H c' = some (CodeO c' q) ∧ TabAt C a L B t H ∧ Keeps row n R ∧ R t ∧ Climbs row m t t' o ∧
  ∀ H', Ex T (Tw a L B) H H' → TabAt C a L B t' H' → Q (optV o) H'
end
theorem at0_cons {α : Type} {x : α} {xs : List α} : atI (x :: xs) 0 = some x := atI_nat (j := 0) rfl
theorem dpAll_ints {H : Hp} : ∀ ns : List Int, DpAll K H (ns.map V.int) (ns.map PyData.int)
  | [] => .nil
  | n :: r => .cons (.int n) (dpAll_ints r)
theorem dp_ints {H : Hp} {p : Addr} {l : List Int} (h : IL H p l) : Dp K H (.ref p) (.list (l.map PyData.int)) := .lst (.inl (.inl h)) (dpAll_ints l)
theorem eqv_nil (l : List Int) : PyData.eqv (.list (l.map PyData.int)) (.list []) = decide (l = []) := by
  cases l with
  | nil => rfl
  | cons x xs => rfl
theorem line62 {n : Nat} (h : n ≤ sizeLine) : -(2 ^ 62 : Int) ≤ (n : Int) ∧ (n : Int) < 2 ^ 62 := by
  rw [sizeLine_eq] at h; omega
theorem ok_Tableau_climb (X : LPTxt K mg A) {f c' c0 : Addr} {q fld : Str} {row : Tab → List Int} {params : Arguments} {body : Expr} {scope : Scope} {cl : List (Str × Addr)} {pm ctv : Value} {oc : Obj} {u : Value} {v : V}
    (hf : base.get? f = some (PySem.W.kla_obj "<lambda>" q params body scope cl pm c' ctv)) (hcl : OneCell cl "tableau" c0) (hc : base.get? c0 = some oc) (hcv : oc.data = .cell (some u)) (rv : RelV v u) (hL : LamOne scope "tableau")
    (hbind : bindArgs (PySem.W.kla_fn "<lambda>" q params body scope cl pm (.ref c') ctv) ⟨[], []⟩ = pure []) (hrow : RowFld K A.Tableau fld row)
    (hbody : ∀ (Y : Cx) (s : Shared) (H : Hp), Y.K = K → PE (oneCx Y s H q scope f c' cl "tableau") body (tFld K (tVar 0) fld)) :
    FnOk P w K mg base CX0 3 A.Tableau_climb.1 A.Tableau_climb.2 ["self", "line_of"] (sp_climb T A.Tableau row q f c' v) := by
  refine X.Tableau_climb.fn.ok sc_Tableau_climb (fun vs H Q E h => ?_) (fun cdv A' outer s H vs Q E hr h => ?_)
  · obtain ⟨_, _, _, _, _, _, _, _, _, _, rfl, _⟩ := h; rfl
  · obtain ⟨a, L, B, t, t', o, m, n, R, rfl, rfl, hco, ⟨dx, F, G, W, rs, hT⟩, hK, hR, hC, k⟩ := h
    have ok_Tableau_leaving : ∀ {P : Program} {w : World} {base : Heap} (X : LPTxt K mg A), FnOk P w K mg base CX0 1 A.Tableau_leaving.1 A.Tableau_leaving.2 ["self", "at"] (sp_leaving T A.Tableau) := fun X => ok_Tableau_leaving X
    have ok_Tableau_turn : ∀ {P : Program} {w : World} {base : Heap} (X : LPTxt K mg A), FnOk P w K mg base CX0 2 A.Tableau_turn.1 A.Tableau_turn.2 ["self", "spot", "at"] (sp_turn T A.Tableau) := fun X => ok_Tableau_turn X
    refine ⟨_, (pss_one (ps_while PassesOwn.never (pt_val pe_bl) (pss_cons (ps_setLc (i := 2) (own := [("at", 3)]) rfl sc_Tableau_climb.nd rfl rfl (sw_true rfl rfl rfl (by decide +kernel)) (pi_range1 rfl X.n_range (pa_cons (kfld (K := K) (pv 0) rfl) pa_nil)) (blkOk_by (N := ["self", "line_of", "some", "at", "spot"]) (sc := defScope s_Tableau_climb) (by decide +kernel)) (fun _ _ _ _ _ => (pg_name (i := 3) sc_Tableau_climb.nd rfl (Or.inl rfl))) (fun _ _ _ _ _ => (pts_one (pt_cmpR op_gt (pe_ix (kix_list (K := K)) (pe_lam1 (k := 0) hf hc hcv rv hcl hL hbind (hr.mono (by decide)) (fun s H _ => hbody _ s H rfl) (pv 1)) (pv 3) (fun _ _ => rfl)) pe_int (nomark _)))) (fun _ _ _ _ _ => (pv 3)))
  (pss_cons (ps_if (pt_cmpR (keqD (K := K) (hu64 hr)) (pv 2) (pe_lst pa_nil) (nomark _)) (pss_one (ps_ret pe_non)) pss_nil)
  (pss_cons (ps_set (i := 4) sc_Tableau_climb.nd rfl (Or.inl rfl) (pe_meth (pv 0) X.cl_Tableau X.Tableau_leaving.m (ok_Tableau_leaving X) (hr.mono (by decide)) X.Tableau_leaving.b .nil pass0 (pa_cons (pe_ix (kix_list (K := K)) (pv 2) pe_int (fun _ _ => rfl)) pa_nil)))
  (pss_cons (ps_if (pt_cmpR op_isN (pv 4) pe_non (nomark _)) (pss_one (ps_ret (pe_ix (kix_list (K := K)) (pv 2) pe_int (fun _ _ => rfl)))) pss_nil)
  (pss_one (ps_expr (pe_meth (pv 0) X.cl_Tableau X.Tableau_turn.m (ok_Tableau_turn X) (hr.mono (by decide)) X.Tableau_turn.b .nil pass0 (pa_cons (pv 4) (pa_cons (pe_ix (kix_list (K := K)) (pv 2) pe_int (fun _ _ => rfl)) pa_nil))))))))))), ?_⟩
    have nc : ¬ Tw a L B c' := fun z => by
      rcases z with z | z | z
      · exact ne_of hco hT.ins (by intro q; cases q) z
      · exact ne_of hco hT.ln (by intro q; cases q) z
      · exact ne_of hco hT.b (by intro q; cases q) z
    refine ⟨fun m σ H1 => ∃ t1 e2 e3 e4, σ = [some (.ref a), some (.ref f), e2, e3, e4] ∧ Climbs row m t1 t' o ∧ R t1 ∧ Ex T (Tw a L B) H H1 ∧ TabAt A.Tableau a L B t1 H1, ⟨m, t, none, none, none, rfl, hC, hR, Ex.refl, _, _, _, _, _, hT⟩, ?_⟩
    rintro m1 σ H1 ⟨t1, e2, e3, e4, rfl, hC1, hR1, ex1, dx1, F1, G1, W1, rs1, hT1⟩
    refine ⟨_, rfl, iteT ?_⟩
    have hF := hK.fit _ hR1
    have hco1 : H1 c' = some (CodeO c' q) := ex1.e c' _ nc hco (fun ps z => codeO_ne ps z)
    obtain ⟨x, hx, hxl⟩ := hrow.at_ hT1
    have hxn := hrow.len hF
    refine ⟨fun σ H2 => ∃ m2, m2 < m1 ∧ ∃ t1 e2 e3 e4, σ = [some (.ref a), some (.ref f), e2, e3, e4] ∧ Climbs row m2 t1 t' o ∧ R t1 ∧ Ex T (Tw a L B) H H2 ∧ TabAt A.Tableau a L B t1 H2, fun σ' H' z => z, ?_⟩
    -- some = [..]
    refine seq_of (fun σ H2 => ∃ D, σ = [some (.ref a), some (.ref f), some (.ref D), e3, e4] ∧ Ex T No H1 H2 ∧ IL H2 D ((gainsL (row t1) t1.many).map fun (k : Nat) => (k : Int))) (fun N hN => ?_) ?_
    · refine ⟨_, rfl, a, _, _, _, _, rfl, hT1.ins, X.cl_Tableau, X.na_many, lk_many, _, rfl, (line62 (Nat.le_trans hF.mn (Nat.le_of_lt hF.nz))).1, (line62 (Nat.le_trans hF.mn (Nat.le_of_lt hF.nz))).2, lc_src (T := T) (src_range (lo := 0) (n := t1.many)) (Nat.le_trans hF.mn (Nat.le_of_lt hF.nz)) (P := fun D i y _ => y = .int (i : Nat)) (keep := fun j => decide (0 < ent (row t1) j)) (fun D H2 hD ex => trivial) (fun D i y H2 H3 _ _ _ h => h)
          (fun D i x' H2 H3 R' hD hacc hi ex hY h1 h2 => ?_) (fun D ys H2 hD ex hys hl2 hP => ?_)⟩
      · obtain ⟨rfl, rfl⟩ := hY
        have hco2 : H3 c' = some (CodeO c' q) := ex.e c' _ (ne_D hco1 hD) hco1 (fun ps z => codeO_ne ps z)
        have hins2 := ex.ins hT1.ins (ne_D hT1.ins hD)
        have hx2 := hxl.ex ex (ne_D hxl hD)
        have hin : i < (row t1).length := by rw [hxn]; have := hF.mn; omega
        have e0 : (0 : Int) + ((i : Nat) : Int) = ((i : Nat) : Int) := by omega
        rw [e0]
        refine ⟨rfl, _, rfl, rfl, hco2, _, rfl, a, _, _, _, _, rfl, hins2, X.cl_Tableau, hrow.na, hx, _, rfl, x, _, _, _, rfl, rfl, hx2.sq, atI_ent hin, _, _, rfl, rfl, _, rfl, ?_⟩
        refine ite2 (fun z => ?_) (fun z => ?_)
        · exact ⟨_, rfl, h1 z _ _ Ex.refl rfl⟩
        · exact h2 (Bool.eq_false_iff.mpr z) _ Ex.refl
      · have ey : ys = ((gainsL (row t1) t1.many).map fun (k : Nat) => (k : Int)).map V.int := by
          have hg : gainsL (row t1) t1.many = kept (fun j => decide (0 < ent (row t1) j)) t1.many := rfl
          rw [hg]
          refine List.ext_getElem? fun i => ?_
          by_cases hi : i < ys.length
          · have hj : i < (kept (fun j => decide (0 < ent (row t1) j)) t1.many).length := by rw [← hl2]; exact hi
            have e := hP i ys[i] _ (List.getElem?_eq_getElem hi) (List.getElem?_eq_getElem hj)
            rw [List.getElem?_eq_getElem hi, e, List.getElem?_map, List.getElem?_map, List.getElem?_eq_getElem hj]; rfl
          · rw [List.getElem?_eq_none (by omega), List.getElem?_eq_none (by rw [List.length_map, List.length_map]; omega)]
        subst ey
        exact hN _ _ ⟨D, rfl, ex, hys⟩
    rintro σ H2 ⟨D, rfl, ex2, hD⟩
    have hT2 := hT1.ex ex2
    have exA : Ex T (Tw a L B) H H2 := ex1.trans ex2.of_no
    have dpS : ∀ {l : List Int}, IL H2 D l → ∀ p, H2 p = none → ∀ (Z : V → Hp → Prop), Z (.bl (decide (l = []))) (upd H2 p (.lst [])) → rEqD K (.ref D) (.ref p) (upd H2 p (.lst [])) Z := fun {l} hl p hp Z hz => by
      refine ⟨_, .list [], dp_ints (l := l) (by unfold IL; rw [upd_ne (ne_of_none hl hp)]; exact hl), .lst (.inl (.inl upd_same)) .nil, PySem.W.ke_shaped_ints _, PySem.W.ke_shaped_ints [], ?_⟩
      rw [eqv_nil]; exact hz
    cases hC1 with
    | done hg =>
      rw [hg] at hD
      refine ⟨_, rfl, Nat.zero_le _, fun p hp => dpS hD p hp _ ⟨_, rfl, iteYd rfl ?_⟩⟩
      exact k _ (exA.trans (Ex.of_no (Ex.new hp))) ⟨_, _, _, _, _, hT2.ex (Ex.new (T := T) hp)⟩
    | free hg hl =>
      rename_i q1 r1
      obtain ⟨hq, _, _⟩ := gainsL_cons hg
      rw [hg] at hD
      refine ⟨_, rfl, Nat.zero_le _, fun p hp => dpS hD p hp _ ⟨_, rfl, iteNd (by intro z; cases z) ?_⟩⟩
      have exp : Ex T No H2 (upd H2 p (.lst [])) := Ex.new hp
      have hT3 := hT2.ex exp
      have hD3 := hD.ex exp id
      refine ⟨_, rfl, a, _, _, rfl, hT3.ins, lk_meth (by decide +kernel), _, rfl, D, _, _, _, rfl, rfl, hD3.sq, at0_cons, a, L, B, t', n, q1, rfl, ⟨_, _, _, _, _, hT3⟩, hF, by have := hF.mn; omega, fun H4 ex4 => ?_⟩
      rw [hl]
      refine ⟨_, rfl, rfl, _, rfl, iteYd rfl ?_⟩
      refine ⟨_, rfl, D, _, _, _, rfl, rfl, (hD3.ex ex4 id).sq, at0_cons, ?_⟩
      exact k _ (exA.trans ((exp.trans ex4).of_no)) ⟨_, _, _, _, _, hT3.ex ex4⟩
    | turn hg hl hC2 =>
      rename_i m2 q1 p1 r1
      obtain ⟨hq, _, _⟩ := gainsL_cons hg
      have hq' : q1 < n := by have := hF.mn; omega
      have hp1 : p1 < t1.lines.length := (leaving_some _ hl).lt
      rw [hg] at hD
      refine ⟨_, rfl, Nat.zero_le _, fun p hp => dpS hD p hp _ ⟨_, rfl, iteNd (by intro z; cases z) ?_⟩⟩
      have exp : Ex T No H2 (upd H2 p (.lst [])) := Ex.new hp
      have hT3 := hT2.ex exp
      have hD3 := hD.ex exp id
      refine ⟨_, rfl, a, _, _, rfl, hT3.ins, lk_meth (by decide +kernel), _, rfl, D, _, _, _, rfl, rfl, hD3.sq, at0_cons, a, L, B, t1, n, q1, rfl, ⟨_, _, _, _, _, hT3⟩, hF, hq', fun H4 ex4 => ?_⟩
      rw [hl]
      refine ⟨_, rfl, rfl, _, rfl, iteNd (by intro z; cases z) ?_⟩
      have hT4 := hT3.ex ex4
      refine ⟨_, rfl, a, _, _, rfl, hT4.ins, lk_meth (by decide +kernel), _, rfl, _, rfl, D, _, _, _, rfl, rfl, (hD3.ex ex4 id).sq, at0_cons, a, L, B, t1, n, p1, q1, rfl, ⟨_, _, _, _, _, hT4⟩, hF, hp1, hq', fun H5 ex5 hT5 => ?_⟩
      exact ⟨m2, Nat.lt_succ_self _, t1.turn p1 q1, _, _, _, rfl, hC2, hK.step _ _ _ _ hR1 hg hl, (exA.trans ((exp.trans ex4).of_no)).trans ex5, hT5⟩
end WB
end

section
set_option Elab.async false
set_option linter.all false
set_option maxRecDepth 100000
set_option maxHeartbeats 2000000
set_option exponentiation.threshold 1000000
namespace WB
open PySem PySem.Spec PyProof.Rows L2 LamX LP
variable {P : Program} {w : World} {K : PySem.W.Frag} {mg : Str → Option Value} {base : Heap} {A : LPA} {T : List (Addr × Str)}

/-- a new list of one's own is written -/
theorem Ex.setN {H H1 : Hp} {p : Addr} {o u : HO} (a : Ex T No H H1) (hp : Nw H p) (hn : H1 p = some u) (hw : Wr u) (ho : NT o := by intro ps z; cases z) : Ex T No H (upd H1 p o) := by
  have b : Ex T (· = p) H (upd H1 p o) := (a.of_no).set rfl hn hw ho
  exact ⟨fun c x _ e t => b.e c x (fun z => by have z : c = p := z; exact hp x (by rw [← z]; exact e) t) e t, b.t, b.k⟩
theorem dpAll_set {H : Hp} : ∀ {ds : List PyData} {vs : List V} {j : Nat} {v : V} {d : PyData}, DpAll K H vs ds → Dp K H v d → DpAll K H (vs.set j v) (ds.set j d)
  | [], _, _, _, _, h, _ => by cases h; exact .nil
  | _ :: _, _, 0, _, _, h, k => by
    cases h with
    | cons _ h2 => exact .cons k h2
  | _ :: _, _, j + 1, _, _, h, k => by
    cases h with
    | cons h1 h2 => exact .cons h1 (dpAll_set (j := j) h2 k)
theorem dpAll_app {H : Hp} : ∀ {ds es : List PyData} {vs us : List V}, DpAll K H vs ds → DpAll K H us es → DpAll K H (vs ++ us) (ds ++ es)
  | [], _, _, _, h, k => by cases h; exact k
  | _ :: _, _, _, _, h, k => by
    cases h with
    | cons h1 h2 => exact .cons h1 (dpAll_app h2 k)
theorem dpAll_rep {H : Hp} {v : V} {d : PyData} (h : Dp K H v d) : ∀ n, DpAll K H (List.replicate n v) (List.replicate n d)
  | 0 => .nil
  | n + 1 => .cons h (dpAll_rep h n)
theorem rep_flat {α : Type} (x : α) (n : Nat) : (List.replicate n [x]).flatten = List.replicate n x := by
  induction n with
  | zero => rfl
  | succ n ih => rw [List.replicate_succ, List.flatten_cons, ih]; rfl

/-! ### drive_out -/
structure KeepsD (n : Nat) (R : Tab → Prop) : Prop where
  fit : ∀ t, R t → Fit n t
  step : ∀ t p q, R t → p < t.lines.length → q < t.many → ent (t.line p) q ≠ 0 → R (t.turn p q)
section
variable (K T)
def sp_drive (C : Addr) : Sp := fun vs H Q _ => ∃ a L B t n R, vs = [.ref a] ∧ TabAt C a L B t H ∧ KeepsD n R ∧ R t ∧ ∀ H', Ex T (Tw a L B) H H' → TabAt C a L B t.driveOut H' → Q .non H'
def sp_weights (C : Addr) : Sp := fun vs H Q _ => ∃ a L B t n, vs = [.ref a] ∧ TabAt C a L B t H ∧ Fit n t ∧ Gives K T H Q (dv t.weights)
def sp_ray (C : Addr) : Sp := fun vs H Q _ => ∃ a L B t n q, vs = [.ref a, .int (q : Nat)] ∧ TabAt C a L B t H ∧ Fit n t ∧ q < t.many ∧ Gives K T H Q (dv (t.ray q))
def sp_prices (C : Addr) : Sp := fun vs H Q _ => ∃ a L B t l line sc, vs = [.ref a, .ref l, .int sc] ∧ TabAt C a L B t H ∧ IL H l line ∧ t.many + t.factors.length ≤ line.length ∧ line.length < sizeLine ∧ (∀ j, Sm (ent line j)) ∧ Sm t.unit ∧ Sm sc ∧ (∀ i, Sm (t.factors.getD i 0)) ∧
  (∀ i, i < t.factors.length → LowOk (- ent line (t.many + i) * t.factors.getD i 0) (t.unit * sc)) ∧ Gives K T H Q (dv (pricesL t line sc))
end
theorem turn_lines (t : Tab) (p q : Nat) : (t.turn p q).lines.length = t.lines.length := by show (t.lines.mapIdx _).length = _; rw [List.length_mapIdx]
theorem drive_keep {n : Nat} {R : Tab → Prop} (hK : KeepsD n R) {t : Tab} (h : R t) : ∀ i, i ≤ t.lines.length → R (t.driveTo i) ∧ (t.driveTo i).lines.length = t.lines.length ∧ (t.driveTo i).many = t.many
  | 0, _ => ⟨h, rfl, rfl⟩
  | i + 1, hi => by
    obtain ⟨h1, h2, h3⟩ := drive_keep hK h i (by omega)
    rw [driveTo_succ]
    unfold Tab.driveStep
    split
    · split
      · exact ⟨h1, h2, h3⟩
      · rename_i q r hq
        obtain ⟨z1, z2⟩ := nonzeros_cons hq
        exact ⟨hK.step _ _ _ h1 (by omega) z1 z2, by rw [turn_lines, h2], h3⟩
    · exact ⟨h1, h2, h3⟩
theorem ok_Tableau_drive_out (X : LPTxt K mg A) : FnOk P w K mg base CX0 3 A.Tableau_drive_out.1 A.Tableau_drive_out.2 ["self"] (sp_drive T A.Tableau) := by
  refine X.Tableau_drive_out.fn.ok sc_Tableau_drive_out (fun vs H Q E h => ?_) (fun cdv A' outer s H vs Q E hr h => ?_)
  · obtain ⟨_, _, _, _, _, _, rfl, _⟩ := h; rfl
  · obtain ⟨a, L, B, t, n, R, rfl, ⟨dx, F, G, W, rs, hT⟩, hK, hR, k⟩ := h
    have ok_Tableau_turn : ∀ {P : Program} {w : World} {base : Heap} (X : LPTxt K mg A), FnOk P w K mg base CX0 2 A.Tableau_turn.1 A.Tableau_turn.2 ["self", "spot", "at"] (sp_turn T A.Tableau) := fun X => ok_Tableau_turn X
    refine ⟨_, (pss_one (ps_for PassesOwn.never rfl (pi_range1 rfl X.n_range (pa_cons (pe_callB (klen (K := K)) (by rfl) X.n_len (by decide +kernel) (pa_cons (kfld (K := K) (pv 0) rfl) pa_nil)) pa_nil)) (pg_name (i := 1) sc_Tableau_drive_out.nd rfl (Or.inr rfl)) (pss_one (ps_if (pt_cmpR op_ge (pe_ix (kix_list (K := K)) (kfld (K := K) (pv 0) rfl) (pv 1) (fun _ _ => rfl)) (kfld (K := K) (pv 0) rfl) (nomark _)) (pss_cons (ps_setLc (i := 2) (own := [("at", 3)]) rfl sc_Tableau_drive_out.nd rfl rfl (sw_true rfl rfl rfl (by decide +kernel)) (pi_range1 rfl X.n_range (pa_cons (kfld (K := K) (pv 0) rfl) pa_nil)) (blkOk_by (N := ["self", "spot", "some", "at"]) (sc := defScope s_Tableau_drive_out) (by decide +kernel)) (fun _ _ _ _ _ => (pg_name (i := 3) sc_Tableau_drive_out.nd rfl (Or.inl rfl))) (fun _ _ _ _ _ => (pts_one (pt_cmpR op_ne (pe_ix (kix_list (K := K)) (pe_ix (kix_list (K := K)) (kfld (K := K) (pv 0) rfl) (pv 1) (fun _ _ => rfl)) (pv 3) (fun _ _ => rfl)) pe_int (nomark _)))) (fun _ _ _ _ _ => (pv 3)))
  (pss_one (ps_if (pt_cmpR (kneD (K := K) (hu64 hr)) (pv 2) (pe_lst pa_nil) (nomark _)) (pss_one (ps_expr (pe_meth (pv 0) X.cl_Tableau X.Tableau_turn.m (ok_Tableau_turn X) (hr.mono (by decide)) X.Tableau_turn.b .nil pass0 (pa_cons (pv 1) (pa_cons (pe_ix (kix_list (K := K)) (pv 2) pe_int (fun _ _ => rfl)) pa_nil))))) pss_nil))) pss_nil)))), ?_⟩
    have hF0 := hK.fit _ hR
    have elen : (rs.map V.ref).length = t.lines.length := by rw [List.length_map, hT.len]
    refine ⟨_, rfl, a, _, _, _, _, rfl, hT.ins, X.cl_Tableau, X.na_lines, lk_lines, L, _, rfl, .inl hT.sqL, _, rfl, ?_⟩
    rw [elen]
    refine ⟨(line62 (Nat.le_of_lt hF0.lz)).1, (line62 (Nat.le_of_lt hF0.lz)).2, for_src (src_range (lo := 0) (n := t.lines.length)) (fun i σ H1 => ∃ e1 e2 e3, σ = [some (.ref a), e1, e2, e3] ∧ Ex T (Tw a L B) H H1 ∧ TabAt A.Tableau a L B (t.driveTo i) H1)
      ⟨_, _, _, rfl, Ex.refl, _, _, _, _, _, hT⟩ (fun _ _ _ _ _ => trivial) ?_ ?_⟩
    · rintro i v σ _ H1 hi ⟨e1, e2, e3, rfl, ex1, dx1, F1, G1, W1, rs1, hT1⟩ ⟨rfl, rfl⟩
      have e0 : (0 : Int) + ((i : Nat) : Int) = ((i : Nat) : Int) := by omega
      rw [e0]
      obtain ⟨hR1, hl1, hm1⟩ := drive_keep hK hR i (by omega)
      have hF := hK.fit _ hR1
      have hi1 : i < (t.driveTo i).lines.length := by omega
      refine ⟨_, rfl, a, _, _, _, _, rfl, hT1.ins, X.cl_Tableau, X.na_basis, lk_basis, _, rfl, B, _, _, _, rfl, rfl, hT1.b.sq, bas_get (by rw [hF.bn]; exact hi1), _, rfl, a, _, _, _, _, rfl, hT1.ins, X.cl_Tableau, X.na_many, lk_many, _, _, rfl, rfl, _, rfl, ?_⟩
      refine ite2 (fun hb => ?_) (fun hb => ?_)
      · have hb : (t.driveTo i).many ≤ (t.driveTo i).bas i := by have := of_decide_eq_true hb; exact_mod_cast this
        obtain ⟨r, hr1, hr2, hr3⟩ := hT1.get hi1
        have lw := hF.lw i hi1
        refine seq_of (fun σ H2 => ∃ D, σ = [some (.ref a), some (.int (i : Nat)), some (.ref D), e3] ∧ Ex T No H1 H2 ∧ IL H2 D ((nonzeros ((t.driveTo i).line i) (t.driveTo i).many).map fun (k : Nat) => (k : Int))) (fun N hN => ?_) ?_
        · refine ⟨_, rfl, a, _, _, _, _, rfl, hT1.ins, X.cl_Tableau, X.na_many, lk_many, _, rfl, (line62 (Nat.le_trans hF.mn (Nat.le_of_lt hF.nz))).1, (line62 (Nat.le_trans hF.mn (Nat.le_of_lt hF.nz))).2, lc_src (T := T) (src_range (lo := 0) (n := (t.driveTo i).many)) (Nat.le_trans hF.mn (Nat.le_of_lt hF.nz)) (P := fun D j y _ => y = .int (j : Nat)) (keep := fun j => decide (ent ((t.driveTo i).line i) j ≠ 0)) (fun D H2 hD ex => trivial) (fun D j y H2 H3 _ _ _ h => h)
            (fun D j x' H2 H3 R' hD hacc hj ex hY h1 h2 => ?_) (fun D ys H2 hD ex hys hl2 hP => ?_)⟩
          · obtain ⟨rfl, rfl⟩ := hY
            have e0 : (0 : Int) + ((j : Nat) : Int) = ((j : Nat) : Int) := by omega
            rw [e0]
            have hins2 := ex.ins hT1.ins (ne_D hT1.ins hD)
            have hln2 := ex.lst hT1.ln (ne_D hT1.ln hD)
            have hr22 := hr2.ex ex (ne_D hr2 hD)
            have hj' : j < ((t.driveTo i).line i).length := by rw [lw]; have := hF.mn; omega
            refine ⟨rfl, _, rfl, a, _, _, _, _, rfl, hins2, X.cl_Tableau, X.na_lines, lk_lines, _, rfl, L, _, _, _, rfl, rfl, .inl (.inl hln2), atI_nat hr3, _, rfl, r, _, _, _, rfl, rfl, hr22.sq, atI_ent hj', rfl, _, rfl, ?_⟩
            by_cases hz : ent ((t.driveTo i).line i) j = 0
            · rw [hz]
              refine iteNS rfl ?_
              exact h2 (decide_eq_false (fun z => z hz)) _ Ex.refl
            · refine iteY (by rw [decide_eq_false (fun z => hz (by injection z))]; rfl) ?_
              exact ⟨_, rfl, h1 (decide_eq_true hz) _ _ Ex.refl rfl⟩
          · have ey : ys = ((nonzeros ((t.driveTo i).line i) (t.driveTo i).many).map fun (k : Nat) => (k : Int)).map V.int := by
              have hg : nonzeros ((t.driveTo i).line i) (t.driveTo i).many = kept (fun j => decide (ent ((t.driveTo i).line i) j ≠ 0)) (t.driveTo i).many := rfl
              rw [hg]
              refine List.ext_getElem? fun j => ?_
              by_cases hi : j < ys.length
              · have hj : j < (kept (fun j => decide (ent ((t.driveTo i).line i) j ≠ 0)) (t.driveTo i).many).length := by rw [← hl2]; exact hi
                have e := hP j ys[j] _ (List.getElem?_eq_getElem hi) (List.getElem?_eq_getElem hj)
                rw [List.getElem?_eq_getElem hi, e, List.getElem?_map, List.getElem?_map, List.getElem?_eq_getElem hj]; rfl
              · rw [List.getElem?_eq_none (by omega), List.getElem?_eq_none (by rw [List.length_map, List.length_map]; omega)]
            subst ey
            exact hN _ _ ⟨D, rfl, ex, hys⟩
        rintro σ H2 ⟨D, rfl, ex2, hD⟩
        have hT2 := hT1.ex ex2
        have exA : Ex T (Tw a L B) H H2 := ex1.trans ex2.of_no
        have dpS : ∀ {l : List Int}, IL H2 D l → ∀ p, H2 p = none → ∀ (Z : V → Hp → Prop), Z (.bl (!decide (l = []))) (upd H2 p (.lst [])) → rNeD K (.ref D) (.ref p) (upd H2 p (.lst [])) Z := fun {l} hl p hp Z hz => by
          refine ⟨_, .list [], dp_ints (l := l) (by unfold IL; rw [upd_ne (ne_of_none hl hp)]; exact hl), .lst (.inl (.inl upd_same)) .nil, PySem.W.ke_shaped_ints _, PySem.W.ke_shaped_ints [], ?_⟩
          rw [eqv_nil]; exact hz
        cases hg : nonzeros ((t.driveTo i).line i) (t.driveTo i).many with
        | nil =>
          rw [hg] at hD
          refine ⟨_, rfl, Nat.zero_le _, fun p hp => dpS hD p hp _ ⟨_, rfl, iteNS rfl ?_⟩⟩
          refine ⟨_, _, _, rfl, exA.trans (Ex.of_no (Ex.new hp)), ?_⟩
          rw [driveTo_succ]
          unfold Tab.driveStep
          rw [if_pos hb, hg]
          exact ⟨_, _, _, _, _, hT2.ex (Ex.new (T := T) hp)⟩
        | cons q1 r1 =>
          obtain ⟨z1, z2⟩ := nonzeros_cons hg
          rw [hg] at hD
          refine ⟨_, rfl, Nat.zero_le _, fun p hp => dpS hD p hp _ ⟨_, rfl, iteY rfl ?_⟩⟩
          have exp : Ex T No H2 (upd H2 p (.lst [])) := Ex.new hp
          have hT3 := hT2.ex exp
          have hD3 := hD.ex exp id
          refine ⟨_, rfl, a, _, _, rfl, hT3.ins, lk_meth (by decide +kernel), _, rfl, _, rfl, D, _, _, _, rfl, rfl, hD3.sq, at0_cons, a, L, B, t.driveTo i, n, i, q1, rfl, ⟨_, _, _, _, _, hT3⟩, hF, hi1, by have := hF.mn; omega, fun H5 ex5 hT5 => ?_⟩
          refine ⟨_, _, _, rfl, (exA.trans exp.of_no).trans ex5, ?_⟩
          rw [driveTo_succ]
          unfold Tab.driveStep
          rw [if_pos hb, hg]
          exact hT5
      · refine ⟨_, _, _, rfl, ex1, ?_⟩
        rw [driveTo_succ]
        unfold Tab.driveStep
        rw [if_neg (fun z => hb (decide_eq_true (by exact_mod_cast z)))]
        exact ⟨_, _, _, _, _, hT1⟩
    · rintro σ H1 ⟨e1, e2, e3, rfl, ex1, hT1⟩
      exact k H1 ex1 hT1

/-! ### weights, ray, prices -/
theorem rep_q (n : Nat) (q : Rat) : (List.replicate n q).map dq = List.replicate n (dq q) := List.map_replicate
theorem low_unit {n : Nat} {t : Tab} (F : Fit n t) (i : Int) : LowOk i t.unit := .of_den F.pos F.u
theorem ok_Tableau_weights (X : LPTxt K mg A) : FnOk P w K mg base CX0 2 A.Tableau_weights.1 A.Tableau_weights.2 ["self"] (sp_weights K T A.Tableau) := by
  refine X.Tableau_weights.fn.ok sc_Tableau_weights (fun vs H Q E h => ?_) (fun cdv A' outer s H vs Q E hr h => ?_)
  · obtain ⟨_, _, _, _, _, rfl, _⟩ := h; rfl
  · obtain ⟨a, L, B, t, n, rfl, ⟨dx, F, G, W, rs, hT⟩, hF, k⟩ := h
    have ok_lowest : ∀ {P : Program} {w : World} {base : Heap} (X : LPTxt K mg A), FnOk P w K mg base CX0 1 A.lowest.1 A.lowest.2 ["n", "d"] (sp_lowest K T) := fun X => ok_lowest X
    refine ⟨_, (pss_cons (ps_set (i := 1) sc_Tableau_weights.nd rfl (Or.inl rfl) (pe_op op_rep (pe_lst (pa_cons (pe_tup (pa_cons pe_int (pa_cons pe_int pa_nil))) pa_nil)) (kfld (K := K) (pv 0) rfl)))
  (pss_cons (ps_for PassesOwn.never rfl (kpi_enum (K := K) (by rfl) X.n_enumerate (pa_cons (kfld (K := K) (pv 0) rfl) pa_nil)) (kpg_tup (K := K) (n := 2) rfl (pgs_cons (pg_name (i := 2) sc_Tableau_weights.nd rfl (Or.inl rfl)) (pgs_cons (pg_name (i := 3) sc_Tableau_weights.nd rfl (Or.inl rfl)) pgs_nil))) (pss_one (ps_if (pt_cmpR op_lt (pv 3) (kfld (K := K) (pv 0) rfl) (nomark _)) (pss_one (ps_asg (pe_call (ok_lowest X) (hr.mono (by decide)) rfl X.lowest.g X.lowest.fn.kp X.lowest.b .nil pass0 (pa_cons (pe_ix (kix_list (K := K)) (pe_ix (kix_list (K := K)) (kfld (K := K) (pv 0) rfl) (pv 2) (fun _ _ => rfl)) (pe_un un_neg pe_int) (fun _ _ => rfl)) (pa_cons (kfld (K := K) (pv 0) rfl) pa_nil))) (pg_sub (pv 1) (pv 3) set_list (fun _ => rfl)))) pss_nil)))
  (pss_one (ps_ret (pe_callTy (ktuple (K := K)) (by rfl) X.n_tuple (by decide +kernel) (pa_cons (pv 1) pa_nil)))))), ?_⟩
    have bm := line62 (Nat.le_trans hF.mn (Nat.le_of_lt hF.nz))
    refine seq_of (fun σ H1 => ∃ l xs, σ = [some (.ref a), some (.ref l), none, none] ∧ Ex T No H H1 ∧ Nw H l ∧ H1 l = some (.lst xs) ∧ DpAll K H1 xs ((List.replicate t.many (0 : Rat)).map dq)) (fun N hN => ?_) ?_
    · refine ⟨two_line, fun p0 hp0 => ⟨by show 1 ≤ sizeLine; decide, fun l0 hl0 => ?_⟩⟩
      have e1 : Ex T No H (upd (upd H p0 (.tup [.int 0, .int 1])) l0 (.lst [.ref p0])) := (Ex.new hp0).more hl0
      have hT1 := hT.ex e1
      refine ⟨_, rfl, a, _, _, _, _, rfl, hT1.ins, X.cl_Tableau, X.na_many, lk_many, l0, _, _, rfl, rfl, upd_same, by omega, by omega, ?_, fun l hl => ?_⟩
      · show 1 * (t.many : Int).toNat ≤ sizeLine
        have := hF.mn; have := hF.nz
        omega
      · have e2 := e1.more (o := .lst (List.replicate (t.many : Int).toNat [V.ref p0]).flatten) hl
        refine hN _ _ ⟨l, _, rfl, e2, ?_, upd_same, ?_⟩
        · exact e1.free hl
        · rw [rep_flat, rep_q]
          have ep : (upd (upd (upd H p0 (.tup [.int 0, .int 1])) l0 (.lst [.ref p0])) l (.lst (List.replicate (t.many : Int).toNat (.ref p0)))) p0 = some (.tup [.int 0, .int 1]) := by
            have h1 : (upd (upd H p0 (.tup [.int 0, .int 1])) l0 (.lst [.ref p0])) p0 = some (.tup [.int 0, .int 1]) := by rw [upd_ne (ne_of_none upd_same hl0)]; exact upd_same
            rw [upd_ne (ne_of_none h1 hl)]; exact h1
          exact dpAll_rep (dp_q_of (q := 0) (.inl (.inl ep))) t.many
    rintro σ H1 ⟨l, xs, rfl, ex1, nl, hl, hx⟩
    have hT1 := hT.ex ex1
    refine seq_of (fun σ H2 => ∃ xs e2 e3, σ = [some (.ref a), some (.ref l), e2, e3] ∧ Ex T No H H2 ∧ H2 l = some (.lst xs) ∧ DpAll K H2 xs (t.weights.map dq)) (fun N hN => ?_) ?_
    · have blen : ((t.basis.map fun (k : Nat) => (k : Int)).map V.int).length = t.basis.length := by rw [List.length_map, List.length_map]
      refine ⟨_, rfl, a, _, _, _, _, rfl, hT1.ins, X.cl_Tableau, X.na_basis, lk_basis, B, _, rfl, hT1.b.sq, for_src (src_enum (K := K) (a := B) (xs := (t.basis.map fun (k : Nat) => (k : Int)).map V.int)) (fun i σ H2 => ∃ xs e2 e3, σ = [some (.ref a), some (.ref l), e2, e3] ∧ Ex T No H H2 ∧ H2 l = some (.lst xs) ∧ DpAll K H2 xs ((setFold t.many t.bas (fun i => quo (lastE (t.line i)) t.unit) (List.replicate t.many 0) i).map dq))
        ⟨xs, _, _, rfl, ex1, hl, hx⟩ (fun i σ H2 _ ⟨_, _, _, _, e, _⟩ => (hT.ex e).b.sq) ?_ ?_⟩
      · rintro i v σ H2 H3 hi ⟨xs2, e2, e3, rfl, ex2, hl2, hx2⟩ ⟨pp, x, rfl, np, rfl, hxi⟩
        have hi' : i < t.basis.length := by rw [blen] at hi; exact hi
        have hi1 : i < t.lines.length := by rw [← hF.bn]; exact hi'
        have hxi' : x = .int (t.bas i : Nat) := by
          have := bas_get hi'
          rw [atI_nat hxi] at this
          exact Option.some.inj this
        subst hxi'
        have exn : Ex T No H2 (upd H2 pp (.tup [V.int (i : Nat), V.int (t.bas i : Nat)])) := Ex.new np
        have ex3 := ex2.trans exn
        have hT3 := hT.ex ex3
        have hl3 := exn.lst hl2 id
        have hx3 := dpAll_tu exn.tu (flatAll_q _) hx2
        refine ⟨pp, _, rfl, .inl (.inl upd_same), rfl, _, _, rfl, _, _, rfl, rfl, ?_⟩
        refine ⟨_, rfl, _, rfl, a, _, _, _, _, rfl, hT3.ins, X.cl_Tableau, X.na_many, lk_many, _, _, rfl, rfl, _, rfl, ?_⟩
        refine ite2 (fun hb => ?_) (fun hb => ?_)
        · have hb : t.bas i < t.many := by have := of_decide_eq_true hb; exact_mod_cast this
          obtain ⟨r, hr1, hr2, hr3⟩ := hT3.get hi1
          have lw := hF.lw i hi1
          have n0 := hF.n0
          refine ⟨_, rfl, a, _, _, _, _, rfl, hT3.ins, X.cl_Tableau, X.na_lines, lk_lines, _, rfl, L, _, _, _, rfl, rfl, hT3.sqL, atI_nat hr3, _, rfl, r, _, _, _, rfl, rfl, hr2.sq, atI_last (by omega), _, rfl, a, _, _, _, _, rfl, hT3.ins, X.cl_Tableau, X.na_unit, lk_unit, _, _, rfl, low_unit hF _, fun v H4 ex4 dv => ?_⟩
          have hl4 := ex4.lst hl3 id
          have hx4 := dpAll_tu ex4.tu (flatAll_q _) hx3
          have hlen : xs2.length = t.many := by
            have := dpAll_len hx2
            rw [List.length_map, setFold_len, List.length_replicate] at this; exact this
          refine ⟨_, rfl, _, rfl, l, _, _, t.bas i, rfl, rfl, hl4, ixN_natt (by rw [hlen]; exact hb), ?_⟩
          refine ⟨_, _, _, rfl, (ex3.trans ex4).setN nl hl4 (.lst _), upd_same, ?_⟩
          rw [setFold_succ, if_pos hb, List.map_set]
          have tu : Tu H4 (upd H4 l (.lst (xs2.set (t.bas i) v))) := Tu.set hl4 (.lst _)
          exact dpAll_set (dpAll_tu tu (flatAll_q _) hx4) (dp_tu tu rfl dv)
        · refine ⟨_, _, _, rfl, ex3, hl3, ?_⟩
          rw [setFold_succ, if_neg (fun z => hb (decide_eq_true (by exact_mod_cast z)))]
          exact hx3
      · rintro σ H2 ⟨xs2, e2, e3, rfl, ex2, hl2, hx2⟩
        rw [blen] at hx2
        exact hN _ _ ⟨xs2, e2, e3, rfl, ex2, hl2, hx2⟩
    rintro σ H2 ⟨xs2, e2, e3, rfl, ex2, hl2, hx2⟩
    refine ⟨_, rfl, l, _, rfl, .inl ⟨.inl (.inl hl2), fun p hp => ?_⟩⟩
    have exp : Ex T No H2 (upd H2 p (.tup xs2)) := Ex.new hp
    exact k _ _ (ex2.trans exp) (.tup (.inl (.inl upd_same)) (dpAll_tu exp.tu (flatAll_q _) hx2))
theorem low_neg {n : Nat} {t : Tab} (F : Fit n t) (i : Int) : LowOk i t.unit := low_unit F i
theorem ok_Tableau_ray (X : LPTxt K mg A) : FnOk P w K mg base CX0 2 A.Tableau_ray.1 A.Tableau_ray.2 ["self", "at"] (sp_ray K T A.Tableau) := by
  refine X.Tableau_ray.fn.ok sc_Tableau_ray (fun vs H Q E h => ?_) (fun cdv A' outer s H vs Q E hr h => ?_)
  · obtain ⟨_, _, _, _, _, _, rfl, _⟩ := h; rfl
  · obtain ⟨a, L, B, t, n, q, rfl, ⟨dx, F, G, W, rs, hT⟩, hF, hq, k⟩ := h
    have ok_lowest : ∀ {P : Program} {w : World} {base : Heap} (X : LPTxt K mg A), FnOk P w K mg base CX0 1 A.lowest.1 A.lowest.2 ["n", "d"] (sp_lowest K T) := fun X => ok_lowest X
    refine ⟨_, (pss_cons (ps_set (i := 2) sc_Tableau_ray.nd rfl (Or.inl rfl) (pe_op op_rep (pe_lst (pa_cons (pe_tup (pa_cons pe_int (pa_cons pe_int pa_nil))) pa_nil)) (kfld (K := K) (pv 0) rfl)))
  (pss_cons (ps_asg (pe_tup (pa_cons pe_int (pa_cons pe_int pa_nil))) (pg_sub (pv 2) (pv 1) set_list (fun _ => rfl)))
  (pss_cons (ps_for PassesOwn.never rfl (kpi_enum (K := K) (by rfl) X.n_enumerate (pa_cons (kfld (K := K) (pv 0) rfl) pa_nil)) (kpg_tup (K := K) (n := 2) rfl (pgs_cons (pg_name (i := 3) sc_Tableau_ray.nd rfl (Or.inl rfl)) (pgs_cons (pg_name (i := 4) sc_Tableau_ray.nd rfl (Or.inl rfl)) pgs_nil))) (pss_one (ps_if (pt_cmpR op_lt (pv 4) (kfld (K := K) (pv 0) rfl) (nomark _)) (pss_one (ps_asg (pe_call (ok_lowest X) (hr.mono (by decide)) rfl X.lowest.g X.lowest.fn.kp X.lowest.b .nil pass0 (pa_cons (pe_un un_neg (pe_ix (kix_list (K := K)) (pe_ix (kix_list (K := K)) (kfld (K := K) (pv 0) rfl) (pv 3) (fun _ _ => rfl)) (pv 1) (fun _ _ => rfl))) (pa_cons (kfld (K := K) (pv 0) rfl) pa_nil))) (pg_sub (pv 2) (pv 4) set_list (fun _ => rfl)))) pss_nil)))
  (pss_one (ps_ret (pe_callTy (ktuple (K := K)) (by rfl) X.n_tuple (by decide +kernel) (pa_cons (pv 2) pa_nil))))))), ?_⟩
    have bm := line62 (Nat.le_trans hF.mn (Nat.le_of_lt hF.nz))
    refine seq_of (fun σ H1 => ∃ l xs, σ = [some (.ref a), some (.int (q : Nat)), some (.ref l), none, none] ∧ Ex T No H H1 ∧ Nw H l ∧ H1 l = some (.lst xs) ∧ DpAll K H1 xs ((List.replicate t.many (0 : Rat)).map dq)) (fun N hN => ?_) ?_
    · refine ⟨two_line, fun p0 hp0 => ⟨by show 1 ≤ sizeLine; decide, fun l0 hl0 => ?_⟩⟩
      have e1 : Ex T No H (upd (upd H p0 (.tup [.int 0, .int 1])) l0 (.lst [.ref p0])) := (Ex.new hp0).more hl0
      have hT1 := hT.ex e1
      refine ⟨_, rfl, a, _, _, _, _, rfl, hT1.ins, X.cl_Tableau, X.na_many, lk_many, l0, _, _, rfl, rfl, upd_same, by omega, by omega, ?_, fun l hl => ?_⟩
      · show 1 * (t.many : Int).toNat ≤ sizeLine
        have := hF.mn; have := hF.nz
        omega
      · have e2 := e1.more (o := .lst (List.replicate (t.many : Int).toNat [V.ref p0]).flatten) hl
        refine hN _ _ ⟨l, _, rfl, e2, ?_, upd_same, ?_⟩
        · exact e1.free hl
        · rw [rep_flat, rep_q]
          have ep : (upd (upd (upd H p0 (.tup [.int 0, .int 1])) l0 (.lst [.ref p0])) l (.lst (List.replicate (t.many : Int).toNat (.ref p0)))) p0 = some (.tup [.int 0, .int 1]) := by
            have h1 : (upd (upd H p0 (.tup [.int 0, .int 1])) l0 (.lst [.ref p0])) p0 = some (.tup [.int 0, .int 1]) := by rw [upd_ne (ne_of_none upd_same hl0)]; exact upd_same
            rw [upd_ne (ne_of_none h1 hl)]; exact h1
          exact dpAll_rep (dp_q_of (q := 0) (.inl (.inl ep))) t.many
    rintro σ H1 ⟨l, xs, rfl, ex1, nl, hl, hx⟩
    have hlenx : xs.length = t.many := by
      have := dpAll_len hx
      rw [List.length_map, List.length_replicate] at this; exact this
    refine seq_of (fun σ H2 => ∃ xs, σ = [some (.ref a), some (.int (q : Nat)), some (.ref l), none, none] ∧ Ex T No H H2 ∧ H2 l = some (.lst xs) ∧ DpAll K H2 xs (((List.replicate t.many (0 : Rat)).set q 1).map dq)) (fun N hN => ?_) ?_
    · refine ⟨two_line, fun p hp => ?_⟩
      have exp : Ex T No H1 (upd H1 p (.tup [.int 1, .int 1])) := Ex.new hp
      have hl2 := exp.lst hl id
      refine ⟨_, rfl, _, rfl, l, _, _, q, rfl, rfl, hl2, ixN_natt (by rw [hlenx]; exact hq), ?_⟩
      refine hN _ _ ⟨_, rfl, (ex1.trans exp).setN nl hl2 (.lst _), upd_same, ?_⟩
      have tu : Tu (upd H1 p (.tup [.int 1, .int 1])) (upd (upd H1 p (.tup [.int 1, .int 1])) l (.lst (xs.set q (.ref p)))) := Tu.set hl2 (.lst _)
      rw [List.map_set]
      exact dpAll_set (dpAll_tu (exp.tu.trans tu) (flatAll_q _) hx) (dp_tu tu rfl (dp_q_of (q := 1) (.inl (.inl upd_same))))
    rintro σ H1' ⟨xs', rfl, ex1', hl', hx'⟩
    have hT1 := hT.ex ex1'
    refine seq_of (fun σ H2 => ∃ xs e2 e3, σ = [some (.ref a), some (.int (q : Nat)), some (.ref l), e2, e3] ∧ Ex T No H H2 ∧ H2 l = some (.lst xs) ∧ DpAll K H2 xs ((t.ray q).map dq)) (fun N hN => ?_) ?_
    · have blen : ((t.basis.map fun (k : Nat) => (k : Int)).map V.int).length = t.basis.length := by rw [List.length_map, List.length_map]
      refine ⟨_, rfl, a, _, _, _, _, rfl, hT1.ins, X.cl_Tableau, X.na_basis, lk_basis, B, _, rfl, hT1.b.sq, for_src (src_enum (K := K) (a := B) (xs := (t.basis.map fun (k : Nat) => (k : Int)).map V.int)) (fun i σ H2 => ∃ xs e2 e3, σ = [some (.ref a), some (.int (q : Nat)), some (.ref l), e2, e3] ∧ Ex T No H H2 ∧ H2 l = some (.lst xs) ∧ DpAll K H2 xs ((setFold t.many t.bas (fun i => quo (- ent (t.line i) q) t.unit) ((List.replicate t.many (0 : Rat)).set q 1) i).map dq))
        ⟨xs', _, _, rfl, ex1', hl', hx'⟩ (fun i σ H2 _ ⟨_, _, _, _, e, _⟩ => (hT.ex e).b.sq) ?_ ?_⟩
      · rintro i v σ H2 H3 hi ⟨xs2, e2, e3, rfl, ex2, hl2, hx2⟩ ⟨pp, x, rfl, np, rfl, hxi⟩
        have hi' : i < t.basis.length := by rw [blen] at hi; exact hi
        have hi1 : i < t.lines.length := by rw [← hF.bn]; exact hi'
        have hxi' : x = .int (t.bas i : Nat) := by
          have := bas_get hi'
          rw [atI_nat hxi] at this
          exact Option.some.inj this
        subst hxi'
        have exn : Ex T No H2 (upd H2 pp (.tup [V.int (i : Nat), V.int (t.bas i : Nat)])) := Ex.new np
        have ex3 := ex2.trans exn
        have hT3 := hT.ex ex3
        have hl3 := exn.lst hl2 id
        have hx3 := dpAll_tu exn.tu (flatAll_q _) hx2
        refine ⟨pp, _, rfl, .inl (.inl upd_same), rfl, _, _, rfl, _, _, rfl, rfl, ?_⟩
        refine ⟨_, rfl, _, rfl, a, _, _, _, _, rfl, hT3.ins, X.cl_Tableau, X.na_many, lk_many, _, _, rfl, rfl, _, rfl, ?_⟩
        refine ite2 (fun hb => ?_) (fun hb => ?_)
        · have hb : t.bas i < t.many := by have := of_decide_eq_true hb; exact_mod_cast this
          obtain ⟨r, hr1, hr2, hr3⟩ := hT3.get hi1
          have lw := hF.lw i hi1
          have hqn : q < n := by have := hF.mn; omega
          refine ⟨_, rfl, a, _, _, _, _, rfl, hT3.ins, X.cl_Tableau, X.na_lines, lk_lines, _, rfl, L, _, _, _, rfl, rfl, hT3.sqL, atI_nat hr3, _, rfl, r, _, _, _, rfl, rfl, hr2.sq, atI_ent (l := t.line i) (j := q) (by omega), _, rfl, _, rfl, a, _, _, _, _, rfl, hT3.ins, X.cl_Tableau, X.na_unit, lk_unit, _, _, rfl, low_unit hF _, fun v H4 ex4 dv => ?_⟩
          have hl4 := ex4.lst hl3 id
          have hx4 := dpAll_tu ex4.tu (flatAll_q _) hx3
          have hlen : xs2.length = t.many := by
            have := dpAll_len hx2
            rw [List.length_map, setFold_len, List.length_set, List.length_replicate] at this; exact this
          refine ⟨_, rfl, _, rfl, l, _, _, t.bas i, rfl, rfl, hl4, ixN_natt (by rw [hlen]; exact hb), ?_⟩
          refine ⟨_, _, _, rfl, (ex3.trans ex4).setN nl hl4 (.lst _), upd_same, ?_⟩
          rw [setFold_succ, if_pos hb, List.map_set]
          have tu : Tu H4 (upd H4 l (.lst (xs2.set (t.bas i) v))) := Tu.set hl4 (.lst _)
          exact dpAll_set (dpAll_tu tu (flatAll_q _) hx4) (dp_tu tu rfl dv)
        · refine ⟨_, _, _, rfl, ex3, hl3, ?_⟩
          rw [setFold_succ, if_neg (fun z => hb (decide_eq_true (by exact_mod_cast z)))]
          exact hx3
      · rintro σ H2 ⟨xs2, e2, e3, rfl, ex2, hl2, hx2⟩
        rw [blen] at hx2
        exact hN _ _ ⟨xs2, e2, e3, rfl, ex2, hl2, hx2⟩
    rintro σ H2 ⟨xs2, e2, e3, rfl, ex2, hl2, hx2⟩
    refine ⟨_, rfl, l, _, rfl, .inl ⟨.inl (.inl hl2), fun p hp => ?_⟩⟩
    have exp : Ex T No H2 (upd H2 p (.tup xs2)) := Ex.new hp
    exact k _ _ (ex2.trans exp) (.tup (.inl (.inl upd_same)) (dpAll_tu exp.tu (flatAll_q _) hx2))
theorem ok_Tableau_prices (X : LPTxt K mg A) : FnOk P w K mg base CX0 2 A.Tableau_prices.1 A.Tableau_prices.2 ["self", "line", "scale"] (sp_prices K T A.Tableau) := by
  refine X.Tableau_prices.fn.ok sc_Tableau_prices (fun vs H Q E h => ?_) (fun cdv A' outer s H vs Q E hr h => ?_)
  · obtain ⟨_, _, _, _, _, _, _, rfl, _⟩ := h; rfl
  · obtain ⟨a, L, B, t, l0, line, sc, rfl, ⟨dx, F, G, W, rs, hT⟩, hli, hlen, hz, lS, uS, scS, fS, low, k⟩ := h
    have ok_lowest : ∀ {P : Program} {w : World} {base : Heap} (X : LPTxt K mg A), FnOk P w K mg base CX0 1 A.lowest.1 A.lowest.2 ["n", "d"] (sp_lowest K T) := fun X => ok_lowest X
    refine ⟨_, (pss_cons (ps_set (i := 3) sc_Tableau_prices.nd rfl (Or.inl rfl) (pe_lst pa_nil))
  (pss_cons (ps_for PassesOwn.never rfl (kpi_enum (K := K) (by rfl) X.n_enumerate (pa_cons (kfld (K := K) (pv 0) rfl) pa_nil)) (kpg_tup (K := K) (n := 2) rfl (pgs_cons (pg_name (i := 4) sc_Tableau_prices.nd rfl (Or.inl rfl)) (pgs_cons (pg_name (i := 5) sc_Tableau_prices.nd rfl (Or.inl rfl)) pgs_nil))) (pss_one (ps_expr (pe_bm PySem.F.plainAttrs_list PySem.F.slot_list_append PySem.F.type_list_append mt_append (pv 3) (pa_cons (pe_call (ok_lowest X) (hr.mono (by decide)) rfl X.lowest.g X.lowest.fn.kp X.lowest.b .nil pass0 (pa_cons (pe_op op_mulW (pe_un un_neg (pe_ix (kix_list (K := K)) (pv 1) (pe_op op_add (kfld (K := K) (pv 0) rfl) (pv 4)) (fun _ _ => rfl))) (pv 5)) (pa_cons (pe_op op_mulW (kfld (K := K) (pv 0) rfl) (pv 2)) pa_nil))) pa_nil)))))
  (pss_one (ps_ret (pe_callTy (ktuple (K := K)) (by rfl) X.n_tuple (by decide +kernel) (pa_cons (pv 3) pa_nil)))))), ?_⟩
    refine seq_of (fun σ H1 => ∃ l, σ = [some (.ref a), some (.ref l0), some (.int sc), some (.ref l), none, none] ∧ H l = none ∧ H1 = upd H l (.lst [])) (fun N hN => ⟨Nat.zero_le _, fun l hl => hN _ _ ⟨l, rfl, hl, rfl⟩⟩) ?_
    rintro _ _ ⟨l, rfl, hl, rfl⟩
    have ex0 : Ex T No H (upd H l (.lst [])) := Ex.new hl
    have hT0 := hT.ex ex0
    have flen : (t.factors.map V.int).length = t.factors.length := by rw [List.length_map]
    have glen : ∀ i, ((pricesL t line sc).take i).length ≤ t.factors.length := fun i => by
      rw [List.length_take]; unfold pricesL; rw [List.length_mapIdx]; exact Nat.min_le_right _ _
    refine seq_of (fun σ H2 => ∃ xs e4 e5, σ = [some (.ref a), some (.ref l0), some (.int sc), some (.ref l), e4, e5] ∧ Ex T No H H2 ∧ H2 l = some (.lst xs) ∧ DpAll K H2 xs ((pricesL t line sc).map dq)) (fun N hN => ?_) ?_
    · refine ⟨_, rfl, a, _, _, _, _, rfl, hT0.ins, X.cl_Tableau, X.na_factors, lk_factors, F, _, rfl, hT0.f.sq, for_src (src_enum (K := K) (a := F) (xs := t.factors.map V.int)) (fun i σ H2 => ∃ xs e4 e5, σ = [some (.ref a), some (.ref l0), some (.int sc), some (.ref l), e4, e5] ∧ Ex T No H H2 ∧ H2 l = some (.lst xs) ∧ DpAll K H2 xs (((pricesL t line sc).take i).map dq))
        ⟨[], _, _, rfl, ex0, upd_same, .nil⟩ (fun i σ H2 _ ⟨_, _, _, _, e, _⟩ => (hT.ex e).f.sq) ?_ ?_⟩
      · rintro i v σ H2 H3 hi ⟨xs2, e4, e5, rfl, ex2, hl2, hx2⟩ ⟨pp, x, rfl, np, rfl, hxi⟩
        have hi' : i < t.factors.length := by rw [flen] at hi; exact hi
        have hxi' : x = .int (t.factors.getD i 0) := by
          have := ent_get hi'
          rw [hxi] at this
          exact Option.some.inj this
        subst hxi'
        have exn : Ex T No H2 (upd H2 pp (.tup [V.int (i : Nat), V.int (t.factors.getD i 0)])) := Ex.new np
        have ex3 := ex2.trans exn
        have hT3 := hT.ex ex3
        have hl3 := exn.lst hl2 id
        have hx3 := dpAll_tu exn.tu (flatAll_q _) hx2
        have hli3 := hli.ex ex3 id
        refine ⟨pp, _, rfl, .inl (.inl upd_same), rfl, _, _, rfl, _, _, rfl, rfl, ?_⟩
        refine ⟨_, rfl, .inl ⟨rfl, _, .inl (.inl hl3)⟩, _, rfl, _, rfl, a, _, _, _, _, rfl, hT3.ins, X.cl_Tableau, X.na_many, lk_many, _, rfl, _, _, rfl, rfl, l0, _, _, _, rfl, rfl, hli3.sq, atI_ent (l := line) (j := t.many + i) (by omega), _, rfl, _, rfl, _, _, rfl, rfl, ((lS _).neg).mul (fS i), _, rfl, a, _, _, _, _, rfl, hT3.ins, X.cl_Tableau, X.na_unit, lk_unit, _, rfl, _, _, rfl, rfl, uS.mul scS, _, _, rfl, low i hi', fun v H4 ex4 dv => ?_⟩
        have hl4 := ex4.lst hl3 id
        have hx4 := dpAll_tu ex4.tu (flatAll_q _) hx3
        have xl : xs2.length ≤ t.factors.length := by
          have := dpAll_len hx2
          rw [List.length_map] at this
          rw [this]; exact glen i
        refine ⟨l, _, _, rfl, rfl, hl4, by omega, ?_⟩
        refine ⟨_, _, _, rfl, (ex3.trans ex4).setN (.of hl) hl4 (.lst _), upd_same, ?_⟩
        have tu : Tu H4 (upd H4 l (.lst (xs2 ++ [v]))) := Tu.set hl4 (.lst _)
        have ep : (pricesL t line sc)[i]? = some (quo (- ent line (t.many + i) * t.factors.getD i 0) (t.unit * sc)) := by
          unfold pricesL
          rw [List.getElem?_mapIdx, List.getElem?_eq_getElem hi', Option.map_some, List.getD_eq_getElem?_getD, List.getElem?_eq_getElem hi']; rfl
        rw [List.take_add_one, ep, List.map_append]
        exact dpAll_app (dpAll_tu tu (flatAll_q _) hx4) (.cons (dp_tu tu rfl dv) .nil)
      · rintro σ H2 ⟨xs2, e4, e5, rfl, ex2, hl2, hx2⟩
        have ep : (pricesL t line sc).take (t.factors.map V.int).length = pricesL t line sc := List.take_of_length_le (by rw [flen]; unfold pricesL; rw [List.length_mapIdx]; exact Nat.le_refl _)
        rw [ep] at hx2
        exact hN _ _ ⟨xs2, e4, e5, rfl, ex2, hl2, hx2⟩
    rintro σ H2 ⟨xs2, e2, e3, rfl, ex2, hl2, hx2⟩
    refine ⟨_, rfl, l, _, rfl, .inl ⟨.inl (.inl hl2), fun p hp => ?_⟩⟩
    have exp : Ex T No H2 (upd H2 p (.tup xs2)) := Ex.new hp
    exact k _ _ (ex2.trans exp) (.tup (.inl (.inl upd_same)) (dpAll_tu exp.tu (flatAll_q _) hx2))
end WB
end

section
set_option Elab.async false
set_option linter.all false
set_option maxRecDepth 100000
set_option maxHeartbeats 2000000
set_option exponentiation.threshold 1000000
namespace WB
open PySem PySem.Spec PyProof.Rows L2 LamX LP
variable {P : Program} {w : World} {K : PySem.W.Frag} {mg : Str → Option Value} {base : Heap} {A : LPA} {T : List (Addr × Str)}

theorem Ex.setS {S : Addr → Prop} {H H1 : Hp} {p : Addr} {o u : HO} (a : Ex T S H H1) (hp : Nw H p) (hn : H1 p = some u) (hw : Wr u) (ho : NT o := by intro ps z; cases z) : Ex T S H (upd H1 p o) := by
  have b : Ex T (fun b => S b ∨ b = p) H (upd H1 p o) := (a.mono fun b h => .inl h).set (.inr rfl) hn hw ho
  exact ⟨fun c x n e t => b.e c x (fun z => by
    rcases z with z | z
    · exact n z
    · exact hp x (by rw [← z]; exact e) t) e t, b.t, b.k⟩
theorem kept_get {n j : Nat} (h : j < n) : (kept (fun _ => true) n)[j]? = some j := by rw [kept_all, List.getElem?_range h]
theorem kept_tlen (n : Nat) : (kept (fun _ => true) n).length = n := by rw [kept_all, List.length_range]
/-- a comprehension's ints -/
theorem ints_of {n : Nat} {ys : List V} {out : List Int} (hl : ys.length = (kept (fun _ => true) n).length) (ho : out.length = n) (h : ∀ (j : Nat) (y : V) (i : Nat), ys[j]? = some y → (kept (fun _ => true) n)[j]? = some i → y = .int (ent out i)) : ys = out.map V.int := by
  rw [kept_tlen] at hl
  refine List.ext_getElem? fun j => ?_
  by_cases hj : j < n
  · have hjy : j < ys.length := by omega
    rw [List.getElem?_eq_getElem hjy, h j _ j (List.getElem?_eq_getElem hjy) (kept_get hj), ent_get (by omega)]
  · rw [List.getElem?_eq_none (by omega), List.getElem?_eq_none (by rw [List.length_map]; omega)]
/-- a comprehension's data -/
theorem datas_of {H : Hp} {n : Nat} {ys : List V} {ds : List PyData} (hl : ys.length = (kept (fun _ => true) n).length) (ho : ds.length = n) (h : ∀ (j : Nat) (y : V) (i : Nat), ys[j]? = some y → (kept (fun _ => true) n)[j]? = some i → ∃ d, ds[i]? = some d ∧ Dp K H y d) : DpAll K H ys ds := by
  rw [kept_tlen] at hl
  refine dpAll_of (by omega) fun j y d e1 e2 => ?_
  have hj : j < n := by have := (List.getElem?_eq_some_iff.mp e1).1; omega
  obtain ⟨d', e3, e4⟩ := h j y j e1 (kept_get hj)
  rw [e2] at e3; cases e3; exact e4
theorem cut_last (xs : List V) : cutV xs none (some (-1)) = xs.dropLast := by
  unfold cutV
  rw [HT.sIx_none]
  have e : HT.sIx xs.length xs.length (some (-1)) = xs.length - 1 := by
    show (if (-1 : Int) < 0 then ((-1 : Int) + (xs.length : Int)).toNat else min (-1 : Int).toNat xs.length) = _
    rw [if_pos (by omega)]; omega
  rw [e, List.drop_zero, Nat.sub_zero, List.dropLast_eq_take]
/-- what the tableau's making asks -/
structure InitOk (goal : List Rat) (lims : Lims) : Prop where
  sz : lims.length + goal.length + 1 < sizeLine
  rows : ∀ l ∈ lims, l.1.length = goal.length
  rowC : ∀ i, i < goal.length → ClrOk (rowAt goal lims i)
  bds : ClrOk (lims.map (·.2))
  sm : ∀ i j, i < goal.length → Sm (ent (clr (rowAt goal lims i)) j)
section
variable (K T)
def sp_init (C : Addr) : Sp := fun vs H Q _ => ∃ a dx cl xs vg gl ys goal lims, vs = [.ref a, .ref cl, vg, .ref gl] ∧ H a = some (.ins C dx []) ∧ SqL K H cl xs ∧ DpAll K H xs (lims.map fun (l : List Rat × Rat) => dv l.1) ∧ Dp K H vg (dv goal) ∧ SqL K H gl ys ∧ DpAll K H ys (lims.map fun (l : List Rat × Rat) => dq l.2) ∧
  InitOk goal lims ∧ ∀ L B H', Ex T (· = a) H H' → TabAt C a L B (initTab goal lims) H' → Nw H L → Nw H B → Q .non H'
end
theorem sqL_a {H H' : Hp} {a p C dx : Addr} {fs : List (Str × V)} {xs : List V} (h : SqL K H p xs) (ha : H a = some (.ins C dx fs)) (e : Ex T (· = a) H H') : SqL K H' p xs := by
  rcases h with (h | ⟨o, h⟩) | h
  · exact .inl (.inl (e.e p _ (ne_of h ha (by intro z; cases z)) h (fun ps z => by cases z)))
  · exact .inl (.inr ⟨o, e.e p _ (ne_of h ha (by intro z; cases z)) h (fun ps z => by cases z)⟩)
  · exact .inr h
theorem Ex.sqLD {H H' : Hp} {D p : Addr} {xs : List V} (e : Ex T (· = D) H H') (h : SqL K H p xs) (hD : H D = none) : SqL K H' p xs := by
  rcases h with (h | ⟨o, h⟩) | h
  · exact .inl (.inl (e.e p _ (ne_D h hD) h (fun ps z => by cases z)))
  · exact .inl (.inr ⟨o, e.e p _ (ne_D h hD) h (fun ps z => by cases z)⟩)
  · exact .inr h
theorem Ex.tuD {H H' : Hp} {D : Addr} (e : Ex T (· = D) H H') (hD : H D = none) : Tu H H' := e.tuS fun p hp u hu => by
  have hp : p = D := hp
  rw [hp, hD] at hu; cases hu
theorem rowAt_map (goal : List Rat) (lims : Lims) (i : Nat) : (rowAt goal lims i).map dq = (lims.map fun l => dq (at0 l.1 i)) ++ [dq (at0 goal i)] := by
  unfold rowAt; rw [List.map_append, List.map_map]; rfl
theorem sgn_sm (row : List Rat) : Sm (sgnOf row) := by
  rcases sgnOf_sq row with h | h <;> rw [h] <;> unfold Sm
  · show 1 < _; exact Nat.one_lt_two_pow (by omega)
  · show 1 < _; exact Nat.one_lt_two_pow (by omega)
/-- i lines are made -/
abbrev fs3 (lims : Lims) (L F : Addr) : List (Str × V) := [("many", .int (lims.length : Nat)), ("lines", .ref L), ("factors", .ref F)]
abbrev fs4 (lims : Lims) (L F : Addr) : List (Str × V) := [("many", .int (lims.length : Nat)), ("lines", .ref L), ("factors", .ref F), ("scale", .int (lcmL (lims.map (·.2)) : Nat))]
abbrev fs5 (lims : Lims) (L F G : Addr) : List (Str × V) := [("many", .int (lims.length : Nat)), ("lines", .ref L), ("factors", .ref F), ("scale", .int (lcmL (lims.map (·.2)) : Nat)), ("gains", .ref G)]
abbrev fs6 (lims : Lims) (L F G W : Addr) : List (Str × V) := [("many", .int (lims.length : Nat)), ("lines", .ref L), ("factors", .ref F), ("scale", .int (lcmL (lims.map (·.2)) : Nat)), ("gains", .ref G), ("wants", .ref W)]
abbrev fs7 (lims : Lims) (L F G W : Addr) : List (Str × V) := [("many", .int (lims.length : Nat)), ("lines", .ref L), ("factors", .ref F), ("scale", .int (lcmL (lims.map (·.2)) : Nat)), ("gains", .ref G), ("wants", .ref W), ("unit", .int 1)]
structure InitSt (T : List (Addr × Str)) (C a dx L F : Addr) (fs : List (Str × V)) (goal : List Rat) (lims : Lims) (H : Hp) (i : Nat) (rs : List Addr) (H2 : Hp) : Prop where
  ex : Ex T (· = a) H H2
  ha : H2 a = some (.ins C dx fs)
  nL : Nw H L
  nF : Nw H F
  LF : L ≠ F
  hL : H2 L = some (.lst (rs.map V.ref))
  len : rs.length = i
  row : ∀ (k : Nat) r, rs[k]? = some r → IL H2 r (initLine goal.length (rowAt goal lims k) k) ∧ Nw H r ∧ r ≠ L ∧ r ≠ F
  hF : IL H2 F ((List.range i).map fun i => sgnOf (rowAt goal lims i) * lcmL (rowAt goal lims i))
theorem InitSt.to {C a dx L F : Addr} {fs : List (Str × V)} {goal : List Rat} {lims : Lims} {H H2 H3 : Hp} {i : Nat} {rs : List Addr} (h : InitSt T C a dx L F fs goal lims H i rs H2) (e : Ex T No H2 H3) : InitSt T C a dx L F fs goal lims H i rs H3 where
  ex := h.ex.trans e.of_no
  ha := e.ins h.ha id
  nL := h.nL
  nF := h.nF
  LF := h.LF
  hL := e.lst h.hL id
  len := h.len
  row := fun k r q => ⟨(h.row k r q).1.ex e id, (h.row k r q).2⟩
  hF := h.hF.ex e id
theorem InitSt.al {C a dx L F : Addr} {fs : List (Str × V)} {goal : List Rat} {lims : Lims} {H H2 : Hp} {i : Nat} {rs : List Addr} (h : InitSt T C a dx L F fs goal lims H i rs H2) {p : Addr} {xs : List V} (hp : H2 p = some (.lst xs)) : p ≠ a := ne_of hp h.ha (by intro z; cases z)
/-- a field is written -/
theorem InitSt.put {C a dx L F : Addr} {fs fs' : List (Str × V)} {goal : List Rat} {lims : Lims} {H H2 : Hp} {i : Nat} {rs : List Addr} (h : InitSt T C a dx L F fs goal lims H i rs H2) : InitSt T C a dx L F fs' goal lims H i rs (upd H2 a (.ins C dx fs')) where
  ex := h.ex.set rfl h.ha (.ins _ _ _)
  ha := upd_same
  nL := h.nL
  nF := h.nF
  LF := h.LF
  hL := by rw [upd_ne (h.al h.hL)]; exact h.hL
  len := h.len
  row := fun k r q => ⟨by unfold IL; rw [upd_ne (h.al (h.row k r q).1)]; exact (h.row k r q).1, (h.row k r q).2⟩
  hF := by unfold IL; rw [upd_ne (h.al h.hF)]; exact h.hF
theorem InitSt.keep {C a dx L F : Addr} {fs fs' : List (Str × V)} {goal : List Rat} {lims : Lims} {H H2 : Hp} {i : Nat} {rs : List Addr} (h : InitSt T C a dx L F fs goal lims H i rs H2) {p : Addr} {l : List Int} (hp : IL H2 p l) : IL (upd H2 a (.ins C dx fs')) p l := by
  unfold IL; rw [upd_ne (h.al hp)]; exact hp
theorem ok_Tableau___init__ (X : LPTxt K mg A) : FnOk P w K mg base CX0 2 A.Tableau___init__.1 A.Tableau___init__.2 ["self", "columns", "goals", "gains"] (sp_init K T A.Tableau) := by
  refine X.Tableau___init__.fn.ok sc_Tableau___init__ (fun vs H Q E h => ?_) (fun cdv A' outer s H vs Q E hr h => ?_)
  · obtain ⟨_, _, _, _, _, _, _, _, _, rfl, _⟩ := h; rfl
  · obtain ⟨a, dx, cl, xs, vg, gl, ys, goal, lims, rfl, ha, hcl, hcx, hg, hgl, hgy, ok, k⟩ := h
    have ok_cleared : ∀ {P : Program} {w : World} {base : Heap} (X : LPTxt K mg A), FnOk P w K mg base CX0 1 A.cleared.1 A.cleared.2 ["row"] (sp_cleared K T) := fun X => ok_cleared X
    refine ⟨_, (pss_cons (ps_fld (pv 0) (pe_callB (klen (K := K)) (by rfl) X.n_len (by decide +kernel) (pa_cons (pv 1) pa_nil)) rfl)
  (pss_cons (ps_fld (pv 0) (pe_lst pa_nil) rfl)
  (pss_cons (ps_fld (pv 0) (pe_lst pa_nil) rfl)
  (pss_cons (ps_for PassesOwn.never rfl (kpi_enumT (K := K) (by rfl) X.n_enumerate (pa_cons (pv 2) pa_nil)) (kpg_tup (K := K) (n := 2) rfl (pgs_cons (pg_name (i := 4) sc_Tableau___init__.nd rfl (Or.inr rfl)) (pgs_cons (pg_name (i := 5) sc_Tableau___init__.nd rfl (Or.inl rfl)) pgs_nil))) (pss_cons (ps_asg (pe_call (ok_cleared X) (hr.mono (by decide)) rfl X.cleared.g X.cleared.fn.kp X.cleared.b .nil pass0 (pa_cons (pe_op op_cat (pe_lc (own := [("column", 8)]) (tt := tYes) rfl sc_Tableau___init__.nd  (kpi_list (K := K) (pv 1)) (blkOk_by (N := ["self", "columns", "goals", "gains", "spot", "goal", "line", "factor", "column", "sign", "helpers", "at", "part", "gain"]) (sc := defScope s_Tableau___init__) (by decide +kernel)) (fun _ _ _ _ _ => (pg_name (i := 8) sc_Tableau___init__.nd rfl (Or.inl rfl))) (fun _ _ _ _ _ => pts_nil) (fun _ _ _ _ _ => (pe_ix (kix_tup (K := K)) (pv 8) (pv 4) (fun _ _ => rfl)))) (pe_lst (pa_cons (pv 5) pa_nil))) pa_nil)) (kpg_tup (K := K) (n := 2) rfl (pgs_cons (pg_name (i := 6) sc_Tableau___init__.nd rfl (Or.inl rfl)) (pgs_cons (pg_name (i := 7) sc_Tableau___init__.nd rfl (Or.inl rfl)) pgs_nil))))
  (pss_cons (ps_set (i := 9) sc_Tableau___init__.nd rfl (Or.inr rfl) (pe_ifExp (pt_cmpR op_lt (pe_ix (kix_list (K := K)) (pv 6) (pe_un un_neg pe_int) (fun _ _ => rfl)) pe_int (nomark _)) (pe_un un_neg pe_int) pe_int))
  (pss_cons (ps_setLc (i := 10) (own := [("at", 11)]) (tt := tYes) rfl sc_Tableau___init__.nd rfl rfl (sw_true rfl rfl rfl (by decide +kernel)) (pi_range1 rfl X.n_range (pa_cons (pe_callB (klen (K := K)) (by rfl) X.n_len (by decide +kernel) (pa_cons (pv 2) pa_nil)) pa_nil)) (blkOk_by (N := ["self", "columns", "goals", "gains", "spot", "goal", "line", "factor", "column", "sign", "helpers", "at", "part", "gain"]) (sc := defScope s_Tableau___init__) (by decide +kernel)) (fun _ _ _ _ _ => (pg_name (i := 11) sc_Tableau___init__.nd rfl (Or.inl rfl))) (fun _ _ _ _ _ => pts_nil) (fun _ _ _ _ _ => (pe_ifExp (pt_cmpR op_eq (pv 11) (pv 4) (nomark _)) pe_int pe_int)))
  (pss_cons (ps_expr (pe_bm PySem.F.plainAttrs_list PySem.F.slot_list_append PySem.F.type_list_append mt_append (kfld (K := K) (pv 0) rfl) (pa_cons (pe_op op_cat (pe_op op_cat (pe_lc (own := [("part", 12)]) (tt := tYes) rfl sc_Tableau___init__.nd  (kpi_list (K := K) (pe_slice (ksl_list (K := K)) (pv 6) po_none (po_some (pe_un un_neg pe_int)))) (blkOk_by (N := ["self", "columns", "goals", "gains", "spot", "goal", "line", "factor", "column", "sign", "helpers", "at", "part", "gain"]) (sc := defScope s_Tableau___init__) (by decide +kernel)) (fun _ _ _ _ _ => (pg_name (i := 12) sc_Tableau___init__.nd rfl (Or.inl rfl))) (fun _ _ _ _ _ => pts_nil) (fun _ _ _ _ _ => (pe_op op_mulW (pv 9) (pv 12)))) (pv 10)) (pe_lst (pa_cons (pe_op op_mulW (pv 9) (pe_ix (kix_list (K := K)) (pv 6) (pe_un un_neg pe_int) (fun _ _ => rfl))) pa_nil))) pa_nil)))
  (pss_one (ps_expr (pe_bm PySem.F.plainAttrs_list PySem.F.slot_list_append PySem.F.type_list_append mt_append (kfld (K := K) (pv 0) rfl) (pa_cons (pe_op op_mulW (pv 9) (pv 7)) pa_nil)))))))))
  (pss_cons (ps_asg (pe_call (ok_cleared X) (hr.mono (by decide)) rfl X.cleared.g X.cleared.fn.kp X.cleared.b .nil pass0 (pa_cons (pv 3) pa_nil)) (kpg_tup (K := K) (n := 2) rfl (pgs_cons (pg_name (i := 13) sc_Tableau___init__.nd rfl (Or.inl rfl)) (pgs_cons (kpg_attr (K := K) (pv 0)) pgs_nil))))
  (pss_cons (ps_fld (pv 0) (pe_op op_cat (pv 13) (pe_op op_rep (pe_lst (pa_cons pe_int pa_nil)) (pe_op op_add (pe_callB (klen (K := K)) (by rfl) X.n_len (by decide +kernel) (pa_cons (pv 2) pa_nil)) pe_int))) rfl)
  (pss_cons (ps_fld (pv 0) (pe_lc (own := [("at", 11)]) (tt := tYes) rfl sc_Tableau___init__.nd  (pi_range1 rfl X.n_range (pa_cons (pe_op op_add (pe_op op_add (kfld (K := K) (pv 0) rfl) (pe_callB (klen (K := K)) (by rfl) X.n_len (by decide +kernel) (pa_cons (pv 2) pa_nil))) pe_int) pa_nil)) (blkOk_by (N := ["self", "columns", "goals", "gains", "spot", "goal", "line", "factor", "column", "sign", "helpers", "at", "part", "gain"]) (sc := defScope s_Tableau___init__) (by decide +kernel)) (fun _ _ _ _ _ => (pg_name (i := 11) sc_Tableau___init__.nd rfl (Or.inr rfl))) (fun _ _ _ _ _ => pts_nil) (fun _ _ _ _ _ => (pe_callB (ksum (K := K) rfl) (by rfl) X.n_sum (by decide +kernel) (pa_cons (pe_lc (own := [("line", 6)]) (tt := tYes) rfl sc_Tableau___init__.nd  (kpi_list (K := K) (kfld (K := K) (pv 0) rfl)) (blkOk_by (by rfl)) (fun _ _ _ _ _ => (pg_name (i := 6) sc_Tableau___init__.nd rfl (Or.inl rfl))) (fun _ _ _ _ _ => pts_nil) (fun _ _ _ _ _ => (pe_ix (kix_list (K := K)) (pv 6) (pv 11) (fun _ _ => rfl)))) pa_nil)))) rfl)
  (pss_cons (ps_fld (pv 0) pe_int rfl)
  (pss_one (ps_fld (pv 0) (pe_lc (own := [("spot", 4)]) (tt := tYes) rfl sc_Tableau___init__.nd  (pi_range1 rfl X.n_range (pa_cons (pe_callB (klen (K := K)) (by rfl) X.n_len (by decide +kernel) (pa_cons (pv 2) pa_nil)) pa_nil)) (blkOk_by (N := ["self", "columns", "goals", "gains", "spot", "goal", "line", "factor", "column", "sign", "helpers", "at", "part", "gain"]) (sc := defScope s_Tableau___init__) (by decide +kernel)) (fun _ _ _ _ _ => (pg_name (i := 4) sc_Tableau___init__.nd rfl (Or.inl rfl))) (fun _ _ _ _ _ => pts_nil) (fun _ _ _ _ _ => (pe_op op_add (kfld (K := K) (pv 0) rfl) (pv 4)))) rfl)))))))))), ?_⟩
    obtain ⟨ga, gs, rfl, hgs, hgl', hge⟩ := dp_v hg
    have xlen : xs.length = lims.length := by simpa using dpAll_len hcx
    have szl := ok.sz
    have tus : ∀ {H2 : Hp}, Ex T (· = a) H H2 → Tu H H2 := fun e => e.tuS fun p hp u hu => by
      have hp : p = a := hp
      rw [hp, ha] at hu; cases hu; exact .ins _ _ _
    have glen : gs.length = goal.length := hgl'
    have goalsT : ∀ {H2 : Hp}, Ex T (· = a) H H2 → SqT K H2 ga gs := fun e => (tus e).sqT hgs
    -- the three first fields
    refine seq_of (fun σ H1 => σ = [some (.ref a), some (.ref cl), some (.ref ga), some (.ref gl), none, none, none, none, none, none, none, none, none, none] ∧ H1 = upd H a (.ins A.Tableau dx [("many", .int (lims.length : Nat))])) (fun N hN => ?_) ?_
    · refine ⟨_, rfl, cl, xs, rfl, .inl hcl, _, rfl, a, _, _, _, rfl, ha, X.cl_Tableau, X.na_many, by show 0 < 1000; omega, ?_⟩
      rw [xlen]
      exact hN _ _ ⟨rfl, rfl⟩
    rintro _ _ ⟨rfl, rfl⟩
    have ex1 : Ex T (· = a) H (upd H a (.ins A.Tableau dx [("many", .int (lims.length : Nat))])) := Ex.refl.set rfl ha (.ins _ _ _)
    refine seq_of (fun σ H1 => ∃ L, σ = [some (.ref a), some (.ref cl), some (.ref ga), some (.ref gl), none, none, none, none, none, none, none, none, none, none] ∧ Ex T (· = a) H H1 ∧ Nw H L ∧ H1 L = some (.lst []) ∧ H1 a = some (.ins A.Tableau dx [("many", .int (lims.length : Nat)), ("lines", .ref L)])) (fun N hN => ?_) ?_
    · refine ⟨Nat.zero_le _, fun L hL => ?_⟩
      have h1 := (ex1.more (o := .lst []) hL)
      have naL : a ≠ L := ne_of_none upd_same hL
      have ha1 : upd (upd H a (.ins A.Tableau dx [("many", .int (lims.length : Nat))])) L (.lst []) a = some (.ins A.Tableau dx [("many", .int (lims.length : Nat))]) := by rw [upd_ne naL]; exact upd_same
      refine ⟨_, rfl, a, _, _, _, rfl, ha1, X.cl_Tableau, X.na_lines, by show 1 < 1000; omega, ?_⟩
      exact hN _ _ ⟨L, rfl, h1.set rfl ha1 (.ins _ _ _), ex1.free hL, by rw [upd_ne naL.symm]; exact upd_same, upd_same⟩
    rintro σ H1 ⟨L, rfl, ex2, nL, hL1, ha1⟩
    refine seq_of (fun σ H1 => ∃ F, σ = [some (.ref a), some (.ref cl), some (.ref ga), some (.ref gl), none, none, none, none, none, none, none, none, none, none] ∧ InitSt T A.Tableau a dx L F (fs3 lims L F) goal lims H 0 [] H1) (fun N hN => ?_) ?_
    · refine ⟨Nat.zero_le _, fun F hF => ?_⟩
      have naF : a ≠ F := ne_of_none ha1 hF
      have nLF : L ≠ F := ne_of_none hL1 hF
      have naL : a ≠ L := ne_of ha1 hL1 (by intro z; cases z)
      have h1 := (ex2.more (o := .lst []) hF)
      have ha2 : upd H1 F (.lst []) a = some (.ins A.Tableau dx [("many", .int (lims.length : Nat)), ("lines", .ref L)]) := by rw [upd_ne naF]; exact ha1
      refine ⟨_, rfl, a, _, _, _, rfl, ha2, X.cl_Tableau, X.na_factors, by show 2 < 1000; omega, ?_⟩
      refine hN _ _ ⟨F, rfl, h1.set rfl ha2 (.ins _ _ _), upd_same, nL, ex2.free hF, nLF, ?_, rfl, fun k r q => by simp at q, ?_⟩
      · rw [upd_ne naL.symm, upd_ne nLF]; exact hL1
      · unfold IL; rw [upd_ne naF.symm]; exact upd_same
    rintro σ H1 ⟨F, rfl, S0⟩
    -- the loop
    refine seq_of (fun σ H1 => ∃ rs e4 e5 e6 e7 e8 e9 e10 e11 e12 e13, σ = [some (.ref a), some (.ref cl), some (.ref ga), some (.ref gl), e4, e5, e6, e7, e8, e9, e10, e11, e12, e13] ∧ InitSt T A.Tableau a dx L F (fs3 lims L F) goal lims H goal.length rs H1) (fun N hN => ?_) ?_
    · refine ⟨_, rfl, ga, gs, rfl, goalsT S0.ex, for_src (src_enumT (K := K) (a := ga) (xs := gs)) (fun i σ H2 => ∃ rs e4 e5 e6 e7 e8 e9 e10 e11 e12 e13, σ = [some (.ref a), some (.ref cl), some (.ref ga), some (.ref gl), e4, e5, e6, e7, e8, e9, e10, e11, e12, e13] ∧ InitSt T A.Tableau a dx L F (fs3 lims L F) goal lims H i rs H2)
        ⟨[], _, _, _, _, _, _, _, _, _, _, rfl, S0⟩ (fun i σ H2 _ ⟨_, _, _, _, _, _, _, _, _, _, _, _, S⟩ => goalsT S.ex) ?_ ?_⟩
      · rintro i v σ H2 H3 hi ⟨rs, e4, e5, e6, e7, e8, e9, e10, e11, e12, e13, rfl, S⟩ ⟨pp, gv, rfl, np, rfl, hgv⟩
        have hi' : i < goal.length := by rw [← glen]; exact hi
        have exn : Ex T No H2 (upd H2 pp (.tup [V.int (i : Nat), gv])) := Ex.new np
        have S1 := S.to exn
        obtain ⟨q, hq, dgv⟩ := hge i gv hgv
        have hq' : q = at0 goal i := by unfold at0; rw [List.getD_eq_getElem?_getD, hq]; rfl
        subst hq'
        have cOk := ok.rowC i hi'
        have rl : (rowAt goal lims i).length = lims.length + 1 := rowAt_len goal lims i
        refine ⟨pp, _, rfl, .inl (.inl upd_same), rfl, _, _, rfl, _, _, rfl, rfl, ?_⟩
        -- line, factor = cleared(..)
        refine seq_of (fun σ H4 => ∃ l3, σ = [some (.ref a), some (.ref cl), some (.ref ga), some (.ref gl), some (.int (i : Nat)), some gv, some (.ref l3), some (.int (lcmL (rowAt goal lims i) : Nat)), e8, e9, e10, e11, e12, e13] ∧ InitSt T A.Tableau a dx L F (fs3 lims L F) goal lims H i rs H4 ∧ IL H4 l3 (clr (rowAt goal lims i))) (fun N hN => ?_) ?_
        · refine ⟨_, rfl, cl, rfl, ⟨xs, sqL_a hcl ha S1.ex⟩, lc_src (T := T) (src_list (K := K) (a := cl) (xs := xs)) (by omega) (P := fun D j y H5 => ∃ l, lims[j]? = some l ∧ Dp K H5 y (dq (at0 l.1 i))) (keep := fun _ => true) (fun D H5 hD ex => ex.sqLD (sqL_a hcl ha S1.ex) hD) (fun D j y H5 H6 hD hacc ex ⟨l, h1, h2⟩ => ⟨l, h1, dp_tu (ex.tuS fun p hp u hu => by
              have hp : p = D := hp
              obtain ⟨acc, hacc⟩ := hacc
              rw [hp, hacc] at hu; cases hu; exact .lst _) rfl h2⟩)
            (fun D j x H5 H6 R hD hacc hj ex hY h1 h2 => ?_) (fun D zs H5 hD ex hys hl2 hP => ?_)⟩
          · obtain ⟨hv, rfl⟩ := hY
            obtain ⟨l, hl, dl⟩ := dpAll_mapget hcx hv
            have dl2 := dp_tu (ex.tuD hD) (flat_dv _) (dp_tu (tus S1.ex) (flat_dv _) dl)
            obtain ⟨p, ws, rfl, hp, hpl, hpe⟩ := dp_v dl2
            have hil : i < ws.length := by rw [hpl, ok.rows l (List.mem_of_getElem? hl)]; exact hi'
            have hw := List.getElem?_eq_getElem hil
            obtain ⟨q, hq1, hq2⟩ := hpe i _ hw
            have eq : q = at0 l.1 i := by unfold at0; rw [List.getD_eq_getElem?_getD, hq1]; rfl
            subst eq
            exact ⟨rfl, _, rfl, _, rfl, p, _, _, _, rfl, rfl, hp, atI_nat hw, h1 rfl _ _ Ex.refl ⟨l, hl, hq2⟩⟩
          · have hz : DpAll K H5 zs (lims.map fun l => dq (at0 l.1 i)) := datas_of hl2 (by rw [List.length_map, xlen]) fun j y k e1 e2 => by
              obtain ⟨l, h1, h2⟩ := hP j y k e1 e2
              exact ⟨_, by rw [List.getElem?_map, h1]; rfl, h2⟩
            have zl : zs.length = lims.length := by simpa using dpAll_len hz
            refine ⟨_, rfl, by show 1 ≤ sizeLine; decide, fun l2 hl2' => ?_⟩
            have exl : Ex T No H5 (upd H5 l2 (.lst [gv])) := Ex.new hl2'
            refine ⟨D, l2, _, _, rfl, rfl, exl.lst hys id, upd_same, by rw [zl]; show lims.length + 1 ≤ sizeLine; omega, fun p hp => ?_⟩
            have exp : Ex T No (upd H5 l2 (.lst [gv])) (upd (upd H5 l2 (.lst [gv])) p (.lst (zs ++ [gv]))) := Ex.new hp
            have exA : Ex T No (upd H2 pp (.tup [V.int (i : Nat), gv])) (upd (upd H5 l2 (.lst [gv])) p (.lst (zs ++ [gv]))) := ex.trans (exl.trans exp)
            refine ⟨p, _, rowAt goal lims i, rfl, .inl (.inl upd_same), ?_, cOk, by rw [rl]; omega, fun pt l3 H7 ex7 sq7 il7 n7 => ?_⟩
            · rw [rowAt_map]
              exact dpAll_app (dpAll_tu (exl.trans exp).tu (flatAll_of fun x hx => by obtain ⟨q, _, rfl⟩ := List.mem_map.mp hx; rfl) hz) (.cons (dp_tu exA.tu rfl (dp_tu exn.tu rfl (dp_tu (tus S.ex) rfl dgv))) .nil)
            · refine ⟨pt, _, rfl, sq7, rfl, _, _, rfl, _, _, rfl, rfl, ?_⟩
              exact hN _ _ ⟨l3, rfl, S1.to (exA.trans ex7), il7⟩
        rintro σ H4 ⟨l3, rfl, S4, hl3⟩
        have cl3 : (clr (rowAt goal lims i)).length = lims.length + 1 := by rw [clr_len, rl]
        -- sign
        refine seq_of (fun σ H5 => σ = [some (.ref a), some (.ref cl), some (.ref ga), some (.ref gl), some (.int (i : Nat)), some gv, some (.ref l3), some (.int (lcmL (rowAt goal lims i) : Nat)), e8, some (.int (sgnOf (rowAt goal lims i))), e10, e11, e12, e13] ∧ H4 = H5) (fun N hN => ?_) ?_
        · refine ⟨_, rfl, _, rfl, l3, _, _, _, rfl, rfl, hl3.sq, atI_last (by omega), _, _, rfl, rfl, _, rfl, ?_⟩
          refine ite2 (fun hc => ?_) (fun hc => ?_)
          · refine ⟨_, rfl, hN _ _ ⟨?_, rfl⟩⟩
            unfold sgnOf; rw [if_pos (of_decide_eq_true hc)]; rfl
          · refine hN _ _ ⟨?_, rfl⟩
            unfold sgnOf; rw [if_neg (fun z => hc (decide_eq_true z))]; rfl
        rintro _ _ ⟨rfl, rfl⟩
        -- helpers
        refine seq_of (fun σ H5 => ∃ h3, σ = [some (.ref a), some (.ref cl), some (.ref ga), some (.ref gl), some (.int (i : Nat)), some gv, some (.ref l3), some (.int (lcmL (rowAt goal lims i) : Nat)), e8, some (.int (sgnOf (rowAt goal lims i))), some (.ref h3), e11, e12, e13] ∧ InitSt T A.Tableau a dx L F (fs3 lims L F) goal lims H i rs H5 ∧ IL H5 l3 (clr (rowAt goal lims i)) ∧ IL H5 h3 (helpL goal.length i)) (fun N hN => ?_) ?_
        · refine ⟨_, rfl, ga, gs, rfl, .inr (goalsT S4.ex), _, rfl, ?_⟩
          rw [glen]
          refine ⟨(line62 (by omega)).1, (line62 (by omega)).2, lc_src (T := T) (src_range (lo := 0) (n := goal.length)) (by omega) (P := fun D j y _ => y = .int (ent (helpL goal.length i) j)) (keep := fun _ => true) (fun D H2 hD ex => trivial) (fun D j y H2 H3 _ _ _ h => h)
            (fun D j x' H5 H6 R' hD hacc hj ex hY h1 h2 => ?_) (fun D zs H5 hD ex hys hl2 hP => ?_)⟩
          · obtain ⟨rfl, rfl⟩ := hY
            have e0 : (0 : Int) + ((j : Nat) : Int) = ((j : Nat) : Int) := by omega
            rw [e0]
            have eh : ent (helpL goal.length i) j = if j = i then 1 else 0 := by
              unfold ent helpL
              rw [List.getD_eq_getElem?_getD, List.getElem?_map, List.getElem?_range hj]; rfl
            refine ⟨rfl, _, rfl, _, rfl, rfl, _, rfl, ?_⟩
            by_cases hji : j = i
            · subst hji
              rw [if_pos rfl] at eh
              exact iteYd rfl (h1 rfl _ _ Ex.refl (by rw [eh]))
            · rw [if_neg hji] at eh
              exact iteNd (fun z => hji (by injection z with z; exact_mod_cast z)) (h1 rfl _ _ Ex.refl (by rw [eh]))
          · have ey := ints_of (out := helpL goal.length i) hl2 (by unfold helpL; rw [List.length_map, List.length_range]) hP
            subst ey
            exact hN _ _ ⟨D, rfl, S4.to ex, hl3.ex ex id, hys⟩
        rintro σ H5 ⟨h3, rfl, S5, hl5, hh5⟩
        have hll : (helpL goal.length i).length = goal.length := by unfold helpL; rw [List.length_map, List.length_range]
        have lkL : ([("many", V.int (lims.length : Nat)), ("lines", .ref L), ("factors", .ref F)] : List (Str × V)).lookup ("lines" : Str) = some (.ref L) := rfl
        have lkF : ([("many", V.int (lims.length : Nat)), ("lines", .ref L), ("factors", .ref F)] : List (Str × V)).lookup ("factors" : Str) = some (.ref F) := rfl
        -- the line
        refine seq_of (fun σ H6 => ∃ r, σ = [some (.ref a), some (.ref cl), some (.ref ga), some (.ref gl), some (.int (i : Nat)), some gv, some (.ref l3), some (.int (lcmL (rowAt goal lims i) : Nat)), e8, some (.int (sgnOf (rowAt goal lims i))), some (.ref h3), e11, e12, e13] ∧ ∃ H7, InitSt T A.Tableau a dx L F (fs3 lims L F) goal lims H i rs H7 ∧ IL H7 r (initLine goal.length (rowAt goal lims i) i) ∧ Nw H r ∧ r ≠ L ∧ r ≠ F ∧ H6 = upd H7 L (.lst (rs.map V.ref ++ [.ref r]))) (fun N hN => ?_) ?_
        · refine ⟨_, rfl, a, _, _, _, _, rfl, S5.ha, X.cl_Tableau, X.na_lines, lkL, .inl ⟨rfl, _, .inl (.inl S5.hL)⟩, _, rfl, _, rfl, _, rfl, l3, _, rfl, hl5.sq, fun c hc => ?_⟩
          rw [cut_last]
          have exc : Ex T No H5 (upd H5 c (.lst ((clr (rowAt goal lims i)).map V.int).dropLast)) := Ex.new hc
          have hdl : ((clr (rowAt goal lims i)).map V.int).dropLast = ((clr (rowAt goal lims i)).dropLast).map V.int := (List.map_dropLast ..).symm
          rw [hdl] at exc ⊢
          have dll : ((clr (rowAt goal lims i)).dropLast).length = lims.length := by rw [List.length_dropLast, cl3]; omega
          have hcI : IL (upd H5 c (.lst (((clr (rowAt goal lims i)).dropLast).map V.int))) c ((clr (rowAt goal lims i)).dropLast) := upd_same
          refine ⟨c, rfl, ⟨_, hcI.sq⟩, lc_src (T := T) (src_list (K := K) (a := c) (xs := ((clr (rowAt goal lims i)).dropLast).map V.int)) (by rw [List.length_map, dll]; omega) (P := fun D j y _ => y = .int (ent (((clr (rowAt goal lims i)).dropLast).map fun x => sgnOf (rowAt goal lims i) * x) j)) (keep := fun _ => true) (fun D H6 hD ex => (hcI.ex ex (ne_D hcI hD)).sq) (fun D j y H6 H7 _ _ _ h => h)
            (fun D j x H6 H7 R hD hacc hj ex hY h1 h2 => ?_) (fun D zs H6 hD ex hys hl2 hP => ?_)⟩
          · obtain ⟨hv, rfl⟩ := hY
            have hj1 : j < ((clr (rowAt goal lims i)).dropLast).length := by simpa using hj
            rw [ent_get hj1] at hv; cases hv
            have ed : ent ((clr (rowAt goal lims i)).dropLast) j = ent (clr (rowAt goal lims i)) j := by
              unfold ent
              rw [List.getD_eq_getElem?_getD, List.getD_eq_getElem?_getD, List.getElem?_dropLast, if_pos (by omega)]
            have em : ent (((clr (rowAt goal lims i)).dropLast).map fun x => sgnOf (rowAt goal lims i) * x) j = sgnOf (rowAt goal lims i) * ent ((clr (rowAt goal lims i)).dropLast) j := by
              unfold ent
              rw [List.getD_eq_getElem?_getD, List.getElem?_map, List.getD_eq_getElem?_getD, List.getElem?_eq_getElem hj1]; rfl
            refine ⟨rfl, _, rfl, _, rfl, _, _, rfl, rfl, (sgn_sm _).mul (by rw [ed]; exact ok.sm i j hi'), h1 rfl _ _ Ex.refl (by rw [em])⟩
          · have ey := ints_of (out := ((clr (rowAt goal lims i)).dropLast).map fun x => sgnOf (rowAt goal lims i) * x) hl2 (by rw [List.length_map, List.length_map]) hP
            subst ey
            have exD := exc.trans ex
            have hh6 := hh5.ex exD id
            refine ⟨_, rfl, D, h3, _, _, rfl, rfl, hys, hh6, by rw [List.length_map, List.length_map, List.length_map, dll, hll]; omega, fun p1 hp1 => ?_⟩
            have exp1 : Ex T No H6 (upd H6 p1 (.lst ((((clr (rowAt goal lims i)).dropLast).map fun x => sgnOf (rowAt goal lims i) * x).map V.int ++ (helpL goal.length i).map V.int))) := Ex.new hp1
            have hl6 := hl5.ex (exD.trans exp1) id
            refine ⟨_, rfl, _, rfl, _, rfl, l3, _, _, _, rfl, rfl, hl6.sq, atI_last (by omega), _, _, rfl, rfl, (sgn_sm _).mul (ok.sm i _ hi'), by show 1 ≤ sizeLine; decide, fun p2 hp2 => ?_⟩
            have exp2 := Ex.new (T := T) (S := No) (o := .lst [V.int (sgnOf (rowAt goal lims i) * lastE (clr (rowAt goal lims i)))]) hp2
            refine ⟨p1, p2, _, _, rfl, rfl, exp2.lst upd_same id, upd_same, by rw [List.length_append, List.length_map, List.length_map, List.length_map, dll, hll]; show lims.length + goal.length + 1 ≤ sizeLine; omega, fun p3 hp3 => ?_⟩
            have exp3 := Ex.new (T := T) (S := No) (o := .lst (((((clr (rowAt goal lims i)).dropLast).map fun x => sgnOf (rowAt goal lims i) * x).map V.int ++ (helpL goal.length i).map V.int) ++ [V.int (sgnOf (rowAt goal lims i) * lastE (clr (rowAt goal lims i)))])) hp3
            have exZ := exD.trans (exp1.trans (exp2.trans exp3))
            have S7 := S5.to exZ
            refine ⟨L, _, _, rfl, rfl, S7.hL, by rw [List.length_map, S7.len]; omega, ?_⟩
            refine hN _ _ ⟨p3, rfl, _, S7, ?_, ?_, ?_, ?_, rfl⟩
            · unfold IL initLine; rw [upd_same, List.map_append, List.map_append]; rfl
            · exact (S5.ex.trans (exD.trans (exp1.trans exp2)).of_no).free hp3
            · exact (ne_of_none (S5.to (exD.trans (exp1.trans exp2))).hL hp3).symm
            · exact (ne_of_none (S5.to (exD.trans (exp1.trans exp2))).hF hp3).symm
        rintro σ H6 ⟨r, rfl, H7, S7, hr7, nr, nrL, nrF, rfl⟩
        have naL : a ≠ L := ne_of S7.ha S7.hL (by intro z; cases z)
        have naF : a ≠ F := ne_of S7.ha S7.hF (by intro z; cases z)
        have ha8 : upd H7 L (.lst (rs.map V.ref ++ [.ref r])) a = _ := (upd_ne naL).trans S7.ha
        have hF8 : upd H7 L (.lst (rs.map V.ref ++ [.ref r])) F = _ := (upd_ne S7.LF.symm).trans S7.hF
        refine ⟨_, rfl, a, _, _, _, _, rfl, ha8, X.cl_Tableau, X.na_factors, lkF, .inl ⟨rfl, _, .inl (.inl hF8)⟩, _, rfl, _, rfl, _, _, rfl, rfl, (sgn_sm _).mul (by unfold Sm; rw [Int.natAbs_natCast]; exact cOk.1), F, _, _, rfl, rfl, hF8, by rw [List.length_map, List.length_map, List.length_range]; omega, ?_⟩
        refine ⟨rs ++ [r], _, _, _, _, _, _, _, _, _, _, rfl, ?_, ?_, S7.nL, S7.nF, S7.LF, ?_, by rw [List.length_append, S7.len]; rfl, fun k r' q => ?_, ?_⟩
        · exact (S7.ex.setS S7.nL S7.hL (.lst _)).setS S7.nF hF8 (.lst _)
        · rw [upd_ne naF]; exact ha8
        · rw [upd_ne S7.LF, upd_same, List.map_append]; rfl
        · by_cases hk : k < rs.length
          · rw [List.getElem?_append_left hk] at q
            obtain ⟨h1, h2, h3, h4⟩ := S7.row k r' q
            exact ⟨by unfold IL; rw [upd_ne h4, upd_ne h3]; exact h1, h2, h3, h4⟩
          · rw [List.getElem?_append_right (by omega)] at q
            have ek : k = i := by
              cases e : k - rs.length with
              | zero => have := S7.len; omega
              | succ n => rw [e] at q; simp at q
            subst ek
            rw [S7.len, Nat.sub_self] at q
            cases q
            exact ⟨by unfold IL; rw [upd_ne nrF, upd_ne nrL]; exact hr7, nr, nrL, nrF⟩
        · unfold IL
          rw [upd_same, List.range_succ, List.map_append, List.map_append]; rfl
      · rintro σ H2 ⟨rs, e4, e5, e6, e7, e8, e9, e10, e11, e12, e13, rfl, S⟩
        rw [glen] at S
        exact hN _ _ ⟨rs, _, _, _, _, _, _, _, _, _, _, rfl, S⟩
    rintro σ H2 ⟨rs, e4, e5, e6, e7, e8, e9, e10, e11, e12, e13, rfl, S⟩
    -- gain, self.scale
    refine seq_of (fun σ H1 => ∃ G0, σ = [some (.ref a), some (.ref cl), some (.ref ga), some (.ref gl), e4, e5, e6, e7, e8, e9, e10, e11, e12, some (.ref G0)] ∧ InitSt T A.Tableau a dx L F (fs4 lims L F) goal lims H goal.length rs H1 ∧ IL H1 G0 (clr (lims.map (·.2)))) (fun N hN => ?_) ?_
    · refine ⟨_, rfl, gl, ys, lims.map (·.2), rfl, sqL_a hgl ha S.ex, ?_, ok.bds, by rw [List.length_map]; omega, fun pt l3 H7 ex7 sq7 il7 n7 => ?_⟩
      · rw [List.map_map]
        exact dpAll_tu (tus S.ex) (flatAll_of fun x hx => by obtain ⟨q, _, rfl⟩ := List.mem_map.mp hx; rfl) hgy
      · have S7 := S.to ex7
        refine ⟨pt, _, rfl, sq7, rfl, _, _, rfl, _, _, rfl, _, rfl, a, _, _, _, rfl, S7.ha, X.cl_Tableau, X.na_scale, by show 3 < 1000; omega, rfl, ?_⟩
        exact hN _ _ ⟨l3, rfl, S7.put, S7.keep il7⟩
    rintro σ H3 ⟨G0, rfl, S3, hG0⟩
    -- self.gains
    refine seq_of (fun σ H1 => ∃ G, σ = [some (.ref a), some (.ref cl), some (.ref ga), some (.ref gl), e4, e5, e6, e7, e8, e9, e10, e11, e12, some (.ref G0)] ∧ InitSt T A.Tableau a dx L F (fs5 lims L F G) goal lims H goal.length rs H1 ∧ IL H1 G (initTab goal lims).gains ∧ G ≠ L ∧ G ≠ F) (fun N hN => ?_) ?_
    · refine ⟨_, rfl, by show 1 ≤ sizeLine; decide, fun z hz => ?_⟩
      have exz := Ex.new (T := T) (S := No) (o := .lst [V.int 0]) hz
      refine ⟨_, rfl, ga, gs, rfl, .inr (goalsT (S3.to exz).ex), _, _, rfl, rfl, z, _, _, rfl, rfl, upd_same, by omega, ?_, ?_, fun z2 hz2 => ?_⟩
      · show ((gs.length : Nat) : Int) + 1 < 2 ^ 63
        have := (line62 (Nat.le_of_lt ok.sz)).2; omega
      · show 1 * (((gs.length : Nat) : Int) + 1).toNat ≤ sizeLine
        omega
      · have e2 : (((gs.length : Nat) : Int) + 1).toNat = goal.length + 1 := by omega
        rw [e2, rep_flat] at *
        have exz2 := Ex.new (T := T) (S := No) (o := .lst (List.replicate (goal.length + 1) (V.int 0))) hz2
        have hG1 := hG0.ex (exz.trans exz2) id
        refine ⟨G0, z2, _, _, rfl, rfl, hG1, upd_same, by rw [List.length_map, clr_len, List.length_map, List.length_replicate]; omega, fun g hg => ?_⟩
        have exg := Ex.new (T := T) (S := No) (o := .lst ((clr (lims.map (·.2))).map V.int ++ List.replicate (goal.length + 1) (V.int 0))) hg
        have S4 := S3.to (exz.trans (exz2.trans exg))
        have Sb := S3.to (exz.trans exz2)
        refine ⟨_, rfl, a, _, _, _, rfl, S4.ha, X.cl_Tableau, X.na_gains, by show 4 < 1000; omega, ?_⟩
        refine hN _ _ ⟨g, rfl, S4.put, S4.keep ?_, (ne_of_none Sb.hL hg).symm, (ne_of_none Sb.hF hg).symm⟩
        have eg : (initTab goal lims).gains.map V.int = (clr (lims.map fun l => l.2)).map V.int ++ List.replicate (goal.length + 1) (V.int 0) := by
          unfold initTab; dsimp only; rw [List.map_append, List.map_replicate]
        unfold IL; rw [upd_same, eg]
    rintro σ H4 ⟨G, rfl, S4, hG, nGL, nGF⟩
    -- self.wants
    refine seq_of (fun σ H1 => ∃ W, σ = [some (.ref a), some (.ref cl), some (.ref ga), some (.ref gl), e4, e5, e6, e7, e8, e9, e10, e11, e12, some (.ref G0)] ∧ InitSt T A.Tableau a dx L F (fs6 lims L F G W) goal lims H goal.length rs H1 ∧ IL H1 G (initTab goal lims).gains ∧ IL H1 W (initTab goal lims).wants ∧ W ≠ L ∧ W ≠ F) (fun N hN => ?_) ?_
    · refine ⟨_, rfl, a, _, _, _, _, rfl, S4.ha, X.cl_Tableau, X.na_many, rfl, _, rfl, ga, gs, rfl, .inr (goalsT S4.ex), _, _, rfl, rfl, _, _, rfl, rfl, _, rfl, ?_⟩
      have e2 : ((lims.length : Nat) : Int) + ((gs.length : Nat) : Int) + 1 = ((lims.length + goal.length + 1 : Nat) : Int) := by omega
      rw [e2]
      refine ⟨(line62 (Nat.le_of_lt ok.sz)).1, (line62 (Nat.le_of_lt ok.sz)).2, lc_src (T := T) (src_range (lo := 0) (n := lims.length + goal.length + 1)) (Nat.le_of_lt ok.sz) (P := fun D j y _ => y = .int (ent (initTab goal lims).wants j)) (keep := fun _ => true) (fun D H2 hD ex => trivial) (fun D j y H2 H3 _ _ _ h => h)
        (fun D j x' H5 H6 R' hD hacc hj ex hY h1 h2 => ?_) (fun D zs H5 hD ex hys hl2 hP => ?_)⟩
      · obtain ⟨rfl, rfl⟩ := hY
        have e0 : (0 : Int) + ((j : Nat) : Int) = ((j : Nat) : Int) := by omega
        rw [e0]
        have ha6 := ex.ins S4.ha (ne_D S4.ha hD)
        have hL6 := ex.lst S4.hL (ne_D S4.hL hD)
        refine ⟨rfl, _, rfl, a, _, _, _, _, rfl, ha6, X.cl_Tableau, X.na_lines, rfl, L, rfl, ⟨_, .inl (.inl hL6)⟩, lc_src (T := T) (src_list (K := K) (a := L) (xs := rs.map V.ref)) (by rw [List.length_map, S4.len]; omega) (P := fun D2 k y _ => y = .int (ent (initLine goal.length (rowAt goal lims k) k) j)) (keep := fun _ => true) (fun D2 H7 hD2 ex2 => .inl (.inl (ex2.lst hL6 (ne_D hL6 hD2)))) (fun D2 k y H7 H8 _ _ _ h => h)
          (fun D2 k x2 H7 H8 R2 hD2 hacc2 hk ex2 hY2 h3 h4 => ?_) (fun D2 zs H7 hD2 ex2 hys hl2 hP => ?_)⟩
        · obtain ⟨hv, rfl⟩ := hY2
          rw [List.getElem?_map] at hv
          cases hr : rs[k]? with
          | none => rw [hr] at hv; cases hv
          | some r =>
            rw [hr] at hv; cases hv
            obtain ⟨hrow, _, _, _⟩ := S4.row k r hr
            have hrow2 := (hrow.ex ex (ne_D hrow hD)).ex ex2 (ne_D (hrow.ex ex (ne_D hrow hD)) hD2)
            have hkl : k < goal.length := by have := (List.getElem?_eq_some_iff.mp hr).1; rw [S4.len] at this; exact this
            have il : (initLine goal.length (rowAt goal lims k) k).length = lims.length + goal.length + 1 := initLine_len (rowAt_len goal lims k)
            exact ⟨rfl, _, rfl, _, rfl, r, _, _, _, rfl, rfl, hrow2.sq, atI_ent (by omega), h3 rfl _ _ Ex.refl rfl⟩
        · have hrl : (rs.map V.ref).length = goal.length := by rw [List.length_map, S4.len]
          have ey := ints_of (out := (List.range goal.length).map fun k => ent (initLine goal.length (rowAt goal lims k) k) j) hl2 (by rw [List.length_map, List.length_range, hrl]) (fun i y k e1 e3 => by
            rw [hP i y k e1 e3]
            have hk : k < goal.length := by
              have h5 := List.mem_of_getElem? e3
              rw [kept_all] at h5
              have := List.mem_range.mp h5
              omega
            unfold ent
            rw [List.getD_eq_getElem?_getD (l := (List.range goal.length).map _), List.getElem?_map, List.getElem?_range hk]; rfl)
          subst ey
          refine ⟨D2, _, rfl, .inl (.inl hys), ?_⟩
          refine h1 rfl _ _ ex2 ?_
          have hw : ent (initTab goal lims).wants j = ((List.range goal.length).map fun k => ent (initLine goal.length (rowAt goal lims k) k) j).sum := by
            unfold ent initTab
            dsimp only
            rw [List.getD_eq_getElem?_getD, List.getElem?_map, List.getElem?_range hj]; rfl
          rw [hw]
      · have ey := ints_of (out := (initTab goal lims).wants) hl2 (by unfold initTab; dsimp only; rw [List.length_map, List.length_range]) hP
        subst ey
        have S5 := S4.to ex
        refine ⟨_, rfl, a, _, _, _, rfl, S5.ha, X.cl_Tableau, X.na_wants, by show 5 < 1000; omega, ?_⟩
        exact hN _ _ ⟨D, rfl, S5.put, S5.keep (hG.ex ex id), S5.keep hys, (ne_D S4.hL hD ·.symm), (ne_D S4.hF hD ·.symm)⟩
    rintro σ H5 ⟨W, rfl, S5, hG5, hW, nWL, nWF⟩
    -- self.unit
    refine seq_of (fun σ H1 => σ = [some (.ref a), some (.ref cl), some (.ref ga), some (.ref gl), e4, e5, e6, e7, e8, e9, e10, e11, e12, some (.ref G0)] ∧ InitSt T A.Tableau a dx L F (fs7 lims L F G W) goal lims H goal.length rs H1 ∧ IL H1 G (initTab goal lims).gains ∧ IL H1 W (initTab goal lims).wants) (fun N hN => ?_) ?_
    · refine ⟨_, rfl, a, _, _, _, rfl, S5.ha, X.cl_Tableau, X.na_unit, by show 6 < 1000; omega, ?_⟩
      exact hN _ _ ⟨rfl, S5.put, S5.keep hG5, S5.keep hW⟩
    rintro σ H6 ⟨rfl, S6, hG6, hW6⟩
    -- self.basis
    refine ⟨_, rfl, ga, gs, rfl, .inr (goalsT S6.ex), _, rfl, ?_⟩
    rw [glen]
    refine ⟨(line62 (by omega)).1, (line62 (by omega)).2, lc_src (T := T) (src_range (lo := 0) (n := goal.length)) (by omega) (P := fun D j y _ => y = .int ((lims.length + j : Nat) : Int)) (keep := fun _ => true) (fun D H2 hD ex => trivial) (fun D j y H2 H3 _ _ _ h => h)
      (fun D j x' H7 H8 R' hD hacc hj ex hY h1 h2 => ?_) (fun D zs H7 hD ex hys hl2 hP => ?_)⟩
    · obtain ⟨rfl, rfl⟩ := hY
      have e0 : (0 : Int) + ((j : Nat) : Int) = ((j : Nat) : Int) := by omega
      rw [e0]
      have ha8 := ex.ins S6.ha (ne_D S6.ha hD)
      refine ⟨rfl, _, rfl, a, _, _, _, _, rfl, ha8, X.cl_Tableau, X.na_many, rfl, _, rfl, _, _, rfl, rfl, h1 rfl _ _ Ex.refl ?_⟩
      show V.int (((lims.length : Nat) : Int) + ((j : Nat) : Int)) = _
      rw [Int.natCast_add]
    · have ey := ints_of (out := (initTab goal lims).basis.map fun (k : Nat) => (k : Int)) hl2 (by unfold initTab; dsimp only; rw [List.length_map, List.length_map, List.length_range]) (fun i y k e1 e3 => by
        rw [hP i y k e1 e3]
        have hk : k < goal.length := by
          have h5 := List.mem_of_getElem? e3
          rw [kept_all] at h5
          exact List.mem_range.mp h5
        unfold ent initTab
        dsimp only
        rw [List.getD_eq_getElem?_getD, List.getElem?_map, List.getElem?_map, List.getElem?_range hk]; rfl)
      subst ey
      have S7 := S6.to ex
      refine ⟨_, rfl, a, _, _, _, rfl, S7.ha, X.cl_Tableau, X.na_basis, by show 7 < 1000; omega, ?_⟩
      have hFin := S7.put (fs' := tabF (initTab goal lims) L F G W D)
      refine k L D _ hFin.ex ⟨dx, F, G, W, rs, ?_⟩ S7.nL (S6.ex.free hD)
      exact {
        ins := upd_same
        ln := hFin.hL
        len := by rw [hFin.len]; unfold initTab; dsimp only; rw [List.length_map, List.length_range]
        row := fun i r q => by
          have hi : i < goal.length := by have := (List.getElem?_eq_some_iff.mp q).1; rw [S7.len] at this; exact this
          rw [init_line hi]
          exact (hFin.row i r q).1
        rne := fun r hr => by
          obtain ⟨i, hi, e⟩ := List.getElem_of_mem hr
          obtain ⟨h1, h2, h3, h4⟩ := S6.row i r (by rw [List.getElem?_eq_getElem hi, e])
          exact ⟨ne_D h1 hD, h3⟩
        f := hFin.hF
        g := S7.keep (hG6.ex ex id)
        w := S7.keep (hW6.ex ex id)
        b := S7.keep hys
        lb := ne_D S6.hL hD
        fn := ⟨ne_D S6.hF hD, S7.LF.symm⟩
        gn := ⟨ne_D hG6 hD, nGL⟩
        wn := ⟨ne_D hW6 hD, nWL⟩ }
end WB
end

section
set_option Elab.async false
set_option linter.all false
set_option maxRecDepth 100000
set_option maxHeartbeats 2000000
set_option exponentiation.threshold 1000000
namespace WB
open PySem PySem.Spec PyProof.Rows L2 LamX LP
variable {P : Program} {w : World} {K : PySem.W.Frag} {mg : Str → Option Value} {base : Heap} {A : LPA} {Pc : Addr}

/-! ### sizes -/
abbrev GoodT (goal : List Rat) (lims : Lims) (t : Tab) : Prop := Good goal.length lims.length (colM goal lims) (costC lims) (helpC goal.length lims.length) t
def dotP (xs ys : List Rat) : List Rat := List.zipWith (fun a b => a * b) xs ys
/-- the sum of products may be formed -/
def DotOk (xs ys : List Rat) : Prop := (∀ i, i < xs.length → i < ys.length → TimesOk (at0 xs i) (at0 ys i)) ∧ TotOk (dotP xs ys)
structure SizeOk (goal : List Rat) (lims : Lims) : Prop where
  init : InitOk goal lims
  pos : 0 < goal.length
  big : ∃ B, (∀ t, GoodT goal lims t → Small B t) ∧ B < 2 ^ 9000 ∧ B * lcmL (lims.map (·.2)) < 2 ^ 9000
  dot : ∀ t, GoodT goal lims t → DotOk t.weights (lims.map (·.2))
theorem fit_of {goal : List Rat} {lims : Lims} (S : SizeOk goal lims) {t : Tab} (G : GoodT goal lims t) : Fit (lims.length + goal.length + 1) t := by
  obtain ⟨B, hB, hb, _⟩ := S.big
  have sm := hB t G
  have low : ∀ {i : Int}, i.natAbs ≤ B → Sm i := fun h => Nat.lt_of_le_of_lt h hb
  have sz := S.init.sz
  exact ⟨fun i hi => G.lw i (by rw [← G.ln]; exact hi), by rw [G.bn, G.ln], G.gn, G.wn, by omega, sz, by rw [G.ln]; omega, by rw [G.many]; omega, G.inv.pos, low sm.unit, fun i j => low (sm.lines i j), fun j => low (sm.gains j), fun j => low (sm.wants j)⟩
theorem keeps_good {goal : List Rat} {lims : Lims} (S : SizeOk goal lims) (row : Tab → List Int) : Keeps row (lims.length + goal.length + 1) (GoodT goal lims) :=
  ⟨fun t G => fit_of S G, fun t p q r G hg hl => G.turn_by (init_told goal lims).hl0 hg hl⟩
theorem keepsD_good {goal : List Rat} {lims : Lims} (S : SizeOk goal lims) : KeepsD (lims.length + goal.length + 1) (GoodT goal lims) :=
  ⟨fun t G => fit_of S G, fun t p q G hp hq h0 => G.turn (init_told goal lims).hl0 (by rw [← G.ln]; exact hp) (by rw [← G.many]; exact hq) h0⟩

/-! ### climbed -/
abbrev lamName : Str := ("climbed" : Str) ++ ".<locals>." ++ "<lambda>"
abbrev TT1 (Pc : Addr) : List (Addr × Str) := (Pc, lamName) :: xtab.filter fun p => decide (p.1 ≠ Pc)
theorem tt1_uni {Pc : Addr} {p : Addr × Str} (hp : p ∈ TT1 Pc) (e : p.1 = Pc) : p.2 = lamName := by
  rcases List.mem_cons.mp hp with h | h
  · rw [h]
  · have h2 := of_decide_eq_true (List.mem_filter.mp h).2
    exact absurd e h2
/-- what climbed gives -/
inductive CRes (goal : List Rat) (lims : Lims) : Tab → Str → Option Nat → Prop
  | none {n1 : Nat} {t1 : Tab} {o1 : Option Nat} : Climbs Tab.wants n1 (initTab goal lims) t1 o1 → lastE t1.wants ≠ 0 → CRes goal lims t1 "none" none
  | best {n1 n2 : Nat} {t1 t3 : Tab} {o1 : Option Nat} : Climbs Tab.wants n1 (initTab goal lims) t1 o1 → lastE t1.wants = 0 → Climbs Tab.gains n2 t1.driveOut t3 none → CRes goal lims t3 "best" none
  | endless {n1 n2 q : Nat} {t1 t3 : Tab} {o1 : Option Nat} : Climbs Tab.wants n1 (initTab goal lims) t1 o1 → lastE t1.wants = 0 → Climbs Tab.gains n2 t1.driveOut t3 (some q) → CRes goal lims t3 "endless" (some q)
section
variable (K Pc)
def sp_climbed (C : Addr) : Sp := fun vs H Q _ => ∃ vg vl goal lims, vs = [vg, vl] ∧ Dp K H vg (dv goal) ∧ Dp K H vl (dlims lims) ∧ Tabs (TT1 Pc) H ∧ SizeOk goal lims ∧
  ∀ p a L B t wd o H', Ex (TT1 Pc) No H H' → SqT K H' p [.ref a, .str wd, optV o] → TabAt C a L B t H' → GoodT goal lims t → CRes goal lims t wd o → Q (.ref p) H'
end
theorem Ex.fresh {T : List (Addr × Str)} {S : Addr → Prop} {H H1 H2 : Hp} (a : Ex T No H H1) (b : Ex T S H1 H2) (h : ∀ p, S p → Nw H p) : Ex T No H H2 :=
  ⟨fun c o _ e t => b.e c o (fun s => h c s o e t) (a.e c o id e t) t, fun t => b.t (a.t t), fun c o e t => let ⟨o1, h1, t1⟩ := a.k c o e t; b.k c o1 h1 t1⟩
theorem dp_lim {H : Hp} {l : List Rat × Rat} {v : V} (h : Dp K H v (dlim l)) : ∃ p r b, v = .ref p ∧ SqT K H p [r, b] ∧ Dp K H r (dv l.1) ∧ Dp K H b (dq l.2) := by
  obtain ⟨p, xs, rfl, hs, ha⟩ := dp_tup h
  cases ha with
  | cons h1 h2 => cases h2 with
    | cons h2 h3 => cases h3; exact ⟨p, _, _, rfl, hs, h1, h2⟩
theorem dp_lims {H : Hp} {ls : Lims} {v : V} (h : Dp K H v (dlims ls)) : ∃ a xs, v = .ref a ∧ SqT K H a xs ∧ DpAll K H xs (ls.map dlim) := dp_tup h
theorem flatAll_dlim (ls : Lims) : flatAll (ls.map dlim) = true := flatAll_of fun x hx => by obtain ⟨q, _, rfl⟩ := List.mem_map.mp hx; exact flat_dlim q
/-- all but tables is kept: a lambda is made -/
theorem extN_ex {T : List (Addr × Str)} {H H' : Hp} (e : ExtN H H') (t : Tabs T H') : Ex T No H H' := ⟨fun b o _ h n => e b o h n, fun _ => t, fun b o h n => ⟨o, e b o h n, n⟩⟩
theorem ok_climbed (X : LPTxt K mg A) (TB : TabB base mg A.code Pc) : FnOk P w K mg base CX0 4 A.climbed.1 A.climbed.2 ["goal", "limits"] (sp_climbed K Pc A.Tableau) := by
  obtain ⟨oc, od, kV, doc, pm, an, ct, osl, hfd, lk, hcd⟩ := X.c_climbed.ex
  rw [hfd] at lk ⊢
  refine fn_of lk hcd sc_climbed (fun vs H Q E h => ?_) (fun A' outer s H vs Q E hr h => ?_)
  · obtain ⟨_, _, _, _, rfl, _⟩ := h; rfl
  · obtain ⟨vg, vl, goal, lims, rfl, hg, hl, hTabs, hS, k⟩ := h
    have key : ∃ t, PSs (cxOf CX0 P w K mg base ["goal", "limits", "tableau", "row", "bound", "column"] "climbed" (defScope s_climbed) A.climbed.1 (.ref A.code) A' outer s H E).nox (defBody s_climbed) t ∧ t { nx := fun _ H' => Q .non H', rt := Q } (L2.start ["goal", "limits", "tableau", "row", "bound", "column"] [vg, vl]) H := by
      have ok_Tableau___init__ : ∀ {P : Program} {w : World} {base : Heap} (X : LPTxt K mg A), FnOk P w K mg base CX0 2 A.Tableau___init__.1 A.Tableau___init__.2 ["self", "columns", "goals", "gains"] (sp_init K (TT1 Pc) A.Tableau) := fun X => ok_Tableau___init__ X
      have ok_Tableau_drive_out : ∀ {P : Program} {w : World} {base : Heap} (X : LPTxt K mg A), FnOk P w K mg base CX0 3 A.Tableau_drive_out.1 A.Tableau_drive_out.2 ["self"] (sp_drive (TT1 Pc) A.Tableau) := fun X => ok_Tableau_drive_out X
      refine ⟨_, (pss_cons (ps_set (i := 2) sc_climbed.nd rfl (Or.inr rfl) (pe_make X.mk_Tableau (ok_Tableau___init__ X) (hr.mono (by decide)) rfl X.c_Tableau X.Tableau___init__.b .nil pass0 (pa_cons (pe_lc (own := [("row", 3), ("bound", 4)]) (tt := tYes) rfl sc_climbed.nd  (kpi_tup (K := K) (pv 1)) (blkOk_by (N := ["goal", "limits", "tableau", "row", "bound", "column"]) (sc := defScope s_climbed) (by decide +kernel)) (fun _ _ _ _ _ => (kpg_tup (K := K) (n := 2) rfl (pgs_cons (pg_name (i := 3) sc_climbed.nd rfl (Or.inl rfl)) (pgs_cons (pg_name (i := 4) sc_climbed.nd rfl (Or.inl rfl)) pgs_nil)))) (fun _ _ _ _ _ => pts_nil) (fun _ _ _ _ _ => (pv 3))) (pa_cons (pv 0) (pa_cons (pe_lc (own := [("row", 3), ("bound", 4)]) (tt := tYes) rfl sc_climbed.nd  (kpi_tup (K := K) (pv 1)) (blkOk_by (N := ["goal", "limits", "tableau", "row", "bound", "column"]) (sc := defScope s_climbed) (by decide +kernel)) (fun _ _ _ _ _ => (kpg_tup (K := K) (n := 2) rfl (pgs_cons (pg_name (i := 3) sc_climbed.nd rfl (Or.inl rfl)) (pgs_cons (pg_name (i := 4) sc_climbed.nd rfl (Or.inl rfl)) pgs_nil)))) (fun _ _ _ _ _ => pts_nil) (fun _ _ _ _ _ => (pv 4))) pa_nil)))))
  (pss_cons (ps_expr (pe_methlam (T := TT1 Pc) (C := A.Tableau) (iy := 2) (y := "tableau") (sp := sp_climb (TT1 Pc) A.Tableau Tab.wants lamName) (P := Pc) (c := A.code) (pv 2) X.cl_Tableau X.Tableau_climb.m X.Tableau_climb.b rfl (fun base f c' c0 cl pm ctv oc u v h1 h2 h3 h4 h5 => ok_Tableau_climb X h1 h2 h3 h4 h5 (lamOne_by (by rfl)) (by rfl) (row_wants X) (fun Y s H h => kfld (K := K) (pv 0) rfl h)) hr TB rfl (by exact List.mem_cons_self) (fun p hp e => tt1_uni hp e) (lamOne_by (by rfl)) rfl rfl rfl rfl))
  (pss_cons (ps_if (pt_cmpR op_ne (pe_ix (kix_list (K := K)) (kfld (K := K) (pv 2) rfl) (pe_un un_neg pe_int) (fun _ _ => rfl)) pe_int (nomark _)) (pss_one (ps_ret (pe_tup (pa_cons (pv 2) (pa_cons pe_str (pa_cons pe_non pa_nil)))))) pss_nil)
  (pss_cons (ps_expr (pe_meth0 (pv 2) X.cl_Tableau X.Tableau_drive_out.m (ok_Tableau_drive_out X) (hr.mono (by decide)) X.Tableau_drive_out.b .nil pass0))
  (pss_cons (ps_set (i := 5) sc_climbed.nd rfl (Or.inl rfl) (pe_methlam (T := TT1 Pc) (C := A.Tableau) (iy := 2) (y := "tableau") (sp := sp_climb (TT1 Pc) A.Tableau Tab.gains lamName) (P := Pc) (c := A.code) (pv 2) X.cl_Tableau X.Tableau_climb.m X.Tableau_climb.b rfl (fun base f c' c0 cl pm ctv oc u v h1 h2 h3 h4 h5 => ok_Tableau_climb X h1 h2 h3 h4 h5 (lamOne_by (by rfl)) (by rfl) (row_gains X) (fun Y s H h => kfld (K := K) (pv 0) rfl h)) hr TB rfl (by exact List.mem_cons_self) (fun p hp e => tt1_uni hp e) (lamOne_by (by rfl)) rfl rfl rfl rfl))
  (pss_one (ps_ret (pe_tup (pa_cons (pv 2) (pa_cons (pe_ifExp (pt_cmpR op_isN (pv 5) pe_non (nomark _)) pe_str pe_str) (pa_cons (pv 5) pa_nil))))))))))), ?_⟩
      obtain ⟨la, ls, rfl, hls, hle⟩ := dp_lims hl
      have llen : ls.length = lims.length := by simpa using dpAll_len hle
      have sz := hS.init.sz
      have limAt : ∀ {H2 : Hp} {i : Nat} {v : V}, Tu H H2 → ls[i]? = some v → ∃ l p r b, lims[i]? = some l ∧ v = .ref p ∧ SqT K H2 p [r, b] ∧ Dp K H2 r (dv l.1) ∧ Dp K H2 b (dq l.2) := fun tu e => by
        obtain ⟨l, h1, h2⟩ := dpAll_mapget hle e
        obtain ⟨p, r, b, h3, h4, h5, h6⟩ := dp_lim (dp_tu tu (flat_dlim l) h2)
        exact ⟨l, p, r, b, h1, h3, h4, h5, h6⟩
      have stabD : ∀ {D : Addr} {H1 H2 : Hp} (d : PyData) (y : V), flatD d = true → (∃ acc, H1 D = some (.lst acc)) → Ex (TT1 Pc) (· = D) H1 H2 → Dp K H1 y d → Dp K H2 y d := fun d y f hacc ex h => dp_tu (ex.tuS fun p hp u hu => by
        have hp : p = _ := hp
        obtain ⟨acc, hacc⟩ := hacc
        rw [hp, hacc] at hu; cases hu; exact .lst _) f h
      -- the tableau
      refine seq_of (fun σ H1 => ∃ a L B, σ = [some vg, some (.ref la), some (.ref a), none, none, none] ∧ Ex (TT1 Pc) No H H1 ∧ TabAt A.Tableau a L B (initTab goal lims) H1 ∧ Nw H a ∧ Nw H L ∧ Nw H B) (fun N hN => ?_) ?_
      · refine ⟨_, rfl, la, rfl, ⟨_, hls⟩, lc_src (T := TT1 Pc) (src_tup (K := K) (a := la) (xs := ls)) (by omega) (P := fun D j y H5 => ∃ l, lims[j]? = some l ∧ Dp K H5 y (dv l.1)) (keep := fun _ => true) (fun D H5 hD ex => (ex.tuD hD).sqT hls) (fun D j y H5 H6 hD hacc ex ⟨l, h1, h2⟩ => ⟨l, h1, stabD _ _ (flat_dv _) hacc ex h2⟩)
          (fun D j x H5 H6 R hD hacc hj ex hY h1 h2 => ?_) (fun D zs H1 hD ex1 hys hl2 hP => ?_)⟩
        · obtain ⟨hv, rfl⟩ := hY
          obtain ⟨l, p, r, b, e1, rfl, e3, e4, e5⟩ := limAt (ex.tuD hD) hv
          exact ⟨p, _, rfl, e3, rfl, _, _, rfl, _, _, rfl, rfl, rfl, _, rfl, h1 rfl _ _ Ex.refl ⟨l, e1, e4⟩⟩
        have hz : DpAll K H1 zs (lims.map fun l => dv l.1) := datas_of hl2 (by rw [List.length_map, llen]) fun j y k e1 e2 => by
          obtain ⟨l, h1, h2⟩ := hP j y k e1 e2
          exact ⟨_, by rw [List.getElem?_map, h1]; rfl, h2⟩
        refine ⟨_, rfl, _, rfl, la, rfl, ⟨_, ex1.tu.sqT hls⟩, lc_src (T := TT1 Pc) (src_tup (K := K) (a := la) (xs := ls)) (by omega) (P := fun D j y H5 => ∃ l, lims[j]? = some l ∧ Dp K H5 y (dq l.2)) (keep := fun _ => true) (fun D H5 hD ex => (ex.tuD hD).sqT (ex1.tu.sqT hls)) (fun D j y H5 H6 hD hacc ex ⟨l, h1, h2⟩ => ⟨l, h1, stabD _ _ rfl hacc ex h2⟩)
          (fun D j x H5 H6 R hD hacc hj ex hY h1 h2 => ?_) (fun D2 zs2 H2 hD2 ex2 hys2 hl3 hP2 => ?_)⟩
        · obtain ⟨hv, rfl⟩ := hY
          obtain ⟨l, p, r, b, e1, rfl, e3, e4, e5⟩ := limAt (ex1.tu.trans (ex.tuD hD)) hv
          exact ⟨p, _, rfl, e3, rfl, _, _, rfl, _, _, rfl, rfl, rfl, _, rfl, h1 rfl _ _ Ex.refl ⟨l, e1, e5⟩⟩
        have hz2 : DpAll K H2 zs2 (lims.map fun l => dq l.2) := datas_of hl3 (by rw [List.length_map, llen]) fun j y k e1 e2 => by
          obtain ⟨l, h1, h2⟩ := hP2 j y k e1 e2
          exact ⟨_, by rw [List.getElem?_map, h1]; rfl, h2⟩
        intro x dx nx ndx nex
        have exA : Ex (TT1 Pc) No H H2 := ex1.trans ex2
        have exB : Ex (TT1 Pc) No H2 (upd H2 dx (.own x)) := Ex.new ndx
        have nx' : upd H2 dx (.own x) x = none := by rw [upd_ne nex.symm]; exact nx
        have exC : Ex (TT1 Pc) No H2 (upd (upd H2 dx (.own x)) x (.ins A.Tableau dx [])) := exB.more nx'
        refine ⟨x, dx, D, zs, vg, D2, zs2, goal, lims, rfl, upd_same, .inl (.inl ((ex2.trans exC).lst hys id)), dpAll_tu (ex2.trans exC).tu (flatAll_of fun y hy => by obtain ⟨q, _, rfl⟩ := List.mem_map.mp hy; exact flat_dv _) hz, dp_tu (exA.trans exC).tu (flat_dv _) hg, .inl (.inl (exC.lst hys2 id)), dpAll_tu exC.tu (flatAll_of fun y hy => by obtain ⟨q, _, rfl⟩ := List.mem_map.mp hy; rfl) hz2, hS.init, fun L B H3 ex3 hT3 nL nB => ⟨rfl, ?_⟩⟩
        have nxH : Nw H x := exA.free nx
        refine hN _ _ ⟨x, L, B, rfl, (exA.trans exC).fresh ex3 fun p hp => ?_, hT3, nxH, (exA.trans exC).freeN nL, (exA.trans exC).freeN nB⟩
        have hp : p = x := hp
        rw [hp]; exact nxH
      rintro σ H1 ⟨a, L, B, rfl, ex1, ⟨dx, F, G, W, rs, hT1⟩, na, nL, nB⟩
      have nTw : ∀ p, Tw a L B p → Nw H p := fun p hp => by
        rcases hp with h | h | h
        · rw [h]; exact na
        · rw [h]; exact nL
        · rw [h]; exact nB
      have Tld := init_told goal lims
      obtain ⟨G0, F0⟩ := init_good goal lims
      obtain ⟨n1, t1, o1, C1⟩ := phase1 Tld G0 F0
      obtain ⟨G1, F1, ho, hw⟩ := phase1_end Tld G0 F0 C1
      -- climb
      refine seq_of (fun σ H2 => σ = [some vg, some (.ref la), some (.ref a), none, none, none] ∧ Ex (TT1 Pc) No H H2 ∧ TabAt A.Tableau a L B t1 H2) (fun N hN => ?_) ?_
      · refine ⟨_, rfl, a, _, _, .ref a, rfl, hT1.ins, lk_meth (by decide +kernel), rfl, ex1.t hTabs, fun f c' H2 eN tb nf hco => ?_⟩
        have exN : Ex (TT1 Pc) No H1 H2 := extN_ex eN tb
        refine ⟨a, L, B, _, t1, o1, n1, _, _, rfl, rfl, hco, ⟨_, _, _, _, _, hT1.ex exN⟩, keeps_good hS Tab.wants, G0, C1, fun H3 ex3 hT3 => ?_⟩
        exact hN _ _ ⟨rfl, (ex1.trans exN).fresh ex3 nTw, hT3⟩
      rintro σ H2 ⟨rfl, ex2, dx2, F2, G2, W2, rs2, hT2⟩
      have Fi1 := fit_of hS G1
      refine seq_of (fun σ H3 => σ = [some vg, some (.ref la), some (.ref a), none, none, none] ∧ H2 = H3 ∧ lastE t1.wants = 0) (fun N hN => ?_) ?_
      · refine ⟨_, rfl, a, _, _, _, _, rfl, hT2.ins, X.cl_Tableau, X.na_wants, lk_wants, _, rfl, _, _, _, _, rfl, rfl, hT2.w.sq, atI_last (by have := Fi1.wn; have := Fi1.n0; omega), rfl, _, rfl, ?_⟩
        by_cases hz : lastE t1.wants = 0
        · rw [hz]
          exact iteNS rfl (hN _ _ ⟨rfl, rfl, hz⟩)
        · refine iteY (by rw [decide_eq_false (fun z => hz (by injection z))]; rfl) ?_
          refine ⟨_, rfl, by show 3 ≤ sizeLine; decide, fun p hp => ?_⟩
          have exp : Ex (TT1 Pc) No H2 (upd H2 p (.tup [.ref a, .str "none", .non])) := Ex.new hp
          exact k p a L B t1 "none" none _ (ex2.trans exp) (.inl (.inl upd_same)) ⟨_, _, _, _, _, hT2.ex exp⟩ G1 (.none C1 hz)
      rintro σ H3 ⟨rfl, rfl, hz⟩
      have hz' := hz
      rw [G1.lastW] at hz'
      obtain ⟨G2', F2', C2'⟩ := drive_to Tld.hl0 G1 F1 (rhs_zero Tld G1 F1 hz') goal.length (Nat.le_refl _)
      have e : t1.driveTo goal.length = t1.driveOut := by unfold Tab.driveOut; rw [G1.ln]
      rw [e] at G2' F2' C2'
      obtain ⟨n2, t3, o3, Cg⟩ := phase2 Tld G2' F2'
      have G3 : GoodT goal lims t3 := Cg.keep (fun t => GoodT goal lims t) (fun t p q r G hg hl => G.turn_by Tld.hl0 hg hl) G2'
      refine seq_of (fun σ H3 => σ = [some vg, some (.ref la), some (.ref a), none, none, none] ∧ Ex (TT1 Pc) No H H3 ∧ TabAt A.Tableau a L B t1.driveOut H3) (fun N hN => ?_) ?_
      · refine ⟨_, rfl, a, _, _, rfl, hT2.ins, lk_meth (by decide +kernel), a, L, B, t1, _, _, rfl, ⟨_, _, _, _, _, hT2⟩, keepsD_good hS, G1, fun H3 ex3 hT3 => ?_⟩
        exact hN _ _ ⟨rfl, ex2.fresh ex3 nTw, hT3⟩
      rintro σ H3 ⟨rfl, ex3, dx3, F3, G3', W3, rs3, hT3⟩
      refine seq_of (fun σ H4 => σ = [some vg, some (.ref la), some (.ref a), none, none, some (optV o3)] ∧ Ex (TT1 Pc) No H H4 ∧ TabAt A.Tableau a L B t3 H4) (fun N hN => ?_) ?_
      · refine ⟨_, rfl, a, _, _, .ref a, rfl, hT3.ins, lk_meth (by decide +kernel), rfl, ex3.t hTabs, fun f c' H4 eN tb nf hco => ?_⟩
        have exN : Ex (TT1 Pc) No H3 H4 := extN_ex eN tb
        refine ⟨a, L, B, _, t3, o3, n2, _, _, rfl, rfl, hco, ⟨_, _, _, _, _, hT3.ex exN⟩, keeps_good hS Tab.gains, G2', Cg, fun H5 ex5 hT5 => ?_⟩
        exact hN _ _ ⟨rfl, (ex3.trans exN).fresh ex5 nTw, hT5⟩
      rintro σ H4 ⟨rfl, ex4, hT4⟩
      obtain ⟨dx4, F4, G4, W4, rs4, hT4⟩ := hT4
      cases o3 with
      | none =>
        refine ⟨_, rfl, _, rfl, rfl, _, rfl, iteYd rfl ?_⟩
        refine ⟨_, rfl, by show 3 ≤ sizeLine; decide, fun p hp => ?_⟩
        have exp : Ex (TT1 Pc) No H4 (upd H4 p (.tup [.ref a, .str "best", .non])) := Ex.new hp
        exact k p a L B t3 "best" none _ (ex4.trans exp) (.inl (.inl upd_same)) ⟨_, _, _, _, _, hT4.ex exp⟩ G3 (.best C1 hz Cg)
      | some q =>
        refine ⟨_, rfl, _, rfl, rfl, _, rfl, iteNd (by intro z; cases z) ?_⟩
        refine ⟨_, rfl, by show 3 ≤ sizeLine; decide, fun p hp => ?_⟩
        have exp : Ex (TT1 Pc) No H4 (upd H4 p (.tup [.ref a, .str "endless", .int (q : Nat)])) := Ex.new hp
        exact k p a L B t3 "endless" (some q) _ (ex4.trans exp) (.inl (.inl upd_same)) ⟨_, _, _, _, _, hT4.ex exp⟩ G3 (.endless C1 hz Cg)
    obtain ⟨t, ht, q⟩ := key
    exact ⟨t, ht.nox, q⟩
end WB
end

section
set_option Elab.async false
set_option linter.all false
set_option maxRecDepth 100000
set_option maxHeartbeats 2000000
set_option exponentiation.threshold 1000000
namespace WB
open PySem PySem.Spec PyProof.Rows L2 LamX LP
variable {P : Program} {w : World} {K : PySem.W.Frag} {mg : Str → Option Value} {base : Heap} {A : LPA} {T : List (Addr × Str)}

/-! ### vectors -/
def sclL (q : Rat) (xs : List Rat) : List Rat := xs.map fun x => q * x
def addL (xs ys : List Rat) : List Rat := List.zipWith (fun x y => x + y) xs ys
def SclOk (q : Rat) (xs : List Rat) : Prop := ∀ i, i < xs.length → TimesOk q (at0 xs i)
def AddOk (xs ys : List Rat) : Prop := ∀ i, i < xs.length → i < ys.length → PlusOk (at0 xs i) (at0 ys i)
def mixFrom : List Rat → List (Rat × List Rat) → List Rat
  | acc, [] => acc
  | acc, p :: r => mixFrom (addL acc (sclL p.1 p.2)) r
def MixOk : List Rat → List (Rat × List Rat) → Prop
  | _, [] => True
  | acc, p :: r => SclOk p.1 p.2 ∧ AddOk acc (sclL p.1 p.2) ∧ p.2.length = acc.length ∧ MixOk (addL acc (sclL p.1 p.2)) r
section
variable (K T)
def sp_dot : Sp := fun vs H Q _ => ∃ x y xs ys, vs = [x, y] ∧ Dp K H x (dv xs) ∧ Dp K H y (dv ys) ∧ xs.length = ys.length ∧ xs.length ≤ sizeLine ∧ DotOk xs ys ∧ Gives K T H Q (dq (sumL (dotP xs ys)))
def sp_scaled : Sp := fun vs H Q _ => ∃ x y q ys, vs = [x, y] ∧ Dp K H x (dq q) ∧ Dp K H y (dv ys) ∧ ys.length ≤ sizeLine ∧ SclOk q ys ∧ Gives K T H Q (dv (sclL q ys))
def sp_added : Sp := fun vs H Q _ => ∃ x y xs ys, vs = [x, y] ∧ Dp K H x (dv xs) ∧ Dp K H y (dv ys) ∧ xs.length = ys.length ∧ xs.length ≤ sizeLine ∧ AddOk xs ys ∧ Gives K T H Q (dv (addL xs ys))
def sp_mixed : Sp := fun vs H Q _ => ∃ x l vs' ws rows n, vs = [x, .ref l] ∧ Dp K H x (dv ws) ∧ SqL K H l vs' ∧ DpAll K H vs' (rows.map dv) ∧ ws.length = rows.length ∧ (rows.map List.length).head? = some n ∧ 1 ≤ n ∧ n ≤ 1000 ∧ MixOk (List.replicate n 0) (ws.zip rows) ∧
  Gives K T H Q (dv (mixFrom (List.replicate n 0) (ws.zip rows)))
end
theorem at0_get {xs : List Rat} {i : Nat} {q : Rat} (h : xs[i]? = some q) : at0 xs i = q := by unfold at0; rw [List.getD_eq_getElem?_getD, h]; rfl
/-- the stability of a comprehension's data -/
theorem stab_D {H1 H2 : Hp} {D : Addr} {y : V} (d : PyData) (f : flatD d = true) (hacc : ∃ acc, H1 D = some (.lst acc)) (ex : Ex T (· = D) H1 H2) (h : Dp K H1 y d) : Dp K H2 y d :=
  dp_tu (ex.tuS fun p hp u hu => by
    have hp : p = D := hp
    obtain ⟨acc, hacc⟩ := hacc
    rw [hp, hacc] at hu; cases hu; exact .lst _) f h
theorem ok_dot (X : LPTxt K mg A) : FnOk P w K mg base CX0 4 A.dot.1 A.dot.2 ["one", "other"] (sp_dot K T) := by
  refine X.dot.fn.ok sc_dot (fun vs H Q E h => ?_) (fun cdv A' outer s H vs Q E hr h => ?_)
  · obtain ⟨_, _, _, _, rfl, _⟩ := h; rfl
  · obtain ⟨x, y, xs, ys, rfl, hx, hy, hl, hz, ok, k⟩ := h
    have ok_times : ∀ {P : Program} {w : World} {base : Heap} (X : LPTxt K mg A), FnOk P w K mg base CX0 2 A.times.1 A.times.2 ["one", "other"] (sp_times K T) := fun X => ok_times X
    have ok_total : ∀ {P : Program} {w : World} {base : Heap} (X : LPTxt K mg A), FnOk P w K mg base CX0 3 A.total.1 A.total.2 ["ratios"] (sp_total K T) := fun X => ok_total X
    refine ⟨_, (pss_one (ps_ret (pe_call (ok_total X) (hr.mono (by decide)) rfl X.total.g X.total.fn.kp X.total.b .nil pass0 (pa_cons (pe_lc (own := [("left", 2), ("right", 3)]) (tt := tYes) rfl sc_dot.nd  (kpi_zipA (K := K) (by rfl) X.n_zip (pa_cons (pv 0) (pa_cons (pv 1) pa_nil))) (blkOk_by (N := ["one", "other", "left", "right"]) (sc := defScope s_dot) (by decide +kernel)) (fun _ _ _ _ _ => (kpg_tup (K := K) (n := 2) rfl (pgs_cons (pg_name (i := 2) sc_dot.nd rfl (Or.inl rfl)) (pgs_cons (pg_name (i := 3) sc_dot.nd rfl (Or.inl rfl)) pgs_nil)))) (fun _ _ _ _ _ => pts_nil) (fun _ _ _ _ _ => (pe_call (ok_times X) (hr.mono (by decide)) rfl X.times.g X.times.fn.kp X.times.b .nil pass0 (pa_cons (pv 2) (pa_cons (pv 3) pa_nil))))) pa_nil)))), ?_⟩
    obtain ⟨a, vs, rfl, ha, hal, hae⟩ := dp_v hx
    obtain ⟨b, us, rfl, hb, hbl, hbe⟩ := dp_v hy
    have hvu : vs.length = us.length := by omega
    refine ⟨_, rfl, _, rfl, a, b, _, _, rfl, .inr ⟨ha, hb, lc_src (T := T) (src_zipT (K := K) (a := a) (b := b) hvu) (by omega) (P := fun D j y H5 => ∃ d, ((dotP xs ys).map dq)[j]? = some d ∧ flatD d = true ∧ Dp K H5 y d) (keep := fun _ => true) (fun D H5 hD ex => ⟨(ex.tuD hD).sqT ha, (ex.tuD hD).sqT hb⟩) (fun D j y H5 H6 hD hacc ex ⟨d, h1, h2, h3⟩ => ⟨d, h1, h2, stab_D d h2 hacc ex h3⟩)
          (fun D j x H5 H6 R hD hacc hj ex hY h1 h2 => ?_) (fun D zs H1 hD ex1 hys hl2 hP => ?_)⟩⟩
    · obtain ⟨t, x1, x2, rfl, nt, rfl, e1, e2⟩ := hY
      obtain ⟨q1, f1, d1⟩ := hae j x1 e1
      obtain ⟨q2, f2, d2⟩ := hbe j x2 e2
      have tu : Tu H (upd H5 t (.tup [x1, x2])) := (ex.tuD hD).trans (Tu.new nt)
      refine ⟨t, _, rfl, .inl (.inl upd_same), rfl, _, _, rfl, _, _, rfl, rfl, rfl, ?_⟩
      refine ⟨_, rfl, _, rfl, x1, x2, q1, q2, rfl, dp_tu tu rfl d1, dp_tu tu rfl d2, ?_, fun v H7 ex7 dv => ?_⟩
      · have := ok.1 j (by have := (List.getElem?_eq_some_iff.mp f1).1; exact this) (by have := (List.getElem?_eq_some_iff.mp f2).1; exact this)
        rw [at0_get f1, at0_get f2] at this; exact this
      · refine h1 rfl _ _ ((Ex.new nt).trans ex7) ⟨dq (q1 * q2), ?_, rfl, dv⟩
        unfold dotP
        rw [List.getElem?_map, List.getElem?_zipWith, f1, f2]; rfl
    · have hz : DpAll K H1 zs ((dotP xs ys).map dq) := datas_of hl2 (by unfold dotP; rw [List.length_map, List.length_zipWith]; omega) fun j y k e1 e2 => by
        obtain ⟨d, h1, h2, h3⟩ := hP j y k e1 e2
        exact ⟨d, h1, h3⟩
      exact ⟨D, zs, dotP xs ys, rfl, .inl (.inl hys), hz, ok.2, fun v H' ex2 d => k v H' (ex1.trans ex2) d⟩
theorem ok_scaled (X : LPTxt K mg A) : FnOk P w K mg base CX0 3 A.scaled.1 A.scaled.2 ["share", "vector"] (sp_scaled K T) := by
  refine X.scaled.fn.ok sc_scaled (fun vs H Q E h => ?_) (fun cdv A' outer s H vs Q E hr h => ?_)
  · obtain ⟨_, _, _, _, rfl, _⟩ := h; rfl
  · obtain ⟨x, y, q, ys, rfl, hx, hy, hz, ok, k⟩ := h
    have ok_times : ∀ {P : Program} {w : World} {base : Heap} (X : LPTxt K mg A), FnOk P w K mg base CX0 2 A.times.1 A.times.2 ["one", "other"] (sp_times K T) := fun X => ok_times X
    refine ⟨_, (pss_one (ps_ret (pe_callTy (ktuple (K := K)) (by rfl) X.n_tuple (by decide +kernel) (pa_cons (pe_lc (own := [("part", 2)]) (tt := tYes) rfl sc_scaled.nd  (kpi_tup (K := K) (pv 1)) (blkOk_by (N := ["share", "vector", "part"]) (sc := defScope s_scaled) (by decide +kernel)) (fun _ _ _ _ _ => (pg_name (i := 2) sc_scaled.nd rfl (Or.inl rfl))) (fun _ _ _ _ _ => pts_nil) (fun _ _ _ _ _ => (pe_call (ok_times X) (hr.mono (by decide)) rfl X.times.g X.times.fn.kp X.times.b .nil pass0 (pa_cons (pv 0) (pa_cons (pv 2) pa_nil))))) pa_nil)))), ?_⟩
    obtain ⟨b, us, rfl, hb, hbl, hbe⟩ := dp_v hy
    refine ⟨_, rfl, b, rfl, ⟨_, hb⟩, lc_src (T := T) (src_tup (K := K) (a := b) (xs := us)) (by omega) (P := fun D j y H5 => ∃ d, ((sclL q ys).map dq)[j]? = some d ∧ flatD d = true ∧ Dp K H5 y d) (keep := fun _ => true) (fun D H5 hD ex => (ex.tuD hD).sqT hb) (fun D j y H5 H6 hD hacc ex ⟨d, h1, h2, h3⟩ => ⟨d, h1, h2, stab_D d h2 hacc ex h3⟩)
          (fun D j x2 H5 H6 R hD hacc hj ex hY h1 h2 => ?_) (fun D zs H1 hD ex1 hys hl2 hP => ?_)⟩
    · obtain ⟨e1, rfl⟩ := hY
      obtain ⟨q2, f2, d2⟩ := hbe j x2 e1
      refine ⟨rfl, _, rfl, _, rfl, x, x2, q, q2, rfl, dp_tu (ex.tuD hD) rfl hx, dp_tu (ex.tuD hD) rfl d2, ?_, fun v H7 ex7 dv => ?_⟩
      · have := ok j (by have := (List.getElem?_eq_some_iff.mp f2).1; exact this)
        rw [at0_get f2] at this; exact this
      · refine h1 rfl _ _ ex7 ⟨dq (q * q2), ?_, rfl, dv⟩
        unfold sclL
        rw [List.getElem?_map, List.getElem?_map, f2]; rfl
    · have hz : DpAll K H1 zs ((sclL q ys).map dq) := datas_of hl2 (by unfold sclL; rw [List.length_map, List.length_map]; omega) fun j y k e1 e2 => by
        obtain ⟨d, h1, h2, h3⟩ := hP j y k e1 e2
        exact ⟨d, h1, h3⟩
      refine ⟨D, _, rfl, .inl ⟨.inl (.inl hys), fun p hp => ?_⟩⟩
      have exp : Ex T No H1 (upd H1 p (.tup zs)) := Ex.new hp
      exact k _ _ (ex1.trans exp) (.tup (.inl (.inl upd_same)) (dpAll_tu exp.tu (flatAll_q _) hz))
theorem ok_added (X : LPTxt K mg A) : FnOk P w K mg base CX0 3 A.added.1 A.added.2 ["one", "other"] (sp_added K T) := by
  refine X.added.fn.ok sc_added (fun vs H Q E h => ?_) (fun cdv A' outer s H vs Q E hr h => ?_)
  · obtain ⟨_, _, _, _, rfl, _⟩ := h; rfl
  · obtain ⟨x, y, xs, ys, rfl, hx, hy, hl, hz, ok, k⟩ := h
    have ok_plus : ∀ {P : Program} {w : World} {base : Heap} (X : LPTxt K mg A), FnOk P w K mg base CX0 2 A.plus.1 A.plus.2 ["one", "other"] (sp_plus K T) := fun X => ok_plus X
    refine ⟨_, (pss_one (ps_ret (pe_callTy (ktuple (K := K)) (by rfl) X.n_tuple (by decide +kernel) (pa_cons (pe_lc (own := [("left", 2), ("right", 3)]) (tt := tYes) rfl sc_added.nd  (kpi_zipA (K := K) (by rfl) X.n_zip (pa_cons (pv 0) (pa_cons (pv 1) pa_nil))) (blkOk_by (N := ["one", "other", "left", "right"]) (sc := defScope s_added) (by decide +kernel)) (fun _ _ _ _ _ => (kpg_tup (K := K) (n := 2) rfl (pgs_cons (pg_name (i := 2) sc_added.nd rfl (Or.inl rfl)) (pgs_cons (pg_name (i := 3) sc_added.nd rfl (Or.inl rfl)) pgs_nil)))) (fun _ _ _ _ _ => pts_nil) (fun _ _ _ _ _ => (pe_call (ok_plus X) (hr.mono (by decide)) rfl X.plus.g X.plus.fn.kp X.plus.b .nil pass0 (pa_cons (pv 2) (pa_cons (pv 3) pa_nil))))) pa_nil)))), ?_⟩
    obtain ⟨a, vs, rfl, ha, hal, hae⟩ := dp_v hx
    obtain ⟨b, us, rfl, hb, hbl, hbe⟩ := dp_v hy
    have hvu : vs.length = us.length := by omega
    refine ⟨_, rfl, _, rfl, a, b, _, _, rfl, .inr ⟨ha, hb, lc_src (T := T) (src_zipT (K := K) (a := a) (b := b) hvu) (by omega) (P := fun D j y H5 => ∃ d, ((addL xs ys).map dq)[j]? = some d ∧ flatD d = true ∧ Dp K H5 y d) (keep := fun _ => true) (fun D H5 hD ex => ⟨(ex.tuD hD).sqT ha, (ex.tuD hD).sqT hb⟩) (fun D j y H5 H6 hD hacc ex ⟨d, h1, h2, h3⟩ => ⟨d, h1, h2, stab_D d h2 hacc ex h3⟩)
          (fun D j x H5 H6 R hD hacc hj ex hY h1 h2 => ?_) (fun D zs H1 hD ex1 hys hl2 hP => ?_)⟩⟩
    · obtain ⟨t, x1, x2, rfl, nt, rfl, e1, e2⟩ := hY
      obtain ⟨q1, f1, d1⟩ := hae j x1 e1
      obtain ⟨q2, f2, d2⟩ := hbe j x2 e2
      have tu : Tu H (upd H5 t (.tup [x1, x2])) := (ex.tuD hD).trans (Tu.new nt)
      refine ⟨t, _, rfl, .inl (.inl upd_same), rfl, _, _, rfl, _, _, rfl, rfl, rfl, ?_⟩
      refine ⟨_, rfl, _, rfl, x1, x2, q1, q2, rfl, dp_tu tu rfl d1, dp_tu tu rfl d2, ?_, fun v H7 ex7 dv => ?_⟩
      · have := ok j (by have := (List.getElem?_eq_some_iff.mp f1).1; exact this) (by have := (List.getElem?_eq_some_iff.mp f2).1; exact this)
        rw [at0_get f1, at0_get f2] at this; exact this
      · refine h1 rfl _ _ ((Ex.new nt).trans ex7) ⟨dq (q1 + q2), ?_, rfl, dv⟩
        unfold addL
        rw [List.getElem?_map, List.getElem?_zipWith, f1, f2]; rfl
    · have hz : DpAll K H1 zs ((addL xs ys).map dq) := datas_of hl2 (by unfold addL; rw [List.length_map, List.length_zipWith]; omega) fun j y k e1 e2 => by
        obtain ⟨d, h1, h2, h3⟩ := hP j y k e1 e2
        exact ⟨d, h1, h3⟩
      refine ⟨D, _, rfl, .inl ⟨.inl (.inl hys), fun p hp => ?_⟩⟩
      have exp : Ex T No H1 (upd H1 p (.tup zs)) := Ex.new hp
      exact k _ _ (ex1.trans exp) (.tup (.inl (.inl upd_same)) (dpAll_tu exp.tu (flatAll_q _) hz))
theorem mix_at : ∀ {acc : List Rat} {ps : List (Rat × List Rat)} {i : Nat} {p : Rat × List Rat}, MixOk acc ps → ps[i]? = some p →
    SclOk p.1 p.2 ∧ AddOk (mixFrom acc (ps.take i)) (sclL p.1 p.2) ∧ p.2.length = acc.length ∧ (mixFrom acc (ps.take i)).length = acc.length ∧ mixFrom acc (ps.take (i + 1)) = addL (mixFrom acc (ps.take i)) (sclL p.1 p.2)
  | _, [], _, _, _, e => by simp at e
  | acc, p0 :: r, 0, p, h, e => by
    simp at e; subst e
    exact ⟨h.1, h.2.1, h.2.2.1, rfl, rfl⟩
  | acc, p0 :: r, i + 1, p, h, e => by
    have hl : (addL acc (sclL p0.1 p0.2)).length = acc.length := by
      unfold addL sclL; rw [List.length_zipWith, List.length_map, h.2.2.1]; omega
    obtain ⟨h1, h2, h3, h4, h5⟩ := mix_at (acc := addL acc (sclL p0.1 p0.2)) (i := i) h.2.2.2 (by simpa using e)
    exact ⟨h1, h2, by rw [h3, hl], by rw [← hl]; exact h4, h5⟩
theorem ok_mixed (X : LPTxt K mg A) : FnOk P w K mg base CX0 4 A.mixed.1 A.mixed.2 ["weights", "rows"] (sp_mixed K T) := by
  refine X.mixed.fn.ok sc_mixed (fun vs H Q E h => ?_) (fun cdv A' outer s H vs Q E hr h => ?_)
  · obtain ⟨_, _, _, _, _, _, rfl, _⟩ := h; rfl
  · obtain ⟨x, l, rs, ws, rows, n, rfl, hx, hl, hrs, hwl, hn, n1, n2, ok, k⟩ := h
    have ok_scaled : ∀ {P : Program} {w : World} {base : Heap} (X : LPTxt K mg A), FnOk P w K mg base CX0 3 A.scaled.1 A.scaled.2 ["share", "vector"] (sp_scaled K T) := fun X => ok_scaled X
    have ok_added : ∀ {P : Program} {w : World} {base : Heap} (X : LPTxt K mg A), FnOk P w K mg base CX0 3 A.added.1 A.added.2 ["one", "other"] (sp_added K T) := fun X => ok_added X
    refine ⟨_, (pss_cons (ps_set (i := 2) sc_mixed.nd rfl (Or.inl rfl) (pe_op (krepT (K := K)) (pe_tup (pa_cons (pe_glob (v := V.ref A.ZERO) rfl X.g_ZERO rfl) pa_nil)) (pe_callB (klen (K := K)) (by rfl) X.n_len (by decide +kernel) (pa_cons (pe_ix (kix_list (K := K)) (pv 1) pe_int (fun _ _ => rfl)) pa_nil))))
  (pss_cons (ps_for PassesOwn.never rfl (kpi_zipTL (K := K) (by rfl) X.n_zip (pa_cons (pv 0) (pa_cons (pv 1) pa_nil))) (kpg_tup (K := K) (n := 2) rfl (pgs_cons (pg_name (i := 3) sc_mixed.nd rfl (Or.inl rfl)) (pgs_cons (pg_name (i := 4) sc_mixed.nd rfl (Or.inl rfl)) pgs_nil))) (pss_one (ps_set (i := 2) sc_mixed.nd rfl (Or.inl rfl) (pe_call (ok_added X) (hr.mono (by decide)) rfl X.added.g X.added.fn.kp X.added.b .nil pass0 (pa_cons (pv 2) (pa_cons (pe_call (ok_scaled X) (hr.mono (by decide)) rfl X.scaled.g X.scaled.fn.kp X.scaled.b .nil pass0 (pa_cons (pv 3) (pa_cons (pv 4) pa_nil))) pa_nil))))))
  (pss_one (ps_ret (pv 2))))), ?_⟩
    obtain ⟨a, vs, rfl, ha, hal, hae⟩ := dp_v hx
    have rl : rs.length = rows.length := by simpa using dpAll_len hrs
    obtain ⟨r0, e0⟩ : ∃ r0, rows[0]? = some r0 := by
      cases rows with
      | nil => simp at hn
      | cons r rr => exact ⟨r, rfl⟩
    have er0 : r0.length = n := by
      cases rows with
      | nil => simp at hn
      | cons r rr => simp at hn e0; rw [← e0]; exact hn
    obtain ⟨v0, hv0⟩ : ∃ v0, rs[0]? = some v0 := ⟨_, List.getElem?_eq_getElem (by rw [rl]; exact (List.getElem?_eq_some_iff.mp e0).1)⟩
    obtain ⟨r0', e0', d0⟩ := dpAll_mapget hrs hv0
    rw [e0] at e0'; cases e0'
    obtain ⟨pa, pvs, rfl, hpa, hpl, _⟩ := dp_v d0
    refine seq_of (fun σ H1 => ∃ f, σ = [some (.ref a), some (.ref l), some f, none, none] ∧ Ex T No H H1 ∧ Dp K H1 f (dv (List.replicate n 0))) (fun N hN => ?_) ?_
    · refine ⟨by show 1 ≤ sizeLine; decide, fun p hp => ?_⟩
      have exp : Ex T No H (upd H p (.tup [.ref A.ZERO])) := Ex.new hp
      refine ⟨_, rfl, l, _, _, _, rfl, rfl, exp.sqL hl, atI_nat (j := 0) hv0, pa, pvs, rfl, .inr (exp.sqT hpa), p, _, _, rfl, rfl, .inl (.inl upd_same), by simp, by omega, by omega, by show 1 ≤ 1000; omega, fun h1 => ?_, fun h2 p2 hp2 => ?_⟩
      · have en : n = 1 := by omega
        subst en
        exact hN _ _ ⟨_, rfl, exp, .tup (.inl (.inl upd_same)) (.cons (dp_zero X _) .nil)⟩
      · have exp2 := Ex.new (T := T) (S := No) (o := .tup (List.replicate ((pvs.length : Nat) : Int).toNat [V.ref A.ZERO]).flatten) hp2
        refine hN _ _ ⟨_, rfl, exp.trans exp2, .tup (.inl (.inl upd_same)) ?_⟩
        have e3 : ((pvs.length : Nat) : Int).toNat = n := by omega
        rw [rep_flat, rep_q, e3]
        exact dpAll_rep (dp_zero X _) n
    rintro σ H1 ⟨f, rfl, ex1, hf⟩
    have hvr : vs.length = rs.length := by omega
    refine seq_of (fun σ H2 => ∃ f e3 e4, σ = [some (.ref a), some (.ref l), some f, e3, e4] ∧ Ex T No H H2 ∧ Dp K H2 f (dv (mixFrom (List.replicate n 0) (ws.zip rows)))) (fun N hN => ?_) ?_
    · refine ⟨_, rfl, _, rfl, a, l, _, _, rfl, ex1.tu.sqT ha, ex1.sqL hl, for_src (src_zipTL (K := K) (a := a) (b := l) hvr) (fun i σ H2 => ∃ f e3 e4, σ = [some (.ref a), some (.ref l), some f, e3, e4] ∧ Ex T No H H2 ∧ Dp K H2 f (dv (mixFrom (List.replicate n 0) ((ws.zip rows).take i))))
        ⟨f, _, _, rfl, ex1, hf⟩ (fun i σ H2 _ ⟨_, _, _, _, e, _⟩ => ⟨e.tu.sqT ha, e.sqL hl⟩) ?_ ?_⟩
      · rintro i v σ H2 H3 hi ⟨f, e3, e4, rfl, ex2, hf2⟩ ⟨t, x1, x2, rfl, nt, rfl, f1, f2⟩
        obtain ⟨q, g1, d1⟩ := hae i x1 f1
        obtain ⟨row, g2, d2⟩ := dpAll_mapget hrs f2
        have gz : (ws.zip rows)[i]? = some (q, row) := by rw [List.getElem?_zip_eq_some]; exact ⟨g1, g2⟩
        obtain ⟨h1, h2, h3, h4, h5⟩ := mix_at ok gz
        rw [List.length_replicate] at h3 h4
        have h3 : row.length = n := h3
        have h1 : SclOk q row := h1
        have h2 : AddOk (mixFrom (List.replicate n 0) ((ws.zip rows).take i)) (sclL q row) := h2
        have ex3 : Ex T No H (upd H2 t (.tup [x1, x2])) := ex2.more nt
        refine ⟨t, _, rfl, .inl (.inl upd_same), rfl, _, _, rfl, _, _, rfl, rfl, ?_⟩
        have nl : n ≤ sizeLine := Nat.le_trans n2 (by decide)
        refine ⟨_, rfl, _, rfl, _, rfl, x1, x2, q, row, rfl, dp_tu ex3.tu rfl d1, dp_tu ex3.tu (flat_dv _) d2, by omega, h1, fun v H5 ex5 d5 => ?_⟩
        refine ⟨f, v, _, _, rfl, dp_tu ((Ex.new (T := T) (S := No) nt).trans ex5).tu (flat_dv _) hf2, d5, by unfold sclL; rw [List.length_map]; omega, by omega, h2, fun v6 H6 ex6 d6 => ?_⟩
        refine ⟨v6, _, _, rfl, ex3.trans (ex5.trans ex6), ?_⟩
        rw [h5]; exact d6
      · rintro σ H2 ⟨f, e3, e4, rfl, ex2, hf2⟩
        have e : (ws.zip rows).take vs.length = ws.zip rows := List.take_of_length_le (by rw [List.length_zip]; omega)
        rw [e] at hf2
        exact hN _ _ ⟨f, _, _, rfl, ex2, hf2⟩
    rintro σ H2 ⟨f, e3, e4, rfl, ex2, hf2⟩
    exact ⟨_, rfl, k _ _ ex2 hf2⟩
end WB
end

section
set_option Elab.async false
set_option linter.all false
set_option maxRecDepth 100000
set_option maxHeartbeats 2000000
set_option exponentiation.threshold 1000000
namespace WB
open PySem PySem.Spec PyProof.Rows L2 LamX LP
variable {P : Program} {w : World} {K : PySem.W.Frag} {mg : Str → Option Value} {base : Heap} {A : LPA} {Pc : Addr}

/-! ### solve -/
def dans : Ans → PyData
  | .best q x p => .tuple [.str "best", dq q, dv x, dv p]
  | .empty p => .tuple [.str "empty", dv p]
  | .endless x y => .tuple [.str "endless", dv x, dv y]
theorem flat_dans (a : Ans) : flatD (dans a) = true := by
  cases a <;> unfold dans <;> simp only [flatD, flatAll, flat_dv, flat_dq, Bool.and_true]
section
variable (K Pc)
def sp_solve0 : Sp := fun vs H Q _ => ∃ vg vl n lims, vs = [vg, vl] ∧ Dp K H vg (dv (List.replicate n 0)) ∧ Dp K H vl (dlims lims) ∧ Tabs (TT1 Pc) H ∧ SizeOk (List.replicate n 0) lims ∧
  ∀ a v H', Run lims (List.replicate n 0) a → Ex (TT1 Pc) No H H' → Dp K H' v (dans a) → Q v H'
def sp_solve : Sp := fun vs H Q _ => ∃ vg vl goal lims, vs = [vg, vl] ∧ Dp K H vg (dv goal) ∧ Dp K H vl (dlims lims) ∧ Tabs (TT1 Pc) H ∧ SizeOk goal lims ∧ SizeOk (List.replicate goal.length 0) lims ∧ goal.length ≤ 1000 ∧
  ∀ a v H', Run lims goal a → Ex (TT1 Pc) No H H' → Dp K H' v (dans a) → Q v H'
end
theorem cres_facts {goal : List Rat} {lims : Lims} {t : Tab} {wd : Str} {o : Option Nat} (c : CRes goal lims t wd o) : Facts goal.length (fun i => sgnOf (rowAt goal lims i) * lcmL (rowAt goal lims i)) t ∧ t.scale = lcmL (lims.map (·.2)) := by
  have h0 := init_facts goal lims
  cases c with
  | none C _ => exact climbs_facts C h0
  | best C hz D =>
    rename_i n1 n2 t1 o1
    obtain ⟨f1, s1⟩ := climbs_facts C h0
    have f2 := facts_drive f1 t1.lines.length
    obtain ⟨f3, s3⟩ := climbs_facts D f2.1
    exact ⟨f3, s3.trans (f2.2.trans s1)⟩
  | endless C hz D =>
    rename_i n1 n2 q t1 o1
    obtain ⟨f1, s1⟩ := climbs_facts C h0
    have f2 := facts_drive f1 t1.lines.length
    obtain ⟨f3, s3⟩ := climbs_facts D f2.1
    exact ⟨f3, s3.trans (f2.2.trans s1)⟩
theorem sumQ_shift (n : Nat) (f : Nat → Rat) : sumQ (n + 1) f = f 0 + sumQ n fun i => f (i + 1) := by
  induction n with
  | zero => simp only [sumQ]; grind
  | succ n ih =>
    have e1 : sumQ (n + 1 + 1) f = sumQ (n + 1) f + f (n + 1) := rfl
    have e2 : (sumQ (n + 1) fun i => f (i + 1)) = (sumQ n fun i => f (i + 1)) + f (n + 1) := rfl
    rw [e1, e2, ih]; grind
theorem sum_dot : ∀ (xs ys : List Rat), xs.length = ys.length → sumL (dotP xs ys) = sumQ ys.length fun k => at0 xs k * at0 ys k
  | [], [], _ => rfl
  | x :: xs, y :: ys, h => by
    have ih := sum_dot xs ys (by simpa using h)
    show sumL (x * y :: dotP xs ys) = sumQ (ys.length + 1) _
    rw [sumL_cons, sumQ_shift, ih]; rfl
  | [], _ :: _, h => by simp at h
  | _ :: _, [], h => by simp at h
theorem bds_at (lims : Lims) (k : Nat) : at0 (lims.map (·.2)) k = bdsB lims k := by
  unfold at0 bdsB
  rw [List.getD_eq_getElem?_getD, List.getElem?_map, List.getD_eq_getElem?_getD]
  cases lims[k]? <;> rfl
/-- what the prices ask -/
theorem low_prices {goal : List Rat} {lims : Lims} (S : SizeOk goal lims) {t : Tab} (G : GoodT goal lims t) (n : Int) {s : Int} (hs : 0 < s) (h : t.unit.natAbs * s.natAbs < 2 ^ 9000) : LowOk n (t.unit * s) :=
  .of_den (Int.mul_pos G.inv.pos hs) (by rw [Int.natAbs_mul]; exact h)
theorem fac_sm {goal : List Rat} {lims : Lims} (S : SizeOk goal lims) {t : Tab} (F : Facts goal.length (fun i => sgnOf (rowAt goal lims i) * lcmL (rowAt goal lims i)) t) (i : Nat) : Sm (t.factors.getD i 0) := by
  by_cases hi : i < goal.length
  · rw [F.val i hi]
    unfold Sm
    rw [Int.natAbs_mul, Int.natAbs_natCast]
    have h1 := (S.init.rowC i hi).1
    have h2 : (sgnOf (rowAt goal lims i)).natAbs = 1 := by rcases sgnOf_sq (rowAt goal lims i) with h | h <;> rw [h] <;> rfl
    rw [h2]; omega
  · rw [List.getD_eq_getElem?_getD, List.getElem?_eq_none (by rw [F.len]; omega)]
    exact sm_zero
theorem unit_le {goal : List Rat} {lims : Lims} (S : SizeOk goal lims) {t : Tab} (G : GoodT goal lims t) : t.unit.natAbs < 2 ^ 9000 ∧ t.unit.natAbs * lcmL (lims.map (·.2)) < 2 ^ 9000 := by
  obtain ⟨B, hB, hb, hb2⟩ := S.big
  have u := (hB t G).unit
  exact ⟨Nat.lt_of_le_of_lt u hb, Nat.lt_of_le_of_lt (Nat.mul_le_mul_right _ u) hb2⟩
theorem scale_sm {goal : List Rat} {lims : Lims} (S : SizeOk goal lims) : Sm (lcmL (lims.map (·.2)) : Nat) := by
  unfold Sm; rw [Int.natAbs_natCast]; exact S.init.bds.1
theorem sm_one : Sm 1 := by unfold Sm; show 1 < _; exact Nat.one_lt_two_pow (by omega)
abbrev nSolve : List Str := ["goal", "limits", "tableau", "word", "column", "prices", "worth", "price", "limit", "ray", "other"]
theorem solve_body (X : LPTxt K mg A) (TB : TabB base mg A.code Pc) {cdv : Value} {A' : Around} {outer : List Env} {s : Shared} {H : Hp} {Q : VK} {E : XK} {goal : List Rat} {lims : Lims} {vg vl : V} {k : Nat} (hr : Room (k + 4) (A'.deeper (envOfC "solve" (defScope s_solve) s.heap.objs.size A.solve.1 cdv)))
    (hg : Dp K H vg (dv goal)) (hl : Dp K H vl (dlims lims)) (hT0 : Tabs (TT1 Pc) H) (hS : SizeOk goal lims) {tr : TS} (hrest : PSs (cxOf CX0 P w K mg base nSolve "solve" (defScope s_solve) A.solve.1 cdv A' outer s H E).nox ((defBody s_solve).drop 3) tr)
    (kq : ∀ a v H', Run lims goal a → (∀ x y, a ≠ .endless x y) → Ex (TT1 Pc) No H H' → Dp K H' v (dans a) → Q v H')
    (kr : ∀ H' a L B t n1 o1, Ex (TT1 Pc) No H H' → TabAt A.Tableau a L B t H' → GoodT goal lims t → Climbs Tab.wants n1 (initTab goal lims) t o1 → lastE t.wants ≠ 0 → tr { nx := fun _ H' => Q .non H', rt := Q } [some vg, some vl, some (.ref a), some (.str "none"), some .non, none, none, none, none, none, none] H') :
    ∃ t, PSs (cxOf CX0 P w K mg base nSolve "solve" (defScope s_solve) A.solve.1 cdv A' outer s H E).nox (defBody s_solve) t ∧ t { nx := fun _ H' => Q .non H', rt := Q } (L2.start nSolve [vg, vl]) H := by
  have ok_times : ∀ {P : Program} {w : World} {base : Heap} (X : LPTxt K mg A), FnOk P w K mg base CX0 2 A.times.1 A.times.2 ["one", "other"] (sp_times K (TT1 Pc)) := fun X => ok_times X
  have ok_total : ∀ {P : Program} {w : World} {base : Heap} (X : LPTxt K mg A), FnOk P w K mg base CX0 3 A.total.1 A.total.2 ["ratios"] (sp_total K (TT1 Pc)) := fun X => ok_total X
  have ok_Tableau_weights : ∀ {P : Program} {w : World} {base : Heap} (X : LPTxt K mg A), FnOk P w K mg base CX0 2 A.Tableau_weights.1 A.Tableau_weights.2 ["self"] (sp_weights K (TT1 Pc) A.Tableau) := fun X => ok_Tableau_weights X
  have ok_Tableau_ray : ∀ {P : Program} {w : World} {base : Heap} (X : LPTxt K mg A), FnOk P w K mg base CX0 2 A.Tableau_ray.1 A.Tableau_ray.2 ["self", "at"] (sp_ray K (TT1 Pc) A.Tableau) := fun X => ok_Tableau_ray X
  have ok_Tableau_prices : ∀ {P : Program} {w : World} {base : Heap} (X : LPTxt K mg A), FnOk P w K mg base CX0 2 A.Tableau_prices.1 A.Tableau_prices.2 ["self", "line", "scale"] (sp_prices K (TT1 Pc) A.Tableau) := fun X => ok_Tableau_prices X
  have ok_climbed : ∀ (X : LPTxt K mg A), FnOk P w K mg base CX0 4 A.climbed.1 A.climbed.2 ["goal", "limits"] (sp_climbed K Pc A.Tableau) := fun X => ok_climbed X TB
  have hr : Room 4 _ := hr.mono (Nat.le_add_left _ _)
  refine ⟨_, (pss_cons (ps_asg (pe_call (ok_climbed X) (hr.mono (by decide)) rfl X.climbed.g X.climbed.fn.kp X.climbed.b .nil pass0 (pa_cons (pv 0) (pa_cons (pv 1) pa_nil))) (kpg_tup (K := K) (n := 3) rfl (pgs_cons (pg_name (i := 2) sc_solve.nd rfl (Or.inl rfl)) (pgs_cons (pg_name (i := 3) sc_solve.nd rfl (Or.inl rfl)) (pgs_cons (pg_name (i := 4) sc_solve.nd rfl (Or.inl rfl)) pgs_nil)))))
  (pss_cons (ps_if (pt_cmpR op_eq (pv 3) pe_str (nomark _)) (pss_cons (ps_set (i := 5) sc_solve.nd rfl (Or.inl rfl) (pe_meth0 (pv 2) X.cl_Tableau X.Tableau_weights.m (ok_Tableau_weights X) (hr.mono (by decide)) X.Tableau_weights.b .nil pass0))
  (pss_cons (ps_set (i := 6) sc_solve.nd rfl (Or.inl rfl) (pe_call (ok_total X) (hr.mono (by decide)) rfl X.total.g X.total.fn.kp X.total.b .nil pass0 (pa_cons (pe_lc (own := [("price", 7), ("limit", 8)]) (tt := tYes) rfl sc_solve.nd  (kpi_zipA (K := K) (by rfl) X.n_zip (pa_cons (pv 5) (pa_cons (pv 1) pa_nil))) (blkOk_by (N := ["goal", "limits", "tableau", "word", "column", "prices", "worth", "price", "limit", "ray", "other"]) (sc := defScope s_solve) (by decide +kernel)) (fun _ _ _ _ _ => (kpg_tup (K := K) (n := 2) rfl (pgs_cons (pg_name (i := 7) sc_solve.nd rfl (Or.inl rfl)) (pgs_cons (pg_name (i := 8) sc_solve.nd rfl (Or.inl rfl)) pgs_nil)))) (fun _ _ _ _ _ => pts_nil) (fun _ _ _ _ _ => (pe_call (ok_times X) (hr.mono (by decide)) rfl X.times.g X.times.fn.kp X.times.b .nil pass0 (pa_cons (pv 7) (pa_cons (pe_ix (kix_tup (K := K)) (pv 8) pe_int (fun _ _ => rfl)) pa_nil))))) pa_nil)))
  (pss_one (ps_ret (pe_tup (pa_cons pe_str (pa_cons (pv 6) (pa_cons (pe_meth (pv 2) X.cl_Tableau X.Tableau_prices.m (ok_Tableau_prices X) (hr.mono (by decide)) X.Tableau_prices.b .nil pass0 (pa_cons (kfld (K := K) (pv 2) rfl) (pa_cons (kfld (K := K) (pv 2) rfl) pa_nil))) (pa_cons (pv 5) pa_nil))))))))) pss_nil)
  (pss_cons (ps_if (pt_cmpR op_eq (pv 3) pe_str (nomark _)) (pss_one (ps_ret (pe_tup (pa_cons pe_str (pa_cons (pe_meth (pv 2) X.cl_Tableau X.Tableau_ray.m (ok_Tableau_ray X) (hr.mono (by decide)) X.Tableau_ray.b .nil pass0 (pa_cons (pv 4) pa_nil)) pa_nil))))) pss_nil)
  hrest))), ?_⟩
  refine seq_of (fun σ H1 => ∃ a L B t wd o, σ = [some vg, some vl, some (.ref a), some (.str wd), some (optV o), none, none, none, none, none, none] ∧ Ex (TT1 Pc) No H H1 ∧ TabAt A.Tableau a L B t H1 ∧ GoodT goal lims t ∧ CRes goal lims t wd o) (fun N hN => ?_) ?_
  · refine ⟨_, rfl, _, rfl, vg, vl, goal, lims, rfl, hg, hl, hT0, hS, fun p a L B t wd o H1 ex1 sq hT G cr => ?_⟩
    refine ⟨p, _, rfl, sq, rfl, _, _, rfl, _, _, rfl, _, _, rfl, rfl, ?_⟩
    exact hN _ _ ⟨a, L, B, t, wd, o, rfl, ex1, hT, G, cr⟩
  rintro σ H1 ⟨a, L, B, t, wd, o, rfl, ex1, ⟨dx, F, G', W, rs, hT1⟩, G, cr⟩
  have Fi := fit_of hS G
  obtain ⟨Fa, hsc⟩ := cres_facts cr
  obtain ⟨u1, u2⟩ := unit_le hS G
  obtain ⟨la, ls, rfl, hls, hle⟩ := dp_lims hl
  have llen : ls.length = lims.length := by simpa using dpAll_len hle
  have sz := hS.init.sz
  have tall : t.many + t.factors.length ≤ lims.length + goal.length := by rw [G.many, Fa.len]; omega
  cases cr with
  | best C hz D =>
    refine ⟨_, rfl, rfl, _, rfl, iteYd rfl ?_⟩
    -- prices
    refine seq_of (fun σ H2 => ∃ vp, σ = [some vg, some (.ref la), some (.ref a), some (.str "best"), some .non, some vp, none, none, none, none, none] ∧ Ex (TT1 Pc) No H1 H2 ∧ Dp K H2 vp (dv t.weights)) (fun N hN => ?_) ?_
    · refine ⟨_, rfl, a, _, _, rfl, hT1.ins, lk_meth (by decide +kernel), a, L, B, t, _, rfl, ⟨_, _, _, _, _, hT1⟩, Fi, fun v H2 ex2 d => ?_⟩
      exact hN _ _ ⟨v, rfl, ex2, d⟩
    rintro σ H2 ⟨vp, rfl, ex2, dp⟩
    obtain ⟨pa, ps, rfl, hps, hpl, hpe⟩ := dp_v dp
    have wl : t.weights.length = lims.length := by rw [weights_len, G.many]
    have hpe' : ps.length = ls.length := by omega
    have dk := hS.dot t G
    have hw : sumL (dotP t.weights (lims.map (·.2))) = sumQ lims.length fun k => at0 t.weights k * bdsB lims k := by
      rw [sum_dot _ _ (by rw [wl, List.length_map]), List.length_map]
      exact sumQ_congr fun i _ => by rw [bds_at]
    have exA : Ex (TT1 Pc) No H H2 := ex1.trans ex2
    -- worth
    refine seq_of (fun σ H3 => ∃ vw, σ = [some vg, some (.ref la), some (.ref a), some (.str "best"), some .non, some (.ref pa), some vw, none, none, none, none] ∧ Ex (TT1 Pc) No H2 H3 ∧ Dp K H3 vw (dq (sumQ lims.length fun k => at0 t.weights k * bdsB lims k))) (fun N hN => ?_) ?_
    · refine ⟨_, rfl, _, rfl, pa, la, _, _, rfl, .inr ⟨hps, exA.tu.sqT hls, lc_src (T := TT1 Pc) (src_zipT (K := K) (a := pa) (b := la) hpe') (by omega) (P := fun D j y H5 => ∃ d, ((dotP t.weights (lims.map (·.2))).map dq)[j]? = some d ∧ flatD d = true ∧ Dp K H5 y d) (keep := fun _ => true) (fun D H5 hD ex => ⟨(ex.tuD hD).sqT hps, (ex.tuD hD).sqT (exA.tu.sqT hls)⟩) (fun D j y H5 H6 hD hacc ex ⟨d, h1, h2, h3⟩ => ⟨d, h1, h2, stab_D d h2 hacc ex h3⟩)
            (fun D j x H5 H6 R hD hacc hj ex hY h1 h2 => ?_) (fun D zs H3 hD ex3 hys hl2 hP => ?_)⟩⟩
      · obtain ⟨tt, x1, x2, rfl, nt, rfl, e1, e2⟩ := hY
        obtain ⟨q1, f1, d1⟩ := hpe j x1 e1
        obtain ⟨l, f2, d2⟩ := dpAll_mapget hle e2
        have tu1 : Tu H2 (upd H5 tt (.tup [x1, x2])) := (ex.tuD hD).trans (Tu.new nt)
        obtain ⟨p2, r2, b2, rfl, g1, g2, g3⟩ := dp_lim (dp_tu (exA.tu.trans tu1) (flat_dlim l) d2)
        refine ⟨tt, _, rfl, .inl (.inl upd_same), rfl, _, _, rfl, _, _, rfl, rfl, rfl, ?_⟩
        refine ⟨_, rfl, _, rfl, p2, _, _, _, rfl, rfl, g1, at1_, x1, b2, q1, l.2, rfl, dp_tu tu1 rfl d1, g3, ?_, fun v H7 ex7 dv => ?_⟩
        · have hb : at0 (lims.map (·.2)) j = l.2 := at0_get (by rw [List.getElem?_map, f2]; rfl)
          have := dk.1 j (by have := (List.getElem?_eq_some_iff.mp f1).1; exact this) (by rw [List.length_map]; have := (List.getElem?_eq_some_iff.mp f2).1; exact this)
          rw [at0_get f1, hb] at this; exact this
        · refine h1 rfl _ _ ((Ex.new nt).trans ex7) ⟨dq (q1 * l.2), ?_, rfl, dv⟩
          unfold dotP
          rw [List.getElem?_map, List.getElem?_zipWith, f1, List.getElem?_map, f2]; rfl
      · have hz : DpAll K H3 zs ((dotP t.weights (lims.map (·.2))).map dq) := datas_of hl2 (by unfold dotP; rw [List.length_map, List.length_zipWith, List.length_map]; omega) fun j y k e1 e2 => by
          obtain ⟨d, h1, h2, h3⟩ := hP j y k e1 e2
          exact ⟨d, h1, h3⟩
        refine ⟨D, zs, dotP t.weights (lims.map (·.2)), rfl, .inl (.inl hys), hz, dk.2, fun v H' ex4 d => ?_⟩
        rw [hw] at d
        exact hN _ _ ⟨v, rfl, ex3.trans ex4, d⟩
    rintro σ H3 ⟨vw, rfl, ex3, dw⟩
    have hT3 := hT1.ex (ex2.trans ex3)
    have ln := G.gn
    refine ⟨_, rfl, _, rfl, a, _, _, rfl, hT3.ins, lk_meth (by decide +kernel), _, rfl, a, _, _, _, _, rfl, hT3.ins, X.cl_Tableau, X.na_gains, lk_gains, _, rfl, a, _, _, _, _, rfl, hT3.ins, X.cl_Tableau, X.na_scale, lk_scale,
      a, L, B, t, G', t.gains, t.scale, rfl, ⟨_, _, _, _, _, hT3⟩, hT3.g, by omega, by omega, Fi.g, Fi.u, by rw [hsc]; exact scale_sm hS, fac_sm hS Fa, fun i hi => low_prices hS G _ (by rw [hsc]; exact_mod_cast lcmL_pos _) (by rw [hsc, Int.natAbs_natCast]; exact u2), fun vx H4 ex4 dx4 => ?_⟩
    refine ⟨_, rfl, by show 4 ≤ sizeLine; decide, fun p hp => ?_⟩
    have exp : Ex (TT1 Pc) No H4 (upd H4 p (.tup [.str "best", vw, vx, .ref pa])) := Ex.new hp
    refine kq _ _ _ (.best C hz D) (fun x y => by intro z; cases z) (exA.trans (ex3.trans (ex4.trans exp))) (.tup (.inl (.inl upd_same)) (.cons (.str _) (.cons (dp_tu (ex4.trans exp).tu rfl dw) (.cons (dp_tu exp.tu (flat_dv _) dx4) (.cons (dp_tu (ex3.trans (ex4.trans exp)).tu (flat_dv _) dp) .nil)))))
  | endless C hz D =>
    rename_i n1 n2 q t1 o1
    refine ⟨_, rfl, rfl, _, rfl, iteNd (by intro z; injection z with z; exact absurd z (by decide +kernel)) ?_⟩
    refine ⟨_, rfl, rfl, _, rfl, iteYd rfl ?_⟩
    have hq : q < t.many := by
      rcases D.ends with ⟨h, _⟩ | ⟨q', r, h, h2, _⟩
      · cases h
      · cases h; exact (gainsL_cons h2).1
    refine ⟨_, rfl, a, _, _, rfl, hT1.ins, lk_meth (by decide +kernel), _, rfl, a, L, B, t, _, q, rfl, ⟨_, _, _, _, _, hT1⟩, Fi, hq, fun v H2 ex2 d => ?_⟩
    refine ⟨two_line, fun p hp => ?_⟩
    have exp : Ex (TT1 Pc) No H2 (upd H2 p (.tup [.str "empty", v])) := Ex.new hp
    refine kq _ _ _ (.empty C hz D) (fun x y => by intro z; cases z) (ex1.trans (ex2.trans exp)) (.tup (.inl (.inl upd_same)) (.cons (.str _) (.cons (dp_tu exp.tu (flat_dv _) d) .nil)))
  | none C hz =>
    refine ⟨_, rfl, rfl, _, rfl, iteNd (by intro z; injection z with z; exact absurd z (by decide +kernel)) ?_⟩
    refine ⟨_, rfl, rfl, _, rfl, iteNd (by intro z; injection z with z; exact absurd z (by decide +kernel)) ?_⟩
    exact kr H1 a L B t _ _ ex1 ⟨_, _, _, _, _, hT1⟩ G C hz
theorem ok_solve0 (X : LPTxt K mg A) (TB : TabB base mg A.code Pc) : FnOk P w K mg base CX0 5 A.solve.1 A.solve.2 ["goal", "limits"] (sp_solve0 K Pc) := by
  refine X.solve.fn.ok sc_solve (fun vs H Q E h => ?_) (fun cdv A' outer s H vs Q E hr h => ?_)
  · obtain ⟨_, _, _, _, rfl, _⟩ := h; rfl
  · obtain ⟨vg, vl, n, lims, rfl, hg, hl, hT0, hS, k⟩ := h
    exact solve_body (k := 0) X TB hr hg hl hT0 hS (tr := tNever) pss_never (fun a v H' r _ e d => k a v H' r e d) (fun H' a L B t n1 o1 _ _ _ C hz => absurd (zero_goal C) hz)
theorem ok_solve (X : LPTxt K mg A) (TB : TabB base mg A.code Pc) : FnOk P w K mg base CX0 6 A.solve.1 A.solve.2 ["goal", "limits"] (sp_solve K Pc) := by
  refine X.solve.fn.ok sc_solve (fun vs H Q E h => ?_) (fun cdv A' outer s H vs Q E hr h => ?_)
  · obtain ⟨_, _, _, _, rfl, _⟩ := h; rfl
  · obtain ⟨vg, vl, goal, lims, rfl, hg, hl, hT0, hS, hS0, g1, k⟩ := h
    have ok_Tableau_prices : ∀ {P : Program} {w : World} {base : Heap} (X : LPTxt K mg A), FnOk P w K mg base CX0 2 A.Tableau_prices.1 A.Tableau_prices.2 ["self", "line", "scale"] (sp_prices K (TT1 Pc) A.Tableau) := fun X => ok_Tableau_prices X
    have ok_solve : ∀ (X : LPTxt K mg A), FnOk P w K mg base CX0 5 A.solve.1 A.solve.2 ["goal", "limits"] (sp_solve0 K Pc) := fun X => ok_solve0 X TB
    obtain ⟨ga, gs, rfl, hgs, hgl, hge⟩ := dp_v hg
    refine solve_body (k := 1) X TB hr hg hl hT0 hS (tr := _) (pss_cons (ps_set (i := 9) sc_solve.nd rfl (Or.inl rfl) (pe_meth (pv 2) X.cl_Tableau X.Tableau_prices.m (ok_Tableau_prices X) (hr.mono (by decide)) X.Tableau_prices.b .nil pass0 (pa_cons (kfld (K := K) (pv 2) rfl) (pa_cons pe_int pa_nil))))
  (pss_cons (ps_set (i := 10) sc_solve.nd rfl (Or.inl rfl) (pe_call (ok_solve X) (hr.mono (by decide)) rfl X.solve.g X.solve.fn.kp X.solve.b .nil pass0 (pa_cons (pe_op (krepT (K := K)) (pe_tup (pa_cons (pe_glob (v := V.ref A.ZERO) rfl X.g_ZERO rfl) pa_nil)) (pe_callB (klen (K := K)) (by rfl) X.n_len (by decide +kernel) (pa_cons (pv 0) pa_nil))) (pa_cons (pv 1) pa_nil))))
  (pss_one (ps_ret (pe_ifExp (pt_cmpR op_eq (pe_ix (kix_tup (K := K)) (pv 10) pe_int (fun _ _ => rfl)) pe_str (nomark _)) (pe_tup (pa_cons pe_str (pa_cons (pe_ix (kix_tup (K := K)) (pv 10) pe_int (fun _ _ => rfl)) (pa_cons (pv 9) pa_nil)))) (pv 10)))))) (fun a v H' r _ e d => k a v H' r e d) (fun H1 a L B t n1 o1 ex1 hT G C hz => ?_)
    obtain ⟨dx, F, G', W, rs, hT1⟩ := hT
    have Fi := fit_of hS G
    obtain ⟨Fa, hsc⟩ := cres_facts (.none C hz)
    obtain ⟨u1, u2⟩ := unit_le hS G
    have tall : t.many + t.factors.length ≤ lims.length + goal.length := by rw [G.many, Fa.len]; omega
    have ln := G.wn
    have sz := hS.init.sz
    -- ray
    refine seq_of (fun σ H2 => ∃ vr, σ = [some (.ref ga), some vl, some (.ref a), some (.str "none"), some .non, none, none, none, none, some vr, none] ∧ Ex (TT1 Pc) No H1 H2 ∧ Dp K H2 vr (dv (pricesL t t.wants 1))) (fun N hN => ?_) ?_
    · refine ⟨_, rfl, a, _, _, rfl, hT1.ins, lk_meth (by decide +kernel), _, rfl, a, _, _, _, _, rfl, hT1.ins, X.cl_Tableau, X.na_wants, lk_wants,
        a, L, B, t, W, t.wants, 1, rfl, ⟨_, _, _, _, _, hT1⟩, hT1.w, by omega, by omega, Fi.w, Fi.u, sm_one, fac_sm hS Fa, fun i hi => low_prices hS G _ (by omega) (by show t.unit.natAbs * 1 < _; omega), fun vx H4 ex4 dx4 => ?_⟩
      exact hN _ _ ⟨vx, rfl, ex4, dx4⟩
    rintro σ H2 ⟨vr, rfl, ex2, dr⟩
    have exA : Ex (TT1 Pc) No H H2 := ex1.trans ex2
    -- other
    refine seq_of (fun σ H3 => ∃ vo a0, σ = [some (.ref ga), some vl, some (.ref a), some (.str "none"), some .non, none, none, none, none, some vr, some vo] ∧ Ex (TT1 Pc) No H2 H3 ∧ Dp K H3 vo (dans a0) ∧ Run lims (List.replicate goal.length 0) a0) (fun N hN => ?_) ?_
    · refine ⟨by show 1 ≤ sizeLine; decide, fun p hp => ?_⟩
      have exp : Ex (TT1 Pc) No H2 (upd H2 p (.tup [.ref A.ZERO])) := Ex.new hp
      have go : ∀ vz H4, Ex (TT1 Pc) No H2 H4 → Dp K H4 vz (dv (List.replicate goal.length 0)) → sp_solve0 K Pc [vz, vl] H4 (fun x H1_1 => N (([some (.ref ga), some vl, some (.ref a), some (.str "none"), some .non, none, none, none, none, some vr, none] : L2.St).set 10 (some x)) H1_1) E0 := fun vz H4 ex4 dz =>
        ⟨vz, vl, goal.length, lims, rfl, dz, dp_tu (exA.trans ex4).tu (flat_dlims _) hl, (exA.trans ex4).t hT0, hS0, fun a0 v H5 r5 ex5 d5 => hN _ _ ⟨v, a0, rfl, ex4.trans ex5, d5, r5⟩⟩
      refine ⟨_, rfl, ga, gs, rfl, .inr ((exA.trans exp).tu.sqT hgs), p, _, _, rfl, rfl, .inl (.inl upd_same), by simp, ?_, by omega, by show 1 ≤ 1000; omega, fun h1 => ?_, fun h2 p2 hp2 => ?_⟩
      · have := hS.pos; omega
      · have en : goal.length = 1 := by omega
        refine ⟨_, rfl, go _ _ exp ?_⟩
        rw [en]
        exact .tup (.inl (.inl upd_same)) (.cons (dp_zero X _) .nil)
      · have exp2 := Ex.new (T := TT1 Pc) (S := No) (o := .tup (List.replicate ((gs.length : Nat) : Int).toNat [V.ref A.ZERO]).flatten) hp2
        refine ⟨_, rfl, go _ _ (exp.trans exp2) (.tup (.inl (.inl upd_same)) ?_)⟩
        have e3 : ((gs.length : Nat) : Int).toNat = goal.length := by omega
        rw [rep_flat, rep_q, e3]
        exact dpAll_rep (dp_zero X _) _
    rintro σ H3 ⟨vo, a0, rfl, ex3, d3, r3⟩
    cases a0 with
    | best q x p =>
      obtain ⟨ao, os, rfl, ho, hoe⟩ := dp_tup d3
      obtain ⟨o0, o1, o2, o3, rfl, h0, h1, h2, h3⟩ : ∃ o0 o1 o2 o3, os = [o0, o1, o2, o3] ∧ Dp K H3 o0 (.str "best") ∧ Dp K H3 o1 (dq q) ∧ Dp K H3 o2 (dv x) ∧ Dp K H3 o3 (dv p) := by
        cases hoe with
        | cons a1 a2 => cases a2 with
          | cons a2 a3 => cases a3 with
            | cons a3 a4 => cases a4 with
              | cons a4 a5 => cases a5; exact ⟨_, _, _, _, rfl, a1, a2, a3, a4⟩
      have e0 := dp_str h0
      subst e0
      refine ⟨_, rfl, ao, _, _, _, rfl, rfl, ho, at0_cons, rfl, _, rfl, iteYd rfl ?_⟩
      refine ⟨_, rfl, ao, _, _, o2, rfl, rfl, ho, rfl, _, rfl, by show 3 ≤ sizeLine; decide, fun p5 hp5 => ?_⟩
      have exp : Ex (TT1 Pc) No H3 (upd H3 p5 (.tup [.str "endless", o2, vr])) := Ex.new hp5
      exact k _ _ _ (.endless C hz r3) (exA.trans (ex3.trans exp)) (.tup (.inl (.inl upd_same)) (.cons (.str _) (.cons (dp_tu exp.tu (flat_dv _) h2) (.cons (dp_tu (ex3.trans exp).tu (flat_dv _) dr) .nil))))
    | empty p =>
      obtain ⟨ao, os, rfl, ho, hoe⟩ := dp_tup d3
      obtain ⟨o0, o1, rfl, h0⟩ : ∃ o0 o1, os = [o0, o1] ∧ Dp K H3 o0 (.str "empty") := by
        cases hoe with
        | cons a1 a2 => cases a2 with
          | cons a2 a3 => cases a3; exact ⟨_, _, rfl, a1⟩
      have e0 := dp_str h0
      subst e0
      refine ⟨_, rfl, ao, _, _, _, rfl, rfl, ho, at0_cons, rfl, _, rfl, iteNd (by intro z; injection z with z; exact absurd z (by decide +kernel)) ?_⟩
      exact ⟨_, rfl, k _ _ _ (.none C hz r3) (exA.trans ex3) d3⟩
    | endless x y =>
      cases r3 with
      | endless C' hz' _ => exact absurd (zero_goal C') hz'
end WB
end

section
set_option Elab.async false
set_option linter.all false
set_option maxRecDepth 100000
set_option maxHeartbeats 2000000
set_option exponentiation.threshold 1000000
namespace WB
open PySem PySem.Spec PyProof.Rows L2 LamX LP
variable {P : Program} {w : World} {K : PySem.W.Frag} {mg : Str → Option Value} {base : Heap} {A : LPA} {T : List (Addr × Str)} {Pc : Addr}

/-! ### what is a ratio, a vector, a program: said of such -/
def Yes (T : List (Addr × Str)) (H : Hp) (Q : VK) : Prop := ∀ H', Ex T No H H' → Q (.bl true) H'
theorem tyx_tup {H : Hp} {a : Addr} {xs : List V} (h : SqT K H a xs) : TyX K H (.ref a) (.type "tuple") := by
  rcases h with (h | ⟨o, h⟩) | ⟨o, its, n, h, hc, _⟩
  · exact .base (.tup h)
  · exact .fTuple h
  · exact .kTuple h hc
section
variable (K T)
def sp_is_whole : Sp := fun vs H Q _ => ∃ i : Int, vs = [.int i] ∧ Yes T H Q
def sp_is_ratio : Sp := fun vs H Q _ => ∃ x q, vs = [x] ∧ Dp K H x (dq q) ∧ Yes T H Q
def sp_is_vector : Sp := fun vs H Q _ => ∃ x xs, vs = [x] ∧ Dp K H x (dv xs) ∧ 1 ≤ xs.length ∧ xs.length ≤ 200 ∧ Yes T H Q
def sp_is_limit : Sp := fun vs H Q _ => ∃ (x : V) (l : List Rat × Rat), vs = [x, .int (l.1.length : Nat)] ∧ Dp K H x (dlim l) ∧ 1 ≤ l.1.length ∧ l.1.length ≤ 200 ∧ Yes T H Q
/-- the sizes of a program -/
structure ProgOk (goal : List Rat) (lims : Lims) : Prop where
  g1 : 1 ≤ goal.length
  g2 : goal.length ≤ 40
  l2 : lims.length ≤ 200
  w : ∀ l ∈ lims, l.1.length = goal.length
def sp_is_program : Sp := fun vs H Q _ => ∃ x goal lims, vs = [x] ∧ Dp K H x (dprog goal lims) ∧ ProgOk goal lims ∧ Yes T H Q
def sp_need_program : Sp := fun vs H Q _ => ∃ x goal lims, vs = [x] ∧ Dp K H x (dprog goal lims) ∧ ProgOk goal lims ∧ ∀ H', Ex T No H H' → Q .non H'
end
theorem yes_int {H : Hp} {xs : List V} {Z : V → Hp → Prop} {x : V} {n : String} {t : String} {b : Bool} (ht : TyX K H x (.type t)) (hk : PySem.W.kitOne K (.type t) (.type n) = some b) (h : Z (.bl b) H) : rIsi K [x, .ty n] H Z :=
  ⟨x, .ty n, .type t, .type n, b, rfl, .ty _, ht, hk, h⟩
theorem ok_is_whole (X : LPTxt K mg A) : FnOk P w K mg base CX0 1 A.is_whole.1 A.is_whole.2 ["value"] (sp_is_whole T) := by
  refine X.is_whole.fn.ok sc_is_whole (fun vs H Q E h => ?_) (fun cdv A' outer s H vs Q E hr h => ?_)
  · obtain ⟨_, rfl, _⟩ := h; rfl
  · obtain ⟨i, rfl, k⟩ := h
    refine ⟨_, (pss_one (ps_ret (pe_and (pe_callB (kisi (K := K)) (by rfl) X.n_isinstance (by decide +kernel) (pa_cons (pv 0) (pa_cons (pe_bltn (v := V.ty "int") (u := Value.type "int") (by rfl) X.n_int (by decide +kernel) rfl) pa_nil))) (pe_one (pe_not (pe_callB (kisi (K := K)) (by rfl) X.n_isinstance (by decide +kernel) (pa_cons (pv 0) (pa_cons (pe_bltn (v := V.ty "bool") (u := Value.type "bool") (by rfl) X.n_bool (by decide +kernel) rfl) pa_nil)))))))), ?_⟩
    refine ⟨_, rfl, _, _, _, _, _, rfl, .ty _, (.base (.int i)), (kit_ty (r := true) (by decide +kernel)), _, rfl, iteY rfl ?_⟩
    exact ⟨_, rfl, _, _, _, _, _, rfl, .ty _, (.base (.int i)), (kit_ty (r := false) (by decide +kernel)), _, rfl, k _ Ex.refl⟩
/-- a list of Trues -/
theorem trues {n : Nat} {ys : List V} (hl : ys.length = (kept (fun _ => true) n).length) (h : ∀ (j : Nat) (y : V) (i : Nat), ys[j]? = some y → (kept (fun _ => true) n)[j]? = some i → y = .bl true) : ys = (List.replicate n true).map V.bl := by
  rw [kept_tlen] at hl
  refine List.ext_getElem? fun j => ?_
  by_cases hj : j < n
  · rw [List.getElem?_eq_getElem (by omega), h j _ j (List.getElem?_eq_getElem (by omega)) (kept_get hj), List.getElem?_map, List.getElem?_replicate, if_pos hj]; rfl
  · rw [List.getElem?_eq_none (by omega), List.getElem?_eq_none (by rw [List.length_map, List.length_replicate]; omega)]
theorem all_true (n : Nat) : (List.replicate n true).all id = true := by simp
theorem bls_of {n : Nat} {ys : List V} (b : Bool) (hl : ys.length = (kept (fun _ => true) n).length) (h : ∀ (j : Nat) (y : V) (i : Nat), ys[j]? = some y → (kept (fun _ => true) n)[j]? = some i → y = .bl b) : ys = (List.replicate n b).map V.bl := by
  rw [kept_tlen] at hl
  refine List.ext_getElem? fun j => ?_
  by_cases hj : j < n
  · rw [List.getElem?_eq_getElem (by omega), h j _ j (List.getElem?_eq_getElem (by omega)) (kept_get hj), List.getElem?_map, List.getElem?_replicate, if_pos hj]; rfl
  · rw [List.getElem?_eq_none (by omega), List.getElem?_eq_none (by rw [List.length_map, List.length_replicate]; omega)]
theorem ok_is_ratio (X : LPTxt K mg A) : FnOk P w K mg base CX0 2 A.is_ratio.1 A.is_ratio.2 ["value"] (sp_is_ratio K T) := by
  refine X.is_ratio.fn.ok sc_is_ratio (fun vs H Q E h => ?_) (fun cdv A' outer s H vs Q E hr h => ?_)
  · obtain ⟨_, _, rfl, _⟩ := h; rfl
  · obtain ⟨x, q, rfl, hx, k⟩ := h
    obtain ⟨p, rfl, hp⟩ := dp_q hx
    have ok_is_whole : ∀ {P : Program} {w : World} {base : Heap} (X : LPTxt K mg A), FnOk P w K mg base CX0 1 A.is_whole.1 A.is_whole.2 ["value"] (sp_is_whole T) := fun X => ok_is_whole X
    refine ⟨_, (pss_cons (ps_if (PW.pt (pw_or (pt_not (pt_val (pe_callB (kisi (K := K)) (by rfl) X.n_isinstance (by decide +kernel) (pa_cons (pv 0) (pa_cons (pe_bltn (v := V.ty "tuple") (u := Value.type "tuple") (by rfl) X.n_tuple (by decide +kernel) rfl) pa_nil))))) (pw_or (pt_cmpR op_ne (pe_callB (klen (K := K)) (by rfl) X.n_len (by decide +kernel) (pa_cons (pv 0) pa_nil)) pe_int (nomark _)) (pw_or1 (pt_not (pt_val (pe_callB (kall (K := K) rfl) (by rfl) X.n_all (by decide +kernel) (pa_cons (pe_lc (own := [("part", 1)]) (tt := tYes) rfl sc_is_ratio.nd  (kpi_tup (K := K) (pv 0)) (blkOk_by (N := ["value", "part"]) (sc := defScope s_is_ratio) (by decide +kernel)) (fun _ _ _ _ _ => (pg_name (i := 1) sc_is_ratio.nd rfl (Or.inl rfl))) (fun _ _ _ _ _ => pts_nil) (fun _ _ _ _ _ => (pe_call (ok_is_whole X) (hr.mono (by decide)) rfl X.is_whole.g X.is_whole.fn.kp X.is_whole.b .nil pass0 (pa_cons (pv 1) pa_nil)))) pa_nil)))))))) (pss_one (ps_ret pe_bl)) pss_nil)
  (pss_one (ps_ret (pe_and (pe_cmpR op_gt (pe_ix (kix_tup (K := K)) (pv 0) pe_int (fun _ _ => rfl)) pe_int (nomark _)) (pe_one (pe_cmpR op_eq (pe_callBfun cr_gcd (by rfl) X.g_gcd (pa_cons (pe_ix (kix_tup (K := K)) (pv 0) pe_int (fun _ _ => rfl)) (pa_cons (pe_ix (kix_tup (K := K)) (pv 0) pe_int (fun _ _ => rfl)) pa_nil))) pe_int (nomark _))))))), ?_⟩
    refine seq_of (fun σ H1 => σ = [some (.ref p), none] ∧ Ex T No H H1) (fun N hN => ?_) ?_
    · refine ⟨_, rfl, _, _, _, _, _, rfl, .ty _, (tyx_tup hp), (kit_ty (r := true) (by decide +kernel)), _, rfl, iteN (by decide) ?_⟩
      refine ⟨_, rfl, p, _, rfl, .inr hp, rfl, _, rfl, iteNS rfl ?_⟩
      refine ⟨_, rfl, p, rfl, ⟨_, hp⟩, lc_src (T := T) (src_tup (K := K) (a := p) (xs := [.int q.num, .int q.den])) two_line (P := fun D j y _ => y = .bl true) (keep := fun _ => true) (fun D H5 hD ex => (ex.tuD hD).sqT hp) (fun D j y H5 H6 _ _ _ h => h)
          (fun D j x2 H5 H6 R hD hacc hj ex hY h1 h2 => ?_) (fun D zs H1 hD ex1 hys hl2 hP => ?_)⟩
      · obtain ⟨e1, rfl⟩ := hY
        obtain ⟨i, rfl⟩ : ∃ i : Int, x2 = .int i := by
          have hj : j < 2 := hj
          match j, hj with
          | 0, _ => simp at e1; exact ⟨_, e1.symm⟩
          | 1, _ => simp at e1; exact ⟨_, e1.symm⟩
        exact ⟨rfl, _, rfl, i, rfl, fun H7 ex7 => h1 rfl _ _ ex7 rfl⟩
      · have ez := trues hl2 hP
        subst ez
        refine ⟨D, _, rfl, .inl (.inl hys), _, rfl, ?_⟩
        rw [all_true]
        exact iteN (by decide) (hN _ _ ⟨rfl, ex1⟩)
    rintro σ H1 ⟨rfl, ex1⟩
    have hp1 := ex1.sqT hp
    refine ⟨_, rfl, p, _, _, _, rfl, rfl, hp1, at1_, _, _, rfl, rfl, _, rfl, iteYd (by exact_mod_cast q.den_pos) ?_⟩
    refine ⟨_, rfl, p, _, _, _, rfl, rfl, hp1, at0_, _, rfl, p, _, _, _, rfl, rfl, hp1, at1_, _, _, rfl, rfl, ?_⟩
    have eg : Nat.gcd q.num.natAbs (q.den : Int).natAbs = 1 := by rw [Int.natAbs_natCast]; exact q.reduced
    rw [eg]
    exact k _ ex1
theorem ok_is_vector (X : LPTxt K mg A) : FnOk P w K mg base CX0 3 A.is_vector.1 A.is_vector.2 ["value"] (sp_is_vector K T) := by
  refine X.is_vector.fn.ok sc_is_vector (fun vs H Q E h => ?_) (fun cdv A' outer s H vs Q E hr h => ?_)
  · obtain ⟨_, _, rfl, _⟩ := h; rfl
  · obtain ⟨x, xs, rfl, hx, l1, l2, k⟩ := h
    obtain ⟨p, vs, rfl, hp, hl, he⟩ := dp_v hx
    have ok_is_ratio : ∀ {P : Program} {w : World} {base : Heap} (X : LPTxt K mg A), FnOk P w K mg base CX0 2 A.is_ratio.1 A.is_ratio.2 ["value"] (sp_is_ratio K T) := fun X => ok_is_ratio X
    refine ⟨_, (pss_one (ps_ret (pe_and (pe_callB (kisi (K := K)) (by rfl) X.n_isinstance (by decide +kernel) (pa_cons (pv 0) (pa_cons (pe_bltn (v := V.ty "tuple") (u := Value.type "tuple") (by rfl) X.n_tuple (by decide +kernel) rfl) pa_nil))) (pe_and (pe_chain op_le op_le pe_int (pe_callB (klen (K := K)) (by rfl) X.n_len (by decide +kernel) (pa_cons (pv 0) pa_nil)) (pe_glob (v := V.int 200) rfl X.g_MOST.choose_spec ⟨_, rfl⟩)) (pe_one (pe_callB (kall (K := K) rfl) (by rfl) X.n_all (by decide +kernel) (pa_cons (pe_lc (own := [("part", 1)]) (tt := tYes) rfl sc_is_vector.nd  (kpi_tup (K := K) (pv 0)) (blkOk_by (N := ["value", "part"]) (sc := defScope s_is_vector) (by decide +kernel)) (fun _ _ _ _ _ => (pg_name (i := 1) sc_is_vector.nd rfl (Or.inl rfl))) (fun _ _ _ _ _ => pts_nil) (fun _ _ _ _ _ => (pe_call (ok_is_ratio X) (hr.mono (by decide)) rfl X.is_ratio.g X.is_ratio.fn.kp X.is_ratio.b .nil pass0 (pa_cons (pv 1) pa_nil)))) pa_nil))))))), ?_⟩
    have nl : (200 : Nat) ≤ sizeLine := by decide
    refine ⟨_, rfl, _, _, _, _, _, rfl, .ty _, (tyx_tup hp), (kit_ty (r := true) (by decide +kernel)), _, rfl, iteY rfl ?_⟩
    refine ⟨_, rfl, p, _, rfl, .inr hp, _, _, rfl, rfl, _, rfl, iteYd (by omega) ?_⟩
    refine ⟨_, _, rfl, rfl, _, rfl, iteYd (by omega) ?_⟩
    refine ⟨_, rfl, p, rfl, ⟨_, hp⟩, lc_src (T := T) (src_tup (K := K) (a := p) (xs := vs)) (by omega) (P := fun D j y _ => y = .bl true) (keep := fun _ => true) (fun D H5 hD ex => (ex.tuD hD).sqT hp) (fun D j y H5 H6 _ _ _ h => h)
          (fun D j x2 H5 H6 R hD hacc hj ex hY h1 h2 => ?_) (fun D zs H1 hD ex1 hys hl2 hP => ?_)⟩
    · obtain ⟨e1, rfl⟩ := hY
      obtain ⟨q, _, d⟩ := he j x2 e1
      exact ⟨rfl, _, rfl, x2, q, rfl, dp_tu (ex.tuD hD) rfl d, fun H7 ex7 => h1 rfl _ _ ex7 rfl⟩
    · have ez := trues hl2 hP
      subst ez
      refine ⟨D, _, rfl, .inl (.inl hys), ?_⟩
      rw [all_true]
      exact k _ ex1
theorem ok_is_limit (X : LPTxt K mg A) : FnOk P w K mg base CX0 4 A.is_limit.1 A.is_limit.2 ["value", "width"] (sp_is_limit K T) := by
  refine X.is_limit.fn.ok sc_is_limit (fun vs H Q E h => ?_) (fun cdv A' outer s H vs Q E hr h => ?_)
  · obtain ⟨_, _, rfl, _⟩ := h; rfl
  · obtain ⟨x, l, rfl, hx, l1, l2, k⟩ := h
    obtain ⟨p, r, b, rfl, hp, hr', hb⟩ := dp_lim hx
    have ok_is_ratio : ∀ {P : Program} {w : World} {base : Heap} (X : LPTxt K mg A), FnOk P w K mg base CX0 2 A.is_ratio.1 A.is_ratio.2 ["value"] (sp_is_ratio K T) := fun X => ok_is_ratio X
    have ok_is_vector : ∀ {P : Program} {w : World} {base : Heap} (X : LPTxt K mg A), FnOk P w K mg base CX0 3 A.is_vector.1 A.is_vector.2 ["value"] (sp_is_vector K T) := fun X => ok_is_vector X
    refine ⟨_, (pss_cons (ps_if (PW.pt (pw_or (pt_not (pt_val (pe_callB (kisi (K := K)) (by rfl) X.n_isinstance (by decide +kernel) (pa_cons (pv 0) (pa_cons (pe_bltn (v := V.ty "tuple") (u := Value.type "tuple") (by rfl) X.n_tuple (by decide +kernel) rfl) pa_nil))))) (pw_or (pt_cmpR op_ne (pe_callB (klen (K := K)) (by rfl) X.n_len (by decide +kernel) (pa_cons (pv 0) pa_nil)) pe_int (nomark _)) (pw_or (pt_not (pt_val (pe_call (ok_is_vector X) (hr.mono (by decide)) rfl X.is_vector.g X.is_vector.fn.kp X.is_vector.b .nil pass0 (pa_cons (pe_ix (kix_tup (K := K)) (pv 0) pe_int (fun _ _ => rfl)) pa_nil)))) (pw_or1 (pt_not (pt_val (pe_call (ok_is_ratio X) (hr.mono (by decide)) rfl X.is_ratio.g X.is_ratio.fn.kp X.is_ratio.b .nil pass0 (pa_cons (pe_ix (kix_tup (K := K)) (pv 0) pe_int (fun _ _ => rfl)) pa_nil))))))))) (pss_one (ps_ret pe_bl)) pss_nil)
  (pss_one (ps_ret (pe_cmpR op_eq (pe_callB (klen (K := K)) (by rfl) X.n_len (by decide +kernel) (pa_cons (pe_ix (kix_tup (K := K)) (pv 0) pe_int (fun _ _ => rfl)) pa_nil)) (pv 1) (nomark _))))), ?_⟩
    refine seq_of (fun σ H1 => σ = [some (.ref p), some (.int (l.1.length : Nat))] ∧ Ex T No H H1) (fun N hN => ?_) ?_
    · refine ⟨_, rfl, _, _, _, _, _, rfl, .ty _, (tyx_tup hp), (kit_ty (r := true) (by decide +kernel)), _, rfl, iteN (by decide) ?_⟩
      refine ⟨_, rfl, p, _, rfl, .inr hp, rfl, _, rfl, iteNS rfl ?_⟩
      refine ⟨_, rfl, p, _, _, _, rfl, rfl, hp, at0_, r, l.1, rfl, hr', l1, l2, fun H1 ex1 => ⟨_, rfl, iteN (by decide) ?_⟩⟩
      refine ⟨_, rfl, p, _, _, _, rfl, rfl, ex1.sqT hp, at1_, b, l.2, rfl, dp_tu ex1.tu rfl hb, fun H2 ex2 => ⟨_, rfl, iteN (by decide) ?_⟩⟩
      exact hN _ _ ⟨rfl, ex1.trans ex2⟩
    rintro σ H1 ⟨rfl, ex1⟩
    obtain ⟨ra, rv, rfl, hra, hrl, _⟩ := dp_v hr'
    refine ⟨_, rfl, p, _, _, _, rfl, rfl, ex1.sqT hp, at0_, ra, _, rfl, .inr (ex1.sqT hra), _, rfl, rfl, ?_⟩
    rw [hrl]
    have : decide (V.int (l.1.length : Nat) = V.int (l.1.length : Nat)) = true := decide_eq_true rfl
    rw [this]
    exact k _ ex1
end WB
end

section
set_option Elab.async false
set_option linter.all false
set_option maxRecDepth 100000
set_option maxHeartbeats 2000000
set_option exponentiation.threshold 1000000
namespace WB
open PySem PySem.Spec PyProof.Rows L2 LamX LP
variable {P : Program} {w : World} {K : PySem.W.Frag} {mg : Str → Option Value} {base : Heap} {A : LPA} {T : List (Addr × Str)} {Pc : Addr}

/-! ### data alike -/
mutual
theorem eqv_refl : ∀ {d : PyData}, flatD d = true → PyData.eqv d d = true
  | .none, _ => rfl
  | .bool b, _ => by simp [PyData.eqv]
  | .int i, _ => by simp [PyData.eqv]
  | .str x, _ => by simp [PyData.eqv]
  | .tuple xs, h => by rw [flatD] at h; simp only [PyData.eqv]; exact eqvAll_refl h
  | .list _, h => by simp [flatD] at h
  | .dict _, h => by simp [flatD] at h
theorem eqvAll_refl : ∀ {ds : List PyData}, flatAll ds = true → PyData.eqvAll ds ds = true
  | [], _ => rfl
  | d :: ds, h => by
    rw [flatAll, Bool.and_eq_true] at h
    simp only [PyData.eqvAll, eqv_refl h.1, eqvAll_refl h.2, Bool.and_self]
end
theorem lay_q (q : Rat) : (dq q).canLay0 = true := rfl
theorem layAll_q : ∀ xs : List Rat, PyData.canLayAll0 (xs.map dq) = true
  | [] => rfl
  | x :: xs => by rw [List.map_cons, PyData.canLayAll0, lay_q, layAll_q xs]; rfl
theorem dep_q (q : Rat) : (dq q).depth ≤ 3 := by simp [dq, PyData.depth, PyData.depthAll]
theorem depAll_q : ∀ xs : List Rat, PyData.depthAll (xs.map dq) ≤ 3
  | [] => by simp [PyData.depthAll]
  | x :: xs => by
    have h1 := depAll_q xs
    have h2 := dep_q x
    simp only [List.map_cons, PyData.depthAll]; omega
theorem lay_v (xs : List Rat) : (dv xs).canLay0 = true := by unfold dv; rw [PyData.canLay0]; exact layAll_q xs
theorem dep_v (xs : List Rat) : (dv xs).depth ≤ 4 := by
  have := depAll_q xs
  simp only [dv, PyData.depth]; omega
theorem shaped_of {d : PyData} (h : d.canLay0 = true) (k : d.depth ≤ 64) : SeqAt.shaped d = true := by
  show (d.canLay0 && decide (d.depth ≤ 64)) = true
  rw [Bool.and_eq_true]; exact ⟨h, decide_eq_true k⟩
theorem sh_q (q : Rat) : SeqAt.shaped (dq q) = true := shaped_of (lay_q q) (by have := dep_q q; omega)
theorem sh_v (xs : List Rat) : SeqAt.shaped (dv xs) = true := shaped_of (lay_v xs) (by have := dep_v xs; omega)
def dvq (xs : List Rat) (q : Rat) : PyData := .tuple [dv xs, dq q]
theorem flat_vq (xs : List Rat) (q : Rat) : flatD (dvq xs q) = true := by unfold dvq; rw [flatD, flatAll, flatAll, flat_dv, flat_dq]; rfl
theorem sh_vq (xs : List Rat) (q : Rat) : SeqAt.shaped (dvq xs q) = true := by
  refine shaped_of ?_ ?_
  · unfold dvq; rw [PyData.canLay0, PyData.canLayAll0, PyData.canLayAll0, lay_v, lay_q]; rfl
  · have h1 := dep_v xs
    have h2 := dep_q q
    simp only [dvq, PyData.depth, PyData.depthAll]; omega
theorem dep_lim (l : List Rat × Rat) : (dlim l).depth ≤ 5 := by
  have h1 := dep_v l.1
  have h2 := dep_q l.2
  simp only [dlim, PyData.depth, PyData.depthAll]; omega
theorem lay_lim (l : List Rat × Rat) : (dlim l).canLay0 = true := by unfold dlim; rw [PyData.canLay0, PyData.canLayAll0, PyData.canLayAll0, lay_v, lay_q]; rfl
theorem sh_lims (ls : Lims) : SeqAt.shaped (dlims ls) = true := by
  have h : ∀ ls : Lims, PyData.canLayAll0 (ls.map dlim) = true ∧ PyData.depthAll (ls.map dlim) ≤ 5 := by
    intro ls
    induction ls with
    | nil => exact ⟨rfl, by simp [PyData.depthAll]⟩
    | cons l ls ih =>
      have := dep_lim l
      refine ⟨by rw [List.map_cons, PyData.canLayAll0, lay_lim, ih.1]; rfl, ?_⟩
      simp only [List.map_cons, PyData.depthAll]; omega
  refine shaped_of (by unfold dlims; rw [PyData.canLay0]; exact (h ls).1) ?_
  have := (h ls).2
  simp only [dlims, PyData.depth]; omega
theorem eqv_q (a b : Rat) : PyData.eqv (dq a) (dq b) = decide (a = b) := by
  have e : PyData.eqv (dq a) (dq b) = ((a.num == b.num) && (((a.den : Int) == (b.den : Int)) && true)) := by simp only [dq, PyData.eqv, PyData.eqvAll]
  rw [e]
  by_cases h : a = b
  · subst h; simp
  · rw [decide_eq_false h]
    by_cases h1 : a.num = b.num
    · have h2 : ¬ ((a.den : Int) = (b.den : Int)) := fun z => h (Rat.ext h1 (by exact_mod_cast z))
      rw [beq_eq_false_iff_ne.mpr h2]; simp
    · simp [h1]

/-! ### a program's parts -/
theorem at2_ {α : Type} {x y z : α} : atI [x, y, z] 2 = some z := rfl
theorem dp_prog {H : Hp} {g : List Rat} {ls : Lims} {v : V} (h : Dp K H v (dprog g ls)) : ∃ p x y, v = .ref p ∧ SqT K H p [.str "program", x, y] ∧ Dp K H x (dv g) ∧ Dp K H y (dlims ls) := by
  obtain ⟨p, xs, rfl, hs, ha⟩ := dp_tup h
  cases ha with
  | cons h1 h2 => cases h2 with
    | cons h2 h3 => cases h3 with
      | cons h3 h4 => cases h4; rw [dp_str h1] at hs; exact ⟨p, _, _, rfl, hs, h2, h3⟩
theorem ok_is_program (X : LPTxt K mg A) : FnOk P w K mg base CX0 5 A.is_program.1 A.is_program.2 ["value"] (sp_is_program K T) := by
  refine X.is_program.fn.ok sc_is_program (fun vs H Q E h => ?_) (fun cdv A' outer s H vs Q E hr h => ?_)
  · obtain ⟨_, _, _, rfl, _⟩ := h; rfl
  · obtain ⟨x, goal, lims, rfl, hx, ok, k⟩ := h
    obtain ⟨p, g, y, rfl, hp, hg, hy⟩ := dp_prog hx
    have ok_is_vector : ∀ {P : Program} {w : World} {base : Heap} (X : LPTxt K mg A), FnOk P w K mg base CX0 3 A.is_vector.1 A.is_vector.2 ["value"] (sp_is_vector K T) := fun X => ok_is_vector X
    have ok_is_limit : ∀ {P : Program} {w : World} {base : Heap} (X : LPTxt K mg A), FnOk P w K mg base CX0 4 A.is_limit.1 A.is_limit.2 ["value", "width"] (sp_is_limit K T) := fun X => ok_is_limit X
    obtain ⟨ga, gs, rfl, hgs, hgl, _⟩ := dp_v hg
    obtain ⟨la, ls, rfl, hls, hle⟩ := dp_lims hy
    have llen : ls.length = lims.length := by simpa using dpAll_len hle
    have g1 := ok.g1
    have g2 := ok.g2
    have l2 := ok.l2
    refine ⟨_, (pss_cons (ps_if (PW.pt (pw_or (pt_not (pt_val (pe_callB (kisi (K := K)) (by rfl) X.n_isinstance (by decide +kernel) (pa_cons (pv 0) (pa_cons (pe_bltn (v := V.ty "tuple") (u := Value.type "tuple") (by rfl) X.n_tuple (by decide +kernel) rfl) pa_nil))))) (pw_or (pt_cmpR op_ne (pe_callB (klen (K := K)) (by rfl) X.n_len (by decide +kernel) (pa_cons (pv 0) pa_nil)) pe_int (nomark _)) (pw_or (pt_cmpR op_ne (pe_ix (kix_tup (K := K)) (pv 0) pe_int (fun _ _ => rfl)) pe_str (nomark _)) (pw_or1 (pt_not (pt_val (pe_call (ok_is_vector X) (hr.mono (by decide)) rfl X.is_vector.g X.is_vector.fn.kp X.is_vector.b .nil pass0 (pa_cons (pe_ix (kix_tup (K := K)) (pv 0) pe_int (fun _ _ => rfl)) pa_nil))))))))) (pss_one (ps_ret pe_bl)) pss_nil)
  (pss_cons (ps_if (PW.pt (pw_or (pt_cmpR op_gt (pe_callB (klen (K := K)) (by rfl) X.n_len (by decide +kernel) (pa_cons (pe_ix (kix_tup (K := K)) (pv 0) pe_int (fun _ _ => rfl)) pa_nil)) (pe_glob (v := V.int 40) rfl X.g_MOST_PLACES.choose_spec ⟨_, rfl⟩) (nomark _)) (pw_or (pt_not (pt_val (pe_callB (kisi (K := K)) (by rfl) X.n_isinstance (by decide +kernel) (pa_cons (pe_ix (kix_tup (K := K)) (pv 0) pe_int (fun _ _ => rfl)) (pa_cons (pe_bltn (v := V.ty "tuple") (u := Value.type "tuple") (by rfl) X.n_tuple (by decide +kernel) rfl) pa_nil))))) (pw_or1 (pt_cmpR op_gt (pe_callB (klen (K := K)) (by rfl) X.n_len (by decide +kernel) (pa_cons (pe_ix (kix_tup (K := K)) (pv 0) pe_int (fun _ _ => rfl)) pa_nil)) (pe_glob (v := V.int 200) rfl X.g_MOST_LIMITS.choose_spec ⟨_, rfl⟩) (nomark _)))))) (pss_one (ps_ret pe_bl)) pss_nil)
  (pss_one (ps_ret (pe_callB (kall (K := K) rfl) (by rfl) X.n_all (by decide +kernel) (pa_cons (pe_lc (own := [("limit", 1)]) (tt := tYes) rfl sc_is_program.nd  (kpi_tup (K := K) (pe_ix (kix_tup (K := K)) (pv 0) pe_int (fun _ _ => rfl))) (blkOk_by (N := ["value", "limit"]) (sc := defScope s_is_program) (by decide +kernel)) (fun _ _ _ _ _ => (pg_name (i := 1) sc_is_program.nd rfl (Or.inl rfl))) (fun _ _ _ _ _ => pts_nil) (fun _ _ _ _ _ => (pe_call (ok_is_limit X) (hr.mono (by decide)) rfl X.is_limit.g X.is_limit.fn.kp X.is_limit.b .nil pass0 (pa_cons (pv 1) (pa_cons (pe_callB (klen (K := K)) (by rfl) X.n_len (by decide +kernel) (pa_cons (pe_ix (kix_tup (K := K)) (pv 0) pe_int (fun _ _ => rfl)) pa_nil)) pa_nil))))) pa_nil)))))), ?_⟩
    refine seq_of (fun σ H1 => σ = [some (.ref p), none] ∧ Ex T No H H1) (fun N hN => ?_) ?_
    · refine ⟨_, rfl, _, _, _, _, _, rfl, .ty _, (tyx_tup hp), (kit_ty (r := true) (by decide +kernel)), _, rfl, iteN (by decide) ?_⟩
      refine ⟨_, rfl, p, _, rfl, .inr hp, rfl, _, rfl, iteNS rfl ?_⟩
      refine ⟨_, rfl, p, _, _, _, rfl, rfl, hp, at0_cons, rfl, _, rfl, iteNS rfl ?_⟩
      refine ⟨_, rfl, p, _, _, _, rfl, rfl, hp, rfl, .ref ga, goal, rfl, hg, g1, by omega, fun H1 ex1 => ⟨_, rfl, iteN (by decide) ?_⟩⟩
      exact hN _ _ ⟨rfl, ex1⟩
    rintro σ H1 ⟨rfl, ex1⟩
    have hp1 := ex1.sqT hp
    refine seq_of (fun σ H2 => σ = [some (.ref p), none] ∧ H1 = H2) (fun N hN => ?_) ?_
    · refine ⟨_, rfl, p, _, _, _, rfl, rfl, hp1, rfl, ga, _, rfl, .inr (ex1.sqT hgs), _, _, rfl, rfl, _, rfl, iteNd (by omega) ?_⟩
      refine ⟨_, rfl, p, _, _, _, rfl, rfl, hp1, rfl, _, _, _, _, _, rfl, .ty _, (tyx_tup (ex1.sqT hls)), (kit_ty (r := true) (by decide +kernel)), _, rfl, iteN (by decide) ?_⟩
      refine ⟨_, rfl, p, _, _, _, rfl, rfl, hp1, rfl, la, _, rfl, .inr (ex1.sqT hls), _, _, rfl, rfl, _, rfl, iteNd (by omega) ?_⟩
      exact hN _ _ ⟨rfl, rfl⟩
    rintro _ _ ⟨rfl, rfl⟩
    have nl : (200 : Nat) ≤ sizeLine := by decide
    refine ⟨_, rfl, p, _, _, _, rfl, rfl, hp1, rfl, la, rfl, ⟨_, ex1.sqT hls⟩, lc_src (T := T) (src_tup (K := K) (a := la) (xs := ls)) (by omega) (P := fun D j y _ => y = .bl true) (keep := fun _ => true) (fun D H5 hD ex => (ex.tuD hD).sqT (ex1.sqT hls)) (fun D j y H5 H6 _ _ _ h => h)
          (fun D j x2 H5 H6 R hD hacc hj ex hY h1 h2 => ?_) (fun D zs H2 hD ex2 hys hl2 hP => ?_)⟩
    · obtain ⟨e1, rfl⟩ := hY
      obtain ⟨l, hl, dl⟩ := dpAll_mapget hle e1
      have hw := ok.w l (List.mem_of_getElem? hl)
      have tu : Tu H H6 := ex1.tu.trans (ex.tuD hD)
      refine ⟨rfl, _, rfl, _, rfl, p, _, _, _, rfl, rfl, tu.sqT hp, rfl, ga, _, rfl, .inr (tu.sqT hgs), x2, l, ?_, dp_tu tu (flat_dlim l) dl, by omega, by omega, fun H7 ex7 => h1 rfl _ _ ex7 rfl⟩
      rw [hgl, hw]; rfl
    · have ez := trues hl2 hP
      subst ez
      refine ⟨D, _, rfl, .inl (.inl hys), ?_⟩
      rw [all_true]
      exact k _ (ex1.trans ex2)
theorem ok_need_program (X : LPTxt K mg A) : FnOk P w K mg base CX0 6 A.need_program.1 A.need_program.2 ["program"] (sp_need_program K T) := by
  refine X.need_program.fn.ok sc_need_program (fun vs H Q E h => ?_) (fun cdv A' outer s H vs Q E hr h => ?_)
  · obtain ⟨_, _, _, rfl, _⟩ := h; rfl
  · obtain ⟨x, goal, lims, rfl, hx, ok, k⟩ := h
    have ok_is_program : ∀ {P : Program} {w : World} {base : Heap} (X : LPTxt K mg A), FnOk P w K mg base CX0 5 A.is_program.1 A.is_program.2 ["value"] (sp_is_program K T) := fun X => ok_is_program X
    refine ⟨_, (pss_one (ps_if (pt_not (pt_val (pe_call (ok_is_program X) (hr.mono (by decide)) rfl X.is_program.g X.is_program.fn.kp X.is_program.b .nil pass0 (pa_cons (pv 0) pa_nil)))) (pss_one ps_never) pss_nil)), ?_⟩
    exact ⟨_, rfl, x, goal, lims, rfl, hx, ok, fun H1 ex1 => ⟨_, rfl, iteN (by decide) (k _ ex1)⟩⟩
/-- what solving asks -/
structure AnsOk (goal : List Rat) (lims : Lims) : Prop where
  prog : ProgOk goal lims
  size : SizeOk goal lims
  size0 : SizeOk (List.replicate goal.length 0) lims
section
variable (K Pc)
def sp_answer : Sp := fun vs H Q _ => ∃ x goal lims, vs = [x] ∧ Dp K H x (dprog goal lims) ∧ Tabs (TT1 Pc) H ∧ AnsOk goal lims ∧ ∀ a v H', Run lims goal a → Ex (TT1 Pc) No H H' → Dp K H' v (dans a) → Q v H'
end
theorem ok_answer (X : LPTxt K mg A) (TB : TabB base mg A.code Pc) : FnOk P w K mg base CX0 7 A.answer.1 A.answer.2 ["program"] (sp_answer K Pc) := by
  refine X.answer.fn.ok sc_answer (fun vs H Q E h => ?_) (fun cdv A' outer s H vs Q E hr h => ?_)
  · obtain ⟨_, _, _, rfl, _⟩ := h; rfl
  · obtain ⟨x, goal, lims, rfl, hx, hT, ok, k⟩ := h
    obtain ⟨p, g, y, rfl, hp, hg, hy⟩ := dp_prog hx
    have ok_need_program : ∀ {P : Program} {w : World} {base : Heap} (X : LPTxt K mg A), FnOk P w K mg base CX0 6 A.need_program.1 A.need_program.2 ["program"] (sp_need_program K (TT1 Pc)) := fun X => ok_need_program X
    have ok_solve : ∀ (X : LPTxt K mg A), FnOk P w K mg base CX0 6 A.solve.1 A.solve.2 ["goal", "limits"] (sp_solve K Pc) := fun X => ok_solve X TB
    refine ⟨_, (pss_cons (ps_expr (pe_call (ok_need_program X) (hr.mono (by decide)) rfl X.need_program.g X.need_program.fn.kp X.need_program.b .nil pass0 (pa_cons (pv 0) pa_nil)))
  (pss_one (ps_ret (pe_call (ok_solve X) (hr.mono (by decide)) rfl X.solve.g X.solve.fn.kp X.solve.b .nil pass0 (pa_cons (pe_ix (kix_tup (K := K)) (pv 0) pe_int (fun _ _ => rfl)) (pa_cons (pe_ix (kix_tup (K := K)) (pv 0) pe_int (fun _ _ => rfl)) pa_nil)))))), ?_⟩
    refine ⟨_, rfl, _, goal, lims, rfl, hx, ok.prog, fun H1 ex1 => ?_⟩
    have hp1 := ex1.sqT hp
    exact ⟨_, rfl, p, _, _, _, rfl, rfl, hp1, rfl, _, rfl, p, _, _, _, rfl, rfl, hp1, rfl, g, y, goal, lims, rfl, dp_tu ex1.tu (flat_dv _) hg, dp_tu ex1.tu (flat_dlims _) hy, ex1.t hT, ok.size, ok.size0, by have := ok.prog.g2; omega, fun a v H2 r ex2 d => k a v H2 r (ex1.trans ex2) d⟩
end WB
end

section
set_option Elab.async false
set_option linter.all false
set_option maxRecDepth 100000
set_option maxHeartbeats 2000000
set_option exponentiation.threshold 1000000
namespace WB
open PySem PySem.Spec PyProof.Rows L2 LamX LP
variable {P : Program} {w : World} {K : PySem.W.Frag} {mg : Str → Option Value} {base : Heap} {A : LPA} {T : List (Addr × Str)} {Pc : Addr}

/-! ### what an answer must be, by lists -/
structure WithinOk (lims : Lims) (x : List Rat) : Prop where
  len : ∀ l ∈ lims, l.1.length = x.length
  sz : x.length ≤ sizeLine
  lz : lims.length ≤ sizeLine
  dot : ∀ l ∈ lims, DotOk l.1 x
  fit : ∀ l ∈ lims, Fits (sumL (dotP l.1 x)) ∧ Fits l.2
  le : ∀ l ∈ lims, l.2 ≤ sumL (dotP l.1 x)
structure SumOk (p : List Rat) (lims : Lims) (n : Nat) : Prop where
  pl : p.length = lims.length
  ne : lims ≠ []
  lz : lims.length ≤ sizeLine
  w : ∀ l ∈ lims, l.1.length = n
  n1 : 1 ≤ n
  n2 : n ≤ 1000
  mix : MixOk (List.replicate n 0) (p.zip (lims.map (·.1)))
  dot : DotOk p (lims.map (·.2))
abbrev mixOf (p : List Rat) (lims : Lims) (n : Nat) : List Rat := mixFrom (List.replicate n 0) (p.zip (lims.map (·.1)))
abbrev bdOf (p : List Rat) (lims : Lims) : Rat := sumL (dotP p (lims.map (·.2)))
section
variable (K T)
def sp_are_prices : Sp := fun vs H Q _ => ∃ x p, vs = [x, .int ((p : List Rat).length : Nat)] ∧ Dp K H x (dv p) ∧ p.length ≤ sizeLine ∧ (∀ q ∈ p, 0 ≤ q) ∧ Yes T H Q
def sp_summed : Sp := fun vs H Q _ => ∃ x y p lims n m, vs = [x, y, m] ∧ Dp K H x (dv p) ∧ Dp K H y (dlims lims) ∧ SumOk p lims n ∧ Gives K T H Q (dvq (mixOf p lims n) (bdOf p lims))
def sp_is_point : Sp := fun vs H Q _ => ∃ x y goal lims xs, vs = [x, y] ∧ Dp K H x (dprog goal lims) ∧ Dp K H y (dv xs) ∧ xs.length = goal.length ∧ 1 ≤ xs.length ∧ xs.length ≤ 200 ∧ Yes T H Q
def sp_is_within : Sp := fun vs H Q _ => ∃ x y goal lims xs, vs = [x, y] ∧ Dp K H x (dprog goal lims) ∧ Dp K H y (dv xs) ∧ WithinOk lims xs ∧ Yes T H Q
end
theorem ok_are_prices (X : LPTxt K mg A) : FnOk P w K mg base CX0 3 A.are_prices.1 A.are_prices.2 ["value", "many"] (sp_are_prices K T) := by
  refine X.are_prices.fn.ok sc_are_prices (fun vs H Q E h => ?_) (fun cdv A' outer s H vs Q E hr h => ?_)
  · obtain ⟨_, _, rfl, _⟩ := h; rfl
  · obtain ⟨x, p, rfl, hx, hz, hn, k⟩ := h
    obtain ⟨a, vs, rfl, ha, hal, hae⟩ := dp_v hx
    have ok_is_ratio : ∀ {P : Program} {w : World} {base : Heap} (X : LPTxt K mg A), FnOk P w K mg base CX0 2 A.is_ratio.1 A.is_ratio.2 ["value"] (sp_is_ratio K T) := fun X => ok_is_ratio X
    refine ⟨_, (pss_cons (ps_if (PW.pt (pw_or (pt_not (pt_val (pe_callB (kisi (K := K)) (by rfl) X.n_isinstance (by decide +kernel) (pa_cons (pv 0) (pa_cons (pe_bltn (v := V.ty "tuple") (u := Value.type "tuple") (by rfl) X.n_tuple (by decide +kernel) rfl) pa_nil))))) (pw_or1 (pt_cmpR op_ne (pe_callB (klen (K := K)) (by rfl) X.n_len (by decide +kernel) (pa_cons (pv 0) pa_nil)) (pv 1) (nomark _))))) (pss_one (ps_ret pe_bl)) pss_nil)
  (pss_one (ps_ret (pe_callB (kall (K := K) rfl) (by rfl) X.n_all (by decide +kernel) (pa_cons (pe_lc (own := [("part", 2)]) (tt := tYes) rfl sc_are_prices.nd  (kpi_tup (K := K) (pv 0)) (blkOk_by (N := ["value", "many", "part"]) (sc := defScope s_are_prices) (by decide +kernel)) (fun _ _ _ _ _ => (pg_name (i := 2) sc_are_prices.nd rfl (Or.inl rfl))) (fun _ _ _ _ _ => pts_nil) (fun _ _ _ _ _ => (pe_and (pe_call (ok_is_ratio X) (hr.mono (by decide)) rfl X.is_ratio.g X.is_ratio.fn.kp X.is_ratio.b .nil pass0 (pa_cons (pv 2) pa_nil)) (pe_one (pe_cmpR op_ge (pe_ix (kix_tup (K := K)) (pv 2) pe_int (fun _ _ => rfl)) pe_int (nomark _)))))) pa_nil))))), ?_⟩
    refine seq_of (fun σ H1 => σ = [some (.ref a), some (.int (p.length : Nat)), none] ∧ H = H1) (fun N hN => ?_) ?_
    · refine ⟨_, rfl, _, _, _, _, _, rfl, .ty _, (tyx_tup ha), (kit_ty (r := true) (by decide +kernel)), _, rfl, iteN (by decide) ?_⟩
      refine ⟨_, rfl, a, _, rfl, .inr ha, _, rfl, rfl, _, rfl, ?_⟩
      rw [hal]
      exact iteNS rfl (hN _ _ ⟨rfl, rfl⟩)
    rintro _ _ ⟨rfl, rfl⟩
    refine ⟨_, rfl, a, rfl, ⟨_, ha⟩, lc_src (T := T) (src_tup (K := K) (a := a) (xs := vs)) (by omega) (P := fun D j y _ => y = .bl true) (keep := fun _ => true) (fun D H5 hD ex => (ex.tuD hD).sqT ha) (fun D j y H5 H6 _ _ _ h => h)
          (fun D j x2 H5 H6 R hD hacc hj ex hY h1 h2 => ?_) (fun D zs H2 hD ex2 hys hl2 hP => ?_)⟩
    · obtain ⟨e1, rfl⟩ := hY
      obtain ⟨q, hq, d⟩ := hae j x2 e1
      have d2 := dp_tu (ex.tuD hD) rfl d
      refine ⟨rfl, _, rfl, x2, q, rfl, d2, fun H7 ex7 => ⟨_, rfl, iteY rfl ?_⟩⟩
      obtain ⟨pq, rfl, hpq⟩ := dp_q d2
      have hq0 : 0 ≤ q.num := Rat.num_nonneg.mpr (hn q (List.mem_of_getElem? hq))
      refine ⟨_, rfl, pq, _, _, _, rfl, rfl, ex7.sqT hpq, at0_, _, _, rfl, rfl, h1 rfl _ _ ex7 ?_⟩
      show V.bl (decide ((0 : Int) ≤ q.num)) = V.bl true
      rw [decide_eq_true hq0]
    · have ez := trues hl2 hP
      subst ez
      refine ⟨D, _, rfl, .inl (.inl hys), ?_⟩
      rw [all_true]
      exact k _ ex2
theorem eqv_lims_nil {l : List Rat × Rat} {ls : Lims} : PyData.eqv (dlims (l :: ls)) (.tuple []) = false := by simp only [dlims, List.map_cons, PyData.eqv, PyData.eqvAll]
theorem ok_summed (X : LPTxt K mg A) : FnOk P w K mg base CX0 5 A.summed.1 A.summed.2 ["weights", "limits", "width"] (sp_summed K T) := by
  refine X.summed.fn.ok sc_summed (fun vs H Q E h => ?_) (fun cdv A' outer s H vs Q E hr h => ?_)
  · obtain ⟨_, _, _, _, _, _, rfl, _⟩ := h; rfl
  · obtain ⟨x, y, p, lims, n, m, rfl, hx, hy, ok, k⟩ := h
    obtain ⟨a, vs, rfl, ha, hal, hae⟩ := dp_v hx
    obtain ⟨la, ls, rfl, hls, hle⟩ := dp_lims hy
    have llen : ls.length = lims.length := by simpa using dpAll_len hle
    have pl := ok.pl
    have lz := ok.lz
    have ok_mixed : ∀ {P : Program} {w : World} {base : Heap} (X : LPTxt K mg A), FnOk P w K mg base CX0 4 A.mixed.1 A.mixed.2 ["weights", "rows"] (sp_mixed K T) := fun X => ok_mixed X
    have ok_times : ∀ {P : Program} {w : World} {base : Heap} (X : LPTxt K mg A), FnOk P w K mg base CX0 2 A.times.1 A.times.2 ["one", "other"] (sp_times K T) := fun X => ok_times X
    have ok_total : ∀ {P : Program} {w : World} {base : Heap} (X : LPTxt K mg A), FnOk P w K mg base CX0 3 A.total.1 A.total.2 ["ratios"] (sp_total K T) := fun X => ok_total X
    refine ⟨_, (pss_cons (ps_set (i := 3) sc_summed.nd rfl (Or.inl rfl) (pe_ifExp (pt_cmpR (kneD (K := K) (hu64 hr)) (pv 1) (pe_tup pa_nil) (nomark _)) (pe_call (ok_mixed X) (hr.mono (by decide)) rfl X.mixed.g X.mixed.fn.kp X.mixed.b .nil pass0 (pa_cons (pv 0) (pa_cons (pe_lc (own := [("limit", 4)]) (tt := tYes) rfl sc_summed.nd  (kpi_tup (K := K) (pv 1)) (blkOk_by (N := ["weights", "limits", "width", "row", "limit", "weight"]) (sc := defScope s_summed) (by decide +kernel)) (fun _ _ _ _ _ => (pg_name (i := 4) sc_summed.nd rfl (Or.inl rfl))) (fun _ _ _ _ _ => pts_nil) (fun _ _ _ _ _ => (pe_ix (kix_tup (K := K)) (pv 4) pe_int (fun _ _ => rfl)))) pa_nil))) (pe_op (krepT (K := K)) (pe_tup (pa_cons (pe_glob (v := V.ref A.ZERO) rfl X.g_ZERO rfl) pa_nil)) (pv 2))))
  (pss_one (ps_ret (pe_tup (pa_cons (pv 3) (pa_cons (pe_call (ok_total X) (hr.mono (by decide)) rfl X.total.g X.total.fn.kp X.total.b .nil pass0 (pa_cons (pe_lc (own := [("weight", 5), ("limit", 4)]) (tt := tYes) rfl sc_summed.nd  (kpi_zipA (K := K) (by rfl) X.n_zip (pa_cons (pv 0) (pa_cons (pv 1) pa_nil))) (blkOk_by (N := ["weights", "limits", "width", "row", "limit", "weight"]) (sc := defScope s_summed) (by decide +kernel)) (fun _ _ _ _ _ => (kpg_tup (K := K) (n := 2) rfl (pgs_cons (pg_name (i := 5) sc_summed.nd rfl (Or.inl rfl)) (pgs_cons (pg_name (i := 4) sc_summed.nd rfl (Or.inl rfl)) pgs_nil)))) (fun _ _ _ _ _ => pts_nil) (fun _ _ _ _ _ => (pe_call (ok_times X) (hr.mono (by decide)) rfl X.times.g X.times.fn.kp X.times.b .nil pass0 (pa_cons (pv 5) (pa_cons (pe_ix (kix_tup (K := K)) (pv 4) pe_int (fun _ _ => rfl)) pa_nil))))) pa_nil)) pa_nil)))))), ?_⟩
    refine seq_of (fun σ H1 => ∃ v, σ = [some (.ref a), some (.ref la), some m, some v, none, none] ∧ Ex T No H H1 ∧ Dp K H1 v (dv (mixOf p lims n))) (fun N hN => ?_) ?_
    · refine ⟨_, rfl, Nat.zero_le _, fun t ht => ?_⟩
      have ext : Ex T No H (upd H t (.tup [])) := Ex.new ht
      refine ⟨_, .tuple [], dp_tu ext.tu (flat_dlims _) hy, .tup (.inl (.inl upd_same)) .nil, sh_lims _, by decide, _, rfl, ?_⟩
      have en : PyData.eqv (dlims lims) (.tuple []) = false := by
        cases hc : lims with
        | nil => exact absurd hc ok.ne
        | cons l r => exact eqv_lims_nil
      rw [en]
      refine iteY rfl ?_
      have hls' := ext.sqT hls
      refine ⟨_, rfl, _, rfl, la, rfl, ⟨_, hls'⟩, lc_src (T := T) (src_tup (K := K) (a := la) (xs := ls)) (by omega) (P := fun D j y H5 => ∃ l, lims[j]? = some l ∧ Dp K H5 y (dv l.1)) (keep := fun _ => true) (fun D H5 hD ex => (ex.tuD hD).sqT hls') (fun D j y H5 H6 hD hacc ex ⟨l, h1, h2⟩ => ⟨l, h1, stab_D _ (flat_dv _) hacc ex h2⟩)
            (fun D j x2 H5 H6 R hD hacc hj ex hY h1 h2 => ?_) (fun D zs H2 hD ex2 hys hl2 hP => ?_)⟩
      · obtain ⟨e1, rfl⟩ := hY
        obtain ⟨l, hl, dl⟩ := dpAll_mapget hle e1
        obtain ⟨p2, r2, b2, rfl, g1, g2, g3⟩ := dp_lim (dp_tu (ext.tu.trans (ex.tuD hD)) (flat_dlim l) dl)
        exact ⟨rfl, _, rfl, p2, _, _, _, rfl, rfl, g1, at0_, h1 rfl _ _ Ex.refl ⟨l, hl, g2⟩⟩
      · have hz : DpAll K H2 zs ((lims.map (·.1)).map dv) := datas_of hl2 (by rw [List.length_map, List.length_map, llen]) fun j y k e1 e2 => by
          obtain ⟨l, h1, h2⟩ := hP j y k e1 e2
          exact ⟨_, by rw [List.getElem?_map, List.getElem?_map, h1]; rfl, h2⟩
        refine ⟨.ref a, D, zs, p, lims.map (·.1), n, rfl, dp_tu (ext.trans ex2).tu (flat_dv _) hx, .inl (.inl hys), hz, by rw [List.length_map]; exact pl, ?_, ok.n1, ok.n2, ok.mix, fun v H3 ex3 d => ?_⟩
        · cases hc : lims with
          | nil => exact absurd hc ok.ne
          | cons l r =>
            have := ok.w l (by rw [hc]; exact List.mem_cons_self)
            simp [this]
        · exact hN _ _ ⟨v, rfl, ext.trans (ex2.trans ex3), d⟩
    rintro σ H1 ⟨v, rfl, ex1, dvv⟩
    have ha1 := ex1.sqT ha
    have hls1 := ex1.sqT hls
    refine ⟨_, rfl, _, rfl, _, rfl, a, la, _, _, rfl, .inr ⟨ha1, hls1, lc_src (T := T) (src_zipT (K := K) (a := a) (b := la) (by omega)) (by omega) (P := fun D j y H5 => ∃ d, ((dotP p (lims.map (·.2))).map dq)[j]? = some d ∧ flatD d = true ∧ Dp K H5 y d) (keep := fun _ => true) (fun D H5 hD ex => ⟨(ex.tuD hD).sqT ha1, (ex.tuD hD).sqT hls1⟩) (fun D j y H5 H6 hD hacc ex ⟨d, h1, h2, h3⟩ => ⟨d, h1, h2, stab_D d h2 hacc ex h3⟩)
            (fun D j x H5 H6 R hD hacc hj ex hY h1 h2 => ?_) (fun D zs H3 hD ex3 hys hl2 hP => ?_)⟩⟩
    · obtain ⟨tt, x1, x2, rfl, nt, rfl, e1, e2⟩ := hY
      obtain ⟨q1, f1, d1⟩ := hae j x1 e1
      obtain ⟨l, f2, d2⟩ := dpAll_mapget hle e2
      have tu1 : Tu H (upd H5 tt (.tup [x1, x2])) := ex1.tu.trans ((ex.tuD hD).trans (Tu.new nt))
      obtain ⟨p2, r2, b2, rfl, g1, g2, g3⟩ := dp_lim (dp_tu tu1 (flat_dlim l) d2)
      refine ⟨tt, _, rfl, .inl (.inl upd_same), rfl, _, _, rfl, _, _, rfl, rfl, rfl, ?_⟩
      refine ⟨_, rfl, _, rfl, p2, _, _, _, rfl, rfl, g1, at1_, x1, b2, q1, l.2, rfl, dp_tu tu1 rfl d1, g3, ?_, fun v H7 ex7 dv => ?_⟩
      · have hb : at0 (lims.map (·.2)) j = l.2 := at0_get (by rw [List.getElem?_map, f2]; rfl)
        have := ok.dot.1 j (by have := (List.getElem?_eq_some_iff.mp f1).1; exact this) (by rw [List.length_map]; have := (List.getElem?_eq_some_iff.mp f2).1; exact this)
        rw [at0_get f1, hb] at this; exact this
      · refine h1 rfl _ _ ((Ex.new nt).trans ex7) ⟨dq (q1 * l.2), ?_, rfl, dv⟩
        unfold dotP
        rw [List.getElem?_map, List.getElem?_zipWith, f1, List.getElem?_map, f2]; rfl
    · have hz : DpAll K H3 zs ((dotP p (lims.map (·.2))).map dq) := datas_of hl2 (by unfold dotP; rw [List.length_map, List.length_zipWith, List.length_map]; omega) fun j y k e1 e2 => by
        obtain ⟨d, h1, h2, h3⟩ := hP j y k e1 e2
        exact ⟨d, h1, h3⟩
      refine ⟨D, zs, dotP p (lims.map (·.2)), rfl, .inl (.inl hys), hz, ok.dot.2, fun v4 H4 ex4 d4 => ⟨two_line, fun t ht => ?_⟩⟩
      have ext : Ex T No H4 (upd H4 t (.tup [v, v4])) := Ex.new ht
      exact k _ _ (ex1.trans (ex3.trans (ex4.trans ext))) (.tup (.inl (.inl upd_same)) (.cons (dp_tu (ex3.trans (ex4.trans ext)).tu (flat_dv _) dvv) (.cons (dp_tu ext.tu rfl d4) .nil)))
theorem ok_is_point (X : LPTxt K mg A) : FnOk P w K mg base CX0 4 A.is_point.1 A.is_point.2 ["program", "value"] (sp_is_point K T) := by
  refine X.is_point.fn.ok sc_is_point (fun vs H Q E h => ?_) (fun cdv A' outer s H vs Q E hr h => ?_)
  · obtain ⟨_, _, _, _, _, rfl, _⟩ := h; rfl
  · obtain ⟨x, y, goal, lims, xs, rfl, hx, hy, hl, l1, l2, k⟩ := h
    obtain ⟨p, g, z, rfl, hp, hg, hz⟩ := dp_prog hx
    obtain ⟨a, vs, rfl, ha, hal, hae⟩ := dp_v hy
    obtain ⟨ga, gs, rfl, hgs, hgl, _⟩ := dp_v hg
    have ok_is_vector : ∀ {P : Program} {w : World} {base : Heap} (X : LPTxt K mg A), FnOk P w K mg base CX0 3 A.is_vector.1 A.is_vector.2 ["value"] (sp_is_vector K T) := fun X => ok_is_vector X
    refine ⟨_, (pss_one (ps_ret (pe_and (pe_call (ok_is_vector X) (hr.mono (by decide)) rfl X.is_vector.g X.is_vector.fn.kp X.is_vector.b .nil pass0 (pa_cons (pv 1) pa_nil)) (pe_one (pe_cmpR op_eq (pe_callB (klen (K := K)) (by rfl) X.n_len (by decide +kernel) (pa_cons (pv 1) pa_nil)) (pe_callB (klen (K := K)) (by rfl) X.n_len (by decide +kernel) (pa_cons (pe_ix (kix_tup (K := K)) (pv 0) pe_int (fun _ _ => rfl)) pa_nil)) (nomark _)))))), ?_⟩
    refine ⟨_, rfl, .ref a, xs, rfl, hy, l1, l2, fun H1 ex1 => ⟨_, rfl, iteY rfl ?_⟩⟩
    refine ⟨_, rfl, a, _, rfl, .inr (ex1.sqT ha), _, rfl, p, _, _, _, rfl, rfl, ex1.sqT hp, rfl, ga, _, rfl, .inr (ex1.sqT hgs), rfl, ?_⟩
    have e : decide (V.int ((vs.length : Nat) : Int) = V.int ((gs.length : Nat) : Int)) = true := decide_eq_true (by rw [hal, hgl, hl])
    rw [e]
    exact k _ ex1
theorem any_false (n : Nat) : (List.replicate n false).any id = false := by simp
theorem ok_is_within (X : LPTxt K mg A) : FnOk P w K mg base CX0 5 A.is_within.1 A.is_within.2 ["program", "point"] (sp_is_within K T) := by
  refine X.is_within.fn.ok sc_is_within (fun vs H Q E h => ?_) (fun cdv A' outer s H vs Q E hr h => ?_)
  · obtain ⟨_, _, _, _, _, rfl, _⟩ := h; rfl
  · obtain ⟨x, y, goal, lims, xs, rfl, hx, hy, ok, k⟩ := h
    obtain ⟨p, g, z, rfl, hp, hg, hz⟩ := dp_prog hx
    obtain ⟨la, ls, rfl, hls, hle⟩ := dp_lims hz
    have llen : ls.length = lims.length := by simpa using dpAll_len hle
    have lz := ok.lz
    have ok_dot : ∀ {P : Program} {w : World} {base : Heap} (X : LPTxt K mg A), FnOk P w K mg base CX0 4 A.dot.1 A.dot.2 ["one", "other"] (sp_dot K T) := fun X => ok_dot X
    have ok_is_less : ∀ {P : Program} {w : World} {base : Heap} (X : LPTxt K mg A), FnOk P w K mg base CX0 1 A.is_less.1 A.is_less.2 ["one", "other"] (sp_is_less K T) := fun X => ok_is_less X
    refine ⟨_, (pss_one (ps_ret (pe_not (pe_callB (kany (K := K) rfl) (by rfl) X.n_any (by decide +kernel) (pa_cons (pe_lc (own := [("row", 2), ("bound", 3)]) (tt := tYes) rfl sc_is_within.nd  (kpi_tup (K := K) (pe_ix (kix_tup (K := K)) (pv 0) pe_int (fun _ _ => rfl))) (blkOk_by (N := ["program", "point", "row", "bound"]) (sc := defScope s_is_within) (by decide +kernel)) (fun _ _ _ _ _ => (kpg_tup (K := K) (n := 2) rfl (pgs_cons (pg_name (i := 2) sc_is_within.nd rfl (Or.inl rfl)) (pgs_cons (pg_name (i := 3) sc_is_within.nd rfl (Or.inl rfl)) pgs_nil)))) (fun _ _ _ _ _ => pts_nil) (fun _ _ _ _ _ => (pe_call (ok_is_less X) (hr.mono (by decide)) rfl X.is_less.g X.is_less.fn.kp X.is_less.b .nil pass0 (pa_cons (pe_call (ok_dot X) (hr.mono (by decide)) rfl X.dot.g X.dot.fn.kp X.dot.b .nil pass0 (pa_cons (pv 2) (pa_cons (pv 1) pa_nil))) (pa_cons (pv 3) pa_nil))))) pa_nil))))), ?_⟩
    refine ⟨_, rfl, p, _, _, _, rfl, rfl, hp, rfl, la, rfl, ⟨_, hls⟩, lc_src (T := T) (src_tup (K := K) (a := la) (xs := ls)) (by omega) (P := fun D j y _ => y = .bl false) (keep := fun _ => true) (fun D H5 hD ex => (ex.tuD hD).sqT hls) (fun D j y H5 H6 _ _ _ h => h)
            (fun D j x2 H5 H6 R hD hacc hj ex hY h1 h2 => ?_) (fun D zs H2 hD ex2 hys hl2 hP => ?_)⟩
    · obtain ⟨e1, rfl⟩ := hY
      obtain ⟨l, hl, dl⟩ := dpAll_mapget hle e1
      have hm := List.mem_of_getElem? hl
      obtain ⟨p2, r2, b2, rfl, g1, g2, g3⟩ := dp_lim (dp_tu (ex.tuD hD) (flat_dlim l) dl)
      have lw := ok.len l hm
      refine ⟨p2, _, rfl, g1, rfl, _, _, rfl, _, _, rfl, rfl, rfl, ?_⟩
      refine ⟨_, rfl, _, rfl, r2, y, l.1, xs, rfl, g2, dp_tu (ex.tuD hD) (flat_dv _) hy, lw, by have := ok.sz; omega, ok.dot l hm, fun v H7 ex7 d7 => ?_⟩
      refine ⟨_, rfl, v, b2, _, l.2, rfl, d7, dp_tu ex7.tu rfl g3, (ok.fit l hm).1, (ok.fit l hm).2, fun H8 ex8 => ?_⟩
      refine h1 rfl _ _ (ex7.trans ex8) ?_
      rw [decide_eq_false (Rat.not_lt.mpr (ok.le l hm))]
    · have ez := bls_of false hl2 hP
      subst ez
      refine ⟨D, _, rfl, .inl (.inl hys), _, rfl, ?_⟩
      rw [any_false]
      exact k _ ex2
end WB
end

section
set_option Elab.async false
set_option linter.all false
set_option maxRecDepth 100000
set_option maxHeartbeats 2000000
set_option exponentiation.threshold 1000000
namespace WB
open PySem PySem.Spec PyProof.Rows L2 LamX LP
variable {P : Program} {w : World} {K : PySem.W.Frag} {mg : Str → Option Value} {base : Heap} {A : LPA} {T : List (Addr × Str)} {Pc : Addr}

/-! ### is_answer, said of answers -/
structure IsBest (goal : List Rat) (lims : Lims) (q : Rat) (x p : List Rat) : Prop where
  prog : ProgOk goal lims
  xl : x.length = goal.length
  nn : ∀ r ∈ p, 0 ≤ r
  within : WithinOk lims x
  gdot : DotOk goal x
  gval : sumL (dotP goal x) = q
  sum : SumOk p lims goal.length
  mixv : mixOf p lims goal.length = goal
  bdv : bdOf p lims = q
structure IsEmpty (goal : List Rat) (lims : Lims) (p : List Rat) : Prop where
  prog : ProgOk goal lims
  nn : ∀ r ∈ p, 0 ≤ r
  sum : SumOk p lims goal.length
  mixv : mixOf p lims goal.length = List.replicate goal.length 0
  bdv : 0 < bdOf p lims
structure IsEndless (goal : List Rat) (lims : Lims) (x y : List Rat) : Prop where
  prog : ProgOk goal lims
  xl : x.length = goal.length
  yl : y.length = goal.length
  within : WithinOk lims x
  gdot : DotOk goal y
  gval : sumL (dotP goal y) < 0
  rdot : ∀ l ∈ lims, DotOk l.1 y
  rval : ∀ l ∈ lims, 0 ≤ sumL (dotP l.1 y)
def IsAns (goal : List Rat) (lims : Lims) : Ans → Prop
  | .best q x p => IsBest goal lims q x p
  | .empty p => IsEmpty goal lims p
  | .endless x y => IsEndless goal lims x y
section
variable (K T)
def sp_is_best : Sp := fun vs H Q _ => ∃ x y goal lims q xs p, vs = [x, y] ∧ Dp K H x (dprog goal lims) ∧ Dp K H y (dans (.best q xs p)) ∧ IsBest goal lims q xs p ∧ Yes T H Q
def sp_is_empty : Sp := fun vs H Q _ => ∃ x y goal lims p, vs = [x, y] ∧ Dp K H x (dprog goal lims) ∧ Dp K H y (dans (.empty p)) ∧ IsEmpty goal lims p ∧ Yes T H Q
def sp_is_endless : Sp := fun vs H Q _ => ∃ x y goal lims xs ys, vs = [x, y] ∧ Dp K H x (dprog goal lims) ∧ Dp K H y (dans (.endless xs ys)) ∧ IsEndless goal lims xs ys ∧ Yes T H Q
def sp_is_answer : Sp := fun vs H Q _ => ∃ x y goal lims a, vs = [x, y] ∧ Dp K H x (dprog goal lims) ∧ Dp K H y (dans a) ∧ IsAns goal lims a ∧ Yes T H Q
end
theorem dp_best {H : Hp} {q : Rat} {x p : List Rat} {v : V} (h : Dp K H v (dans (.best q x p))) : ∃ t a b c, v = .ref t ∧ SqT K H t [.str "best", a, b, c] ∧ Dp K H a (dq q) ∧ Dp K H b (dv x) ∧ Dp K H c (dv p) := by
  obtain ⟨t, xs, rfl, hs, ha⟩ := dp_tup h
  cases ha with
  | cons h1 h2 => cases h2 with
    | cons h2 h3 => cases h3 with
      | cons h3 h4 => cases h4 with
        | cons h4 h5 => cases h5; rw [dp_str h1] at hs; exact ⟨t, _, _, _, rfl, hs, h2, h3, h4⟩
theorem dp_empty {H : Hp} {p : List Rat} {v : V} (h : Dp K H v (dans (.empty p))) : ∃ t a, v = .ref t ∧ SqT K H t [.str "empty", a] ∧ Dp K H a (dv p) := by
  obtain ⟨t, xs, rfl, hs, ha⟩ := dp_tup h
  cases ha with
  | cons h1 h2 => cases h2 with
    | cons h2 h3 => cases h3; rw [dp_str h1] at hs; exact ⟨t, _, rfl, hs, h2⟩
theorem dp_endless {H : Hp} {x y : List Rat} {v : V} (h : Dp K H v (dans (.endless x y))) : ∃ t a b, v = .ref t ∧ SqT K H t [.str "endless", a, b] ∧ Dp K H a (dv x) ∧ Dp K H b (dv y) := by
  obtain ⟨t, xs, rfl, hs, ha⟩ := dp_tup h
  cases ha with
  | cons h1 h2 => cases h2 with
    | cons h2 h3 => cases h3 with
      | cons h3 h4 => cases h4; rw [dp_str h1] at hs; exact ⟨t, _, _, rfl, hs, h2, h3⟩
theorem num_pos {q : Rat} (h : 0 < q) : 0 < q.num := by
  have := (Rat.lt_iff 0 q).mp h
  have e1 : (0 : Rat).num = 0 := rfl
  have e2 : (0 : Rat).den = 1 := rfl
  rw [e1, e2] at this
  omega
def wordOf : Ans → Str
  | .best _ _ _ => "best"
  | .empty _ => "empty"
  | .endless _ _ => "endless"
theorem at3_ {α : Type} {x y z u : α} : atI [x, y, z, u] 3 = some u := rfl
theorem ok_is_best (X : LPTxt K mg A) : FnOk P w K mg base CX0 6 A.is_best.1 A.is_best.2 ["program", "value"] (sp_is_best K T) := by
  refine X.is_best.fn.ok sc_is_best (fun vs H Q E h => ?_) (fun cdv A' outer s H vs Q E hr h => ?_)
  · obtain ⟨_, _, _, _, _, _, _, rfl, _⟩ := h; rfl
  · obtain ⟨x, y, goal, lims, q, xs, ps, rfl, hx, hy, ok, k⟩ := h
    obtain ⟨p, g, z, rfl, hp, hg, hz⟩ := dp_prog hx
    obtain ⟨t, va, vb, vc, rfl, ht, ha, hb, hc⟩ := dp_best hy
    obtain ⟨la, ls, rfl, hls, hle⟩ := dp_lims hz
    have llen : ls.length = lims.length := by simpa using dpAll_len hle
    obtain ⟨ga, gs, rfl, hgs, hgl, _⟩ := dp_v hg
    have ok_is_ratio : ∀ {P : Program} {w : World} {base : Heap} (X : LPTxt K mg A), FnOk P w K mg base CX0 2 A.is_ratio.1 A.is_ratio.2 ["value"] (sp_is_ratio K T) := fun X => ok_is_ratio X
    have ok_is_point : ∀ {P : Program} {w : World} {base : Heap} (X : LPTxt K mg A), FnOk P w K mg base CX0 4 A.is_point.1 A.is_point.2 ["program", "value"] (sp_is_point K T) := fun X => ok_is_point X
    have ok_are_prices : ∀ {P : Program} {w : World} {base : Heap} (X : LPTxt K mg A), FnOk P w K mg base CX0 3 A.are_prices.1 A.are_prices.2 ["value", "many"] (sp_are_prices K T) := fun X => ok_are_prices X
    have ok_is_within : ∀ {P : Program} {w : World} {base : Heap} (X : LPTxt K mg A), FnOk P w K mg base CX0 5 A.is_within.1 A.is_within.2 ["program", "point"] (sp_is_within K T) := fun X => ok_is_within X
    have ok_dot : ∀ {P : Program} {w : World} {base : Heap} (X : LPTxt K mg A), FnOk P w K mg base CX0 4 A.dot.1 A.dot.2 ["one", "other"] (sp_dot K T) := fun X => ok_dot X
    have ok_summed : ∀ {P : Program} {w : World} {base : Heap} (X : LPTxt K mg A), FnOk P w K mg base CX0 5 A.summed.1 A.summed.2 ["weights", "limits", "width"] (sp_summed K T) := fun X => ok_summed X
    refine ⟨_, (pss_cons (ps_if (PW.pt (pw_or (pt_cmpR op_ne (pe_callB (klen (K := K)) (by rfl) X.n_len (by decide +kernel) (pa_cons (pv 1) pa_nil)) pe_int (nomark _)) (pw_or (pt_not (pt_val (pe_call (ok_is_ratio X) (hr.mono (by decide)) rfl X.is_ratio.g X.is_ratio.fn.kp X.is_ratio.b .nil pass0 (pa_cons (pe_ix (kix_tup (K := K)) (pv 1) pe_int (fun _ _ => rfl)) pa_nil)))) (pw_or1 (pt_not (pt_val (pe_call (ok_is_point X) (hr.mono (by decide)) rfl X.is_point.g X.is_point.fn.kp X.is_point.b .nil pass0 (pa_cons (pv 0) (pa_cons (pe_ix (kix_tup (K := K)) (pv 1) pe_int (fun _ _ => rfl)) pa_nil))))))))) (pss_one (ps_ret pe_bl)) pss_nil)
  (pss_cons (ps_if (PW.pt (pw_or (pt_not (pt_val (pe_call (ok_are_prices X) (hr.mono (by decide)) rfl X.are_prices.g X.are_prices.fn.kp X.are_prices.b .nil pass0 (pa_cons (pe_ix (kix_tup (K := K)) (pv 1) pe_int (fun _ _ => rfl)) (pa_cons (pe_callB (klen (K := K)) (by rfl) X.n_len (by decide +kernel) (pa_cons (pe_ix (kix_tup (K := K)) (pv 0) pe_int (fun _ _ => rfl)) pa_nil)) pa_nil))))) (pw_or1 (pt_not (pt_val (pe_call (ok_is_within X) (hr.mono (by decide)) rfl X.is_within.g X.is_within.fn.kp X.is_within.b .nil pass0 (pa_cons (pv 0) (pa_cons (pe_ix (kix_tup (K := K)) (pv 1) pe_int (fun _ _ => rfl)) pa_nil)))))))) (pss_one (ps_ret pe_bl)) pss_nil)
  (pss_cons (ps_if (pt_cmpR (kneD (K := K) (hu64 hr)) (pe_call (ok_dot X) (hr.mono (by decide)) rfl X.dot.g X.dot.fn.kp X.dot.b .nil pass0 (pa_cons (pe_ix (kix_tup (K := K)) (pv 0) pe_int (fun _ _ => rfl)) (pa_cons (pe_ix (kix_tup (K := K)) (pv 1) pe_int (fun _ _ => rfl)) pa_nil))) (pe_ix (kix_tup (K := K)) (pv 1) pe_int (fun _ _ => rfl)) (nomark _)) (pss_one (ps_ret pe_bl)) pss_nil)
  (pss_one (ps_ret (pe_cmpR (keqD (K := K) (hu64 hr)) (pe_call (ok_summed X) (hr.mono (by decide)) rfl X.summed.g X.summed.fn.kp X.summed.b .nil pass0 (pa_cons (pe_ix (kix_tup (K := K)) (pv 1) pe_int (fun _ _ => rfl)) (pa_cons (pe_ix (kix_tup (K := K)) (pv 0) pe_int (fun _ _ => rfl)) (pa_cons (pe_callB (klen (K := K)) (by rfl) X.n_len (by decide +kernel) (pa_cons (pe_ix (kix_tup (K := K)) (pv 0) pe_int (fun _ _ => rfl)) pa_nil)) pa_nil)))) (pe_tup (pa_cons (pe_ix (kix_tup (K := K)) (pv 0) pe_int (fun _ _ => rfl)) (pa_cons (pe_ix (kix_tup (K := K)) (pv 1) pe_int (fun _ _ => rfl)) pa_nil))) (nomark _))))))), ?_⟩
    have g1 := ok.prog.g1
    have g2 := ok.prog.g2
    have xl := ok.xl
    have nl : (200 : Nat) ≤ sizeLine := by decide
    refine seq_of (fun σ H1 => σ = [some (.ref p), some (.ref t)] ∧ Ex T No H H1) (fun N hN => ?_) ?_
    · refine ⟨_, rfl, t, _, rfl, .inr ht, rfl, _, rfl, iteNS rfl ?_⟩
      refine ⟨_, rfl, t, _, _, _, rfl, rfl, ht, rfl, va, q, rfl, ha, fun H1 ex1 => ⟨_, rfl, iteN (by decide) ?_⟩⟩
      refine ⟨_, rfl, _, rfl, t, _, _, _, rfl, rfl, ex1.sqT ht, rfl, .ref p, vb, goal, lims, xs, rfl, dp_tu ex1.tu (flat_dprog _ _) hx, dp_tu ex1.tu (flat_dv _) hb, xl, by omega, by omega, fun H2 ex2 => ⟨_, rfl, iteN (by decide) ?_⟩⟩
      exact hN _ _ ⟨rfl, ex1.trans ex2⟩
    rintro σ H1 ⟨rfl, ex1⟩
    refine seq_of (fun σ H2 => σ = [some (.ref p), some (.ref t)] ∧ Ex T No H H2) (fun N hN => ?_) ?_
    · refine ⟨_, rfl, t, _, _, _, rfl, rfl, ex1.sqT ht, rfl, _, rfl, p, _, _, _, rfl, rfl, ex1.sqT hp, rfl, la, _, rfl, .inr (ex1.sqT hls), vc, ps, ?_, dp_tu ex1.tu (flat_dv _) hc, by have := ok.sum.pl; have := ok.sum.lz; omega, ok.nn, fun H2 ex2 => ⟨_, rfl, iteN (by decide) ?_⟩⟩
      · rw [llen, ← ok.sum.pl]; rfl
      have exA := ex1.trans ex2
      refine ⟨_, rfl, _, rfl, t, _, _, _, rfl, rfl, exA.sqT ht, rfl, .ref p, vb, goal, lims, xs, rfl, dp_tu exA.tu (flat_dprog _ _) hx, dp_tu exA.tu (flat_dv _) hb, ok.within, fun H3 ex3 => ⟨_, rfl, iteN (by decide) ?_⟩⟩
      exact hN _ _ ⟨rfl, exA.trans ex3⟩
    rintro σ H2 ⟨rfl, ex2⟩
    refine seq_of (fun σ H3 => σ = [some (.ref p), some (.ref t)] ∧ Ex T No H H3) (fun N hN => ?_) ?_
    · refine ⟨_, rfl, p, _, _, _, rfl, rfl, ex2.sqT hp, rfl, _, rfl, t, _, _, _, rfl, rfl, ex2.sqT ht, rfl, .ref ga, vb, goal, xs, rfl, dp_tu ex2.tu (flat_dv _) hg, dp_tu ex2.tu (flat_dv _) hb, xl.symm, by omega, ok.gdot, fun v H3 ex3 d => ?_⟩
      refine ⟨_, rfl, t, _, _, _, rfl, rfl, (ex2.trans ex3).sqT ht, rfl, _, _, d, dp_tu (ex2.trans ex3).tu rfl ha, sh_q _, sh_q _, _, rfl, ?_⟩
      rw [ok.gval, eqv_refl (flat_dq q)]
      exact iteN (by decide) (hN _ _ ⟨rfl, ex2.trans ex3⟩)
    rintro σ H3 ⟨rfl, ex3⟩
    refine ⟨_, rfl, t, _, _, _, rfl, rfl, ex3.sqT ht, rfl, _, rfl, p, _, _, _, rfl, rfl, ex3.sqT hp, rfl, _, rfl, p, _, _, _, rfl, rfl, ex3.sqT hp, rfl, ga, _, rfl, .inr (ex3.sqT hgs), vc, .ref la, ps, lims, goal.length, _, rfl, dp_tu ex3.tu (flat_dv _) hc, dp_tu ex3.tu (flat_dlims _) hz, ok.sum, fun v H4 ex4 d => ?_⟩
    have exA := ex3.trans ex4
    refine ⟨_, rfl, p, _, _, _, rfl, rfl, exA.sqT hp, rfl, _, rfl, t, _, _, _, rfl, rfl, exA.sqT ht, rfl, two_line, fun u hu => ?_⟩
    have exu : Ex T No H4 (upd H4 u (.tup [.ref ga, va])) := Ex.new hu
    refine ⟨_, dvq goal q, dp_tu exu.tu (flat_vq _ _) d, .tup (.inl (.inl upd_same)) (.cons (dp_tu (exA.trans exu).tu (flat_dv _) hg) (.cons (dp_tu (exA.trans exu).tu rfl ha) .nil)), sh_vq _ _, sh_vq _ _, ?_⟩
    rw [ok.mixv, ok.bdv, eqv_refl (flat_vq goal q)]
    exact k _ (exA.trans exu)
theorem ok_is_empty (X : LPTxt K mg A) : FnOk P w K mg base CX0 6 A.is_empty.1 A.is_empty.2 ["program", "value"] (sp_is_empty K T) := by
  refine X.is_empty.fn.ok sc_is_empty (fun vs H Q E h => ?_) (fun cdv A' outer s H vs Q E hr h => ?_)
  · obtain ⟨_, _, _, _, _, rfl, _⟩ := h; rfl
  · obtain ⟨x, y, goal, lims, ps, rfl, hx, hy, ok, k⟩ := h
    obtain ⟨p, g, z, rfl, hp, hg, hz⟩ := dp_prog hx
    obtain ⟨t, va, rfl, ht, ha⟩ := dp_empty hy
    obtain ⟨la, ls, rfl, hls, hle⟩ := dp_lims hz
    have llen : ls.length = lims.length := by simpa using dpAll_len hle
    obtain ⟨ga, gs, rfl, hgs, hgl, _⟩ := dp_v hg
    have ok_are_prices : ∀ {P : Program} {w : World} {base : Heap} (X : LPTxt K mg A), FnOk P w K mg base CX0 3 A.are_prices.1 A.are_prices.2 ["value", "many"] (sp_are_prices K T) := fun X => ok_are_prices X
    have ok_summed : ∀ {P : Program} {w : World} {base : Heap} (X : LPTxt K mg A), FnOk P w K mg base CX0 5 A.summed.1 A.summed.2 ["weights", "limits", "width"] (sp_summed K T) := fun X => ok_summed X
    refine ⟨_, (pss_cons (ps_if (PW.pt (pw_or (pt_cmpR op_ne (pe_callB (klen (K := K)) (by rfl) X.n_len (by decide +kernel) (pa_cons (pv 1) pa_nil)) pe_int (nomark _)) (pw_or1 (pt_not (pt_val (pe_call (ok_are_prices X) (hr.mono (by decide)) rfl X.are_prices.g X.are_prices.fn.kp X.are_prices.b .nil pass0 (pa_cons (pe_ix (kix_tup (K := K)) (pv 1) pe_int (fun _ _ => rfl)) (pa_cons (pe_callB (klen (K := K)) (by rfl) X.n_len (by decide +kernel) (pa_cons (pe_ix (kix_tup (K := K)) (pv 0) pe_int (fun _ _ => rfl)) pa_nil)) pa_nil)))))))) (pss_one (ps_ret pe_bl)) pss_nil)
  (pss_cons (ps_asg (pe_call (ok_summed X) (hr.mono (by decide)) rfl X.summed.g X.summed.fn.kp X.summed.b .nil pass0 (pa_cons (pe_ix (kix_tup (K := K)) (pv 1) pe_int (fun _ _ => rfl)) (pa_cons (pe_ix (kix_tup (K := K)) (pv 0) pe_int (fun _ _ => rfl)) (pa_cons (pe_callB (klen (K := K)) (by rfl) X.n_len (by decide +kernel) (pa_cons (pe_ix (kix_tup (K := K)) (pv 0) pe_int (fun _ _ => rfl)) pa_nil)) pa_nil)))) (kpg_tup (K := K) (n := 2) rfl (pgs_cons (pg_name (i := 2) sc_is_empty.nd rfl (Or.inl rfl)) (pgs_cons (pg_name (i := 3) sc_is_empty.nd rfl (Or.inl rfl)) pgs_nil))))
  (pss_one (ps_ret (pe_and (pe_callB (kall (K := K) rfl) (by rfl) X.n_all (by decide +kernel) (pa_cons (pe_lc (own := [("part", 4)]) (tt := tYes) rfl sc_is_empty.nd  (kpi_tup (K := K) (pv 2)) (blkOk_by (N := ["program", "value", "row", "bound", "part"]) (sc := defScope s_is_empty) (by decide +kernel)) (fun _ _ _ _ _ => (pg_name (i := 4) sc_is_empty.nd rfl (Or.inl rfl))) (fun _ _ _ _ _ => pts_nil) (fun _ _ _ _ _ => (pe_cmpR (keqD (K := K) (hu64 hr)) (pv 4) (pe_glob (v := V.ref A.ZERO) rfl X.g_ZERO rfl) (nomark _)))) pa_nil)) (pe_one (pe_cmpR op_gt (pe_ix (kix_tup (K := K)) (pv 3) pe_int (fun _ _ => rfl)) pe_int (nomark _)))))))), ?_⟩
    have g2 := ok.prog.g2
    have nl : (200 : Nat) ≤ sizeLine := by decide
    refine seq_of (fun σ H1 => σ = [some (.ref p), some (.ref t), none, none, none] ∧ Ex T No H H1) (fun N hN => ?_) ?_
    · refine ⟨_, rfl, t, _, rfl, .inr ht, rfl, _, rfl, iteNS rfl ?_⟩
      refine ⟨_, rfl, t, _, _, _, rfl, rfl, ht, rfl, _, rfl, p, _, _, _, rfl, rfl, hp, rfl, la, _, rfl, .inr hls, va, ps, ?_, ha, by have := ok.sum.pl; have := ok.sum.lz; omega, ok.nn, fun H2 ex2 => ⟨_, rfl, iteN (by decide) (hN _ _ ⟨rfl, ex2⟩)⟩⟩
      rw [llen, ← ok.sum.pl]; rfl
    rintro σ H1 ⟨rfl, ex1⟩
    refine seq_of (fun σ H2 => ∃ r b, σ = [some (.ref p), some (.ref t), some r, some b, none] ∧ Ex T No H H2 ∧ Dp K H2 r (dv (List.replicate goal.length 0)) ∧ Dp K H2 b (dq (bdOf ps lims))) (fun N hN => ?_) ?_
    · refine ⟨_, rfl, t, _, _, _, rfl, rfl, ex1.sqT ht, rfl, _, rfl, p, _, _, _, rfl, rfl, ex1.sqT hp, rfl, _, rfl, p, _, _, _, rfl, rfl, ex1.sqT hp, rfl, ga, _, rfl, .inr (ex1.sqT hgs), va, .ref la, ps, lims, goal.length, _, rfl, dp_tu ex1.tu (flat_dv _) ha, dp_tu ex1.tu (flat_dlims _) hz, ok.sum, fun v H4 ex4 d => ?_⟩
      obtain ⟨u, us, rfl, hu, hus⟩ := dp_tup d
      cases hus with
      | cons h1 h2 => cases h2 with
        | cons h2 h3 =>
          cases h3
          rw [ok.mixv] at h1
          exact ⟨u, _, rfl, hu, rfl, _, _, rfl, _, _, rfl, rfl, hN _ _ ⟨_, _, rfl, ex1.trans ex4, h1, h2⟩⟩
    rintro σ H2 ⟨r, b, rfl, ex2, hr2, hb2⟩
    obtain ⟨ra, rv, rfl, hra, hrl, hre⟩ := dp_v hr2
    rw [List.length_replicate] at hrl
    refine ⟨_, rfl, ra, rfl, ⟨_, hra⟩, lc_src (T := T) (src_tup (K := K) (a := ra) (xs := rv)) (by omega) (P := fun D j y _ => y = .bl true) (keep := fun _ => true) (fun D H5 hD ex => (ex.tuD hD).sqT hra) (fun D j y H5 H6 _ _ _ h => h)
            (fun D j x2 H5 H6 R hD hacc hj ex hY h1 h2 => ?_) (fun D zs H3 hD ex3 hys hl2 hP => ?_)⟩
    · obtain ⟨e1, rfl⟩ := hY
      obtain ⟨q0, hq0, dq0⟩ := hre j x2 e1
      have : q0 = 0 := by
        rw [List.getElem?_replicate] at hq0
        split at hq0
        · exact (Option.some.inj hq0).symm
        · cases hq0
      subst this
      refine ⟨rfl, _, rfl, _, _, dp_tu (ex.tuD hD) rfl dq0, dp_zero X _, sh_q _, sh_q _, h1 rfl _ _ Ex.refl ?_⟩
      rw [eqv_refl (flat_dq 0)]
    · have ez := trues hl2 hP
      subst ez
      refine ⟨D, _, rfl, .inl (.inl hys), ?_⟩
      rw [all_true]
      refine ⟨_, rfl, iteY rfl ?_⟩
      obtain ⟨pb, rfl, hpb⟩ := dp_q hb2
      refine ⟨_, rfl, pb, _, _, _, rfl, rfl, ex3.sqT hpb, at0_, _, _, rfl, rfl, ?_⟩
      have e : decide ((0 : Int) < (bdOf ps lims).num) = true := decide_eq_true (num_pos ok.bdv)
      show Q (.bl (decide ((0 : Int) < (bdOf ps lims).num))) H3
      rw [e]
      exact k _ (ex2.trans ex3)
theorem ok_is_endless (X : LPTxt K mg A) : FnOk P w K mg base CX0 6 A.is_endless.1 A.is_endless.2 ["program", "value"] (sp_is_endless K T) := by
  refine X.is_endless.fn.ok sc_is_endless (fun vs H Q E h => ?_) (fun cdv A' outer s H vs Q E hr h => ?_)
  · obtain ⟨_, _, _, _, _, _, rfl, _⟩ := h; rfl
  · obtain ⟨x, y, goal, lims, xs, ys, rfl, hx, hy, ok, k⟩ := h
    obtain ⟨p, g, z, rfl, hp, hg, hz⟩ := dp_prog hx
    obtain ⟨t, va, vb, rfl, ht, ha, hb⟩ := dp_endless hy
    obtain ⟨la, ls, rfl, hls, hle⟩ := dp_lims hz
    have llen : ls.length = lims.length := by simpa using dpAll_len hle
    have ok_is_point : ∀ {P : Program} {w : World} {base : Heap} (X : LPTxt K mg A), FnOk P w K mg base CX0 4 A.is_point.1 A.is_point.2 ["program", "value"] (sp_is_point K T) := fun X => ok_is_point X
    have ok_is_within : ∀ {P : Program} {w : World} {base : Heap} (X : LPTxt K mg A), FnOk P w K mg base CX0 5 A.is_within.1 A.is_within.2 ["program", "point"] (sp_is_within K T) := fun X => ok_is_within X
    have ok_dot : ∀ {P : Program} {w : World} {base : Heap} (X : LPTxt K mg A), FnOk P w K mg base CX0 4 A.dot.1 A.dot.2 ["one", "other"] (sp_dot K T) := fun X => ok_dot X
    refine ⟨_, (pss_cons (ps_if (PW.pt (pw_or (pt_cmpR op_ne (pe_callB (klen (K := K)) (by rfl) X.n_len (by decide +kernel) (pa_cons (pv 1) pa_nil)) pe_int (nomark _)) (pw_or (pt_not (pt_val (pe_call (ok_is_point X) (hr.mono (by decide)) rfl X.is_point.g X.is_point.fn.kp X.is_point.b .nil pass0 (pa_cons (pv 0) (pa_cons (pe_ix (kix_tup (K := K)) (pv 1) pe_int (fun _ _ => rfl)) pa_nil))))) (pw_or1 (pt_not (pt_val (pe_call (ok_is_point X) (hr.mono (by decide)) rfl X.is_point.g X.is_point.fn.kp X.is_point.b .nil pass0 (pa_cons (pv 0) (pa_cons (pe_ix (kix_tup (K := K)) (pv 1) pe_int (fun _ _ => rfl)) pa_nil))))))))) (pss_one (ps_ret pe_bl)) pss_nil)
  (pss_cons (ps_if (PW.pt (pw_or (pt_not (pt_val (pe_call (ok_is_within X) (hr.mono (by decide)) rfl X.is_within.g X.is_within.fn.kp X.is_within.b .nil pass0 (pa_cons (pv 0) (pa_cons (pe_ix (kix_tup (K := K)) (pv 1) pe_int (fun _ _ => rfl)) pa_nil))))) (pw_or1 (pt_cmpR op_ge (pe_ix (kix_tup (K := K)) (pe_call (ok_dot X) (hr.mono (by decide)) rfl X.dot.g X.dot.fn.kp X.dot.b .nil pass0 (pa_cons (pe_ix (kix_tup (K := K)) (pv 0) pe_int (fun _ _ => rfl)) (pa_cons (pe_ix (kix_tup (K := K)) (pv 1) pe_int (fun _ _ => rfl)) pa_nil))) pe_int (fun _ _ => rfl)) pe_int (nomark _))))) (pss_one (ps_ret pe_bl)) pss_nil)
  (pss_one (ps_ret (pe_callB (kall (K := K) rfl) (by rfl) X.n_all (by decide +kernel) (pa_cons (pe_lc (own := [("row", 2), ("bound", 3)]) (tt := tYes) rfl sc_is_endless.nd  (kpi_tup (K := K) (pe_ix (kix_tup (K := K)) (pv 0) pe_int (fun _ _ => rfl))) (blkOk_by (N := ["program", "value", "row", "bound"]) (sc := defScope s_is_endless) (by decide +kernel)) (fun _ _ _ _ _ => (kpg_tup (K := K) (n := 2) rfl (pgs_cons (pg_name (i := 2) sc_is_endless.nd rfl (Or.inl rfl)) (pgs_cons (pg_name (i := 3) sc_is_endless.nd rfl (Or.inl rfl)) pgs_nil)))) (fun _ _ _ _ _ => pts_nil) (fun _ _ _ _ _ => (pe_cmpR op_ge (pe_ix (kix_tup (K := K)) (pe_call (ok_dot X) (hr.mono (by decide)) rfl X.dot.g X.dot.fn.kp X.dot.b .nil pass0 (pa_cons (pv 2) (pa_cons (pe_ix (kix_tup (K := K)) (pv 1) pe_int (fun _ _ => rfl)) pa_nil))) pe_int (fun _ _ => rfl)) pe_int (nomark _)))) pa_nil)))))), ?_⟩
    have g1 := ok.prog.g1
    have g2 := ok.prog.g2
    have xl := ok.xl
    have yl := ok.yl
    have l2 := ok.prog.l2
    have nl : (200 : Nat) ≤ sizeLine := by decide
    refine seq_of (fun σ H1 => σ = [some (.ref p), some (.ref t), none, none] ∧ Ex T No H H1) (fun N hN => ?_) ?_
    · refine ⟨_, rfl, t, _, rfl, .inr ht, rfl, _, rfl, iteNS rfl ?_⟩
      refine ⟨_, rfl, _, rfl, t, _, _, _, rfl, rfl, ht, rfl, .ref p, va, goal, lims, xs, rfl, hx, ha, xl, by omega, by omega, fun H1 ex1 => ⟨_, rfl, iteN (by decide) ?_⟩⟩
      refine ⟨_, rfl, _, rfl, t, _, _, _, rfl, rfl, ex1.sqT ht, rfl, .ref p, vb, goal, lims, ys, rfl, dp_tu ex1.tu (flat_dprog _ _) hx, dp_tu ex1.tu (flat_dv _) hb, yl, by omega, by omega, fun H2 ex2 => ⟨_, rfl, iteN (by decide) ?_⟩⟩
      exact hN _ _ ⟨rfl, ex1.trans ex2⟩
    rintro σ H1 ⟨rfl, ex1⟩
    refine seq_of (fun σ H2 => σ = [some (.ref p), some (.ref t), none, none] ∧ Ex T No H H2) (fun N hN => ?_) ?_
    · refine ⟨_, rfl, _, rfl, t, _, _, _, rfl, rfl, ex1.sqT ht, rfl, .ref p, va, goal, lims, xs, rfl, dp_tu ex1.tu (flat_dprog _ _) hx, dp_tu ex1.tu (flat_dv _) ha, ok.within, fun H2 ex2 => ⟨_, rfl, iteN (by decide) ?_⟩⟩
      have exA := ex1.trans ex2
      refine ⟨_, rfl, p, _, _, _, rfl, rfl, exA.sqT hp, rfl, _, rfl, t, _, _, _, rfl, rfl, exA.sqT ht, rfl, g, vb, goal, ys, rfl, dp_tu exA.tu (flat_dv _) hg, dp_tu exA.tu (flat_dv _) hb, yl.symm, by omega, ok.gdot, fun v H3 ex3 d => ?_⟩
      obtain ⟨pv', rfl, hpv⟩ := dp_q d
      have hneg : (sumL (dotP goal ys)).num < 0 := by
        refine Int.not_le.mp fun z => ?_
        exact absurd (Rat.num_nonneg.mp z) (Rat.not_le.mpr ok.gval)
      refine ⟨pv', _, _, _, rfl, rfl, hpv, at0_, _, _, rfl, rfl, _, rfl, iteNd (by omega) ?_⟩
      exact hN _ _ ⟨rfl, exA.trans ex3⟩
    rintro σ H2 ⟨rfl, ex2⟩
    have hls2 := ex2.sqT hls
    refine ⟨_, rfl, p, _, _, _, rfl, rfl, ex2.sqT hp, rfl, la, rfl, ⟨_, hls2⟩, lc_src (T := T) (src_tup (K := K) (a := la) (xs := ls)) (by omega) (P := fun D j y _ => y = .bl true) (keep := fun _ => true) (fun D H5 hD ex => (ex.tuD hD).sqT hls2) (fun D j y H5 H6 _ _ _ h => h)
            (fun D j x2 H5 H6 R hD hacc hj ex hY h1 h2 => ?_) (fun D zs H3 hD ex3 hys hl2 hP => ?_)⟩
    · obtain ⟨e1, rfl⟩ := hY
      obtain ⟨l, hl, dl⟩ := dpAll_mapget hle e1
      have hm := List.mem_of_getElem? hl
      have tu := ex2.tu.trans (ex.tuD hD)
      obtain ⟨p2, r2, b2, rfl, q1, q2, q3⟩ := dp_lim (dp_tu tu (flat_dlim l) dl)
      have lw := ok.prog.w l hm
      refine ⟨p2, _, rfl, q1, rfl, _, _, rfl, _, _, rfl, rfl, rfl, ?_⟩
      refine ⟨_, rfl, _, rfl, t, _, _, _, rfl, rfl, tu.sqT ht, rfl, r2, vb, l.1, ys, rfl, q2, dp_tu tu (flat_dv _) hb, by omega, by omega, ok.rdot l hm, fun v H7 ex7 d7 => ?_⟩
      obtain ⟨pv', rfl, hpv⟩ := dp_q d7
      refine ⟨pv', _, _, _, rfl, rfl, hpv, at0_, _, _, rfl, rfl, h1 rfl _ _ ex7 ?_⟩
      show V.bl (decide ((0 : Int) ≤ (sumL (dotP l.1 ys)).num)) = V.bl true
      rw [decide_eq_true (Rat.num_nonneg.mpr (ok.rval l hm))]
    · have ez := trues hl2 hP
      subst ez
      refine ⟨D, _, rfl, .inl (.inl hys), ?_⟩
      rw [all_true]
      exact k _ (ex2.trans ex3)
theorem sh_ans : ∀ a : Ans, SeqAt.shaped (dans a) = true
  | .best q x p => by
    have h1 := dep_q q; have h2 := dep_v x; have h3 := dep_v p
    refine shaped_of ?_ ?_
    · unfold dans; simp only [PyData.canLay0, PyData.canLayAll0, lay_q, lay_v, Bool.and_true]; decide +kernel
    · simp only [dans, PyData.depth, PyData.depthAll]; omega
  | .empty p => by
    have h3 := dep_v p
    refine shaped_of ?_ ?_
    · unfold dans; simp only [PyData.canLay0, PyData.canLayAll0, lay_v, Bool.and_true]; decide +kernel
    · simp only [dans, PyData.depth, PyData.depthAll]; omega
  | .endless x y => by
    have h2 := dep_v x; have h3 := dep_v y
    refine shaped_of ?_ ?_
    · unfold dans; simp only [PyData.canLay0, PyData.canLayAll0, lay_v, Bool.and_true]; decide +kernel
    · simp only [dans, PyData.depth, PyData.depthAll]; omega
theorem ans_prog {goal : List Rat} {lims : Lims} : ∀ {a : Ans}, IsAns goal lims a → ProgOk goal lims
  | .best _ _ _, h => IsBest.prog h
  | .empty _, h => IsEmpty.prog h
  | .endless _ _, h => IsEndless.prog h
theorem ok_is_answer (X : LPTxt K mg A) : FnOk P w K mg base CX0 7 A.is_answer.1 A.is_answer.2 ["program", "value"] (sp_is_answer K T) := by
  refine X.is_answer.fn.ok sc_is_answer (fun vs H Q E h => ?_) (fun cdv A' outer s H vs Q E hr h => ?_)
  · obtain ⟨_, _, _, _, _, rfl, _⟩ := h; rfl
  · obtain ⟨x, y, goal, lims, a, rfl, hx, hy, ok, k⟩ := h
    have ok_need_program : ∀ {P : Program} {w : World} {base : Heap} (X : LPTxt K mg A), FnOk P w K mg base CX0 6 A.need_program.1 A.need_program.2 ["program"] (sp_need_program K T) := fun X => ok_need_program X
    have ok_is_best : ∀ {P : Program} {w : World} {base : Heap} (X : LPTxt K mg A), FnOk P w K mg base CX0 6 A.is_best.1 A.is_best.2 ["program", "value"] (sp_is_best K T) := fun X => ok_is_best X
    have ok_is_empty : ∀ {P : Program} {w : World} {base : Heap} (X : LPTxt K mg A), FnOk P w K mg base CX0 6 A.is_empty.1 A.is_empty.2 ["program", "value"] (sp_is_empty K T) := fun X => ok_is_empty X
    have ok_is_endless : ∀ {P : Program} {w : World} {base : Heap} (X : LPTxt K mg A), FnOk P w K mg base CX0 6 A.is_endless.1 A.is_endless.2 ["program", "value"] (sp_is_endless K T) := fun X => ok_is_endless X
    refine ⟨_, (pss_cons (ps_expr (pe_call (ok_need_program X) (hr.mono (by decide)) rfl X.need_program.g X.need_program.fn.kp X.need_program.b .nil pass0 (pa_cons (pv 0) pa_nil)))
  (pss_cons (ps_if (PW.pt (pw_or (pt_not (pt_val (pe_callB (kisi (K := K)) (by rfl) X.n_isinstance (by decide +kernel) (pa_cons (pv 1) (pa_cons (pe_bltn (v := V.ty "tuple") (u := Value.type "tuple") (by rfl) X.n_tuple (by decide +kernel) rfl) pa_nil))))) (pw_or (pt_cmpR (keqD (K := K) (hu64 hr)) (pv 1) (pe_tup pa_nil) (nomark _)) (pw_or1 (pt_not (pt_val (pe_callB (kisi (K := K)) (by rfl) X.n_isinstance (by decide +kernel) (pa_cons (pe_ix (kix_tup (K := K)) (pv 1) pe_int (fun _ _ => rfl)) (pa_cons (pe_bltn (v := V.ty "str") (u := Value.type "str") (by rfl) X.n_str (by decide +kernel) rfl) pa_nil))))))))) (pss_one (ps_ret pe_bl)) pss_nil)
  (pss_cons (ps_if (pt_cmpR op_eq (pe_ix (kix_tup (K := K)) (pv 1) pe_int (fun _ _ => rfl)) pe_str (nomark _)) (pss_one (ps_ret (pe_call (ok_is_best X) (hr.mono (by decide)) rfl X.is_best.g X.is_best.fn.kp X.is_best.b .nil pass0 (pa_cons (pv 0) (pa_cons (pv 1) pa_nil))))) pss_nil)
  (pss_cons (ps_if (pt_cmpR op_eq (pe_ix (kix_tup (K := K)) (pv 1) pe_int (fun _ _ => rfl)) pe_str (nomark _)) (pss_one (ps_ret (pe_call (ok_is_empty X) (hr.mono (by decide)) rfl X.is_empty.g X.is_empty.fn.kp X.is_empty.b .nil pass0 (pa_cons (pv 0) (pa_cons (pv 1) pa_nil))))) pss_nil)
  (pss_one (ps_ret (pe_and (pe_cmpR op_eq (pe_ix (kix_tup (K := K)) (pv 1) pe_int (fun _ _ => rfl)) pe_str (nomark _)) (pe_one (pe_call (ok_is_endless X) (hr.mono (by decide)) rfl X.is_endless.g X.is_endless.fn.kp X.is_endless.b .nil pass0 (pa_cons (pv 0) (pa_cons (pv 1) pa_nil))))))))))), ?_⟩
    refine seq_of (fun σ H1 => σ = [some x, some y] ∧ Ex T No H H1) (fun N hN => ?_) ?_
    · exact ⟨_, rfl, x, goal, lims, rfl, hx, ans_prog ok, fun H1 ex1 => hN _ _ ⟨rfl, ex1⟩⟩
    rintro σ H1 ⟨rfl, ex1⟩
    have hx1 := dp_tu ex1.tu (flat_dprog _ _) hx
    have hy1 := dp_tu ex1.tu (flat_dans _) hy
    obtain ⟨t, wd, rest, rfl, ht, hwd⟩ : ∃ t wd rest, y = .ref t ∧ SqT K H1 t (.str wd :: rest) ∧ wd = wordOf a := by
      cases a with
      | best q xs p => obtain ⟨t, _, _, _, e, hs, _⟩ := dp_best hy1; exact ⟨t, _, _, e, hs, rfl⟩
      | empty p => obtain ⟨t, _, e, hs, _⟩ := dp_empty hy1; exact ⟨t, _, _, e, hs, rfl⟩
      | endless xs ys => obtain ⟨t, _, _, e, hs, _⟩ := dp_endless hy1; exact ⟨t, _, _, e, hs, rfl⟩
    have enil : PyData.eqv (dans a) (.tuple []) = false := by cases a <;> simp only [dans, PyData.eqv, PyData.eqvAll]
    refine seq_of (fun σ H2 => σ = [some x, some (.ref t)] ∧ Ex T No H1 H2) (fun N hN => ?_) ?_
    · refine ⟨_, rfl, _, _, _, _, _, rfl, .ty _, (tyx_tup ht), (kit_ty (r := true) (by decide +kernel)), _, rfl, iteN (by decide) ?_⟩
      refine ⟨_, rfl, Nat.zero_le _, fun u hu => ?_⟩
      have exu : Ex T No H1 (upd H1 u (.tup [])) := Ex.new hu
      refine ⟨_, .tuple [], dp_tu exu.tu (flat_dans _) hy1, .tup (.inl (.inl upd_same)) .nil, sh_ans a, by decide, _, rfl, ?_⟩
      rw [enil]
      refine iteN (by decide) ?_
      refine ⟨_, rfl, t, _, _, _, rfl, rfl, exu.sqT ht, at0_cons, _, _, _, _, _, rfl, .ty _, (.base (.str wd)), (kit_ty (r := true) (by decide +kernel)), _, rfl, iteN (by decide) ?_⟩
      exact hN _ _ ⟨rfl, exu⟩
    rintro σ H2 ⟨rfl, ex2⟩
    have ht2 := ex2.sqT ht
    have hx2 := dp_tu ex2.tu (flat_dprog _ _) hx1
    have hy2 := dp_tu ex2.tu (flat_dans _) hy1
    cases a with
    | best q xs p =>
      obtain rfl : wd = "best" := hwd
      refine ⟨_, rfl, t, _, _, _, rfl, rfl, ht2, at0_cons, rfl, _, rfl, iteYd rfl ?_⟩
      exact ⟨_, rfl, _, rfl, x, _, goal, lims, q, xs, p, rfl, hx2, hy2, ok, fun H3 ex3 => k _ (ex1.trans (ex2.trans ex3))⟩
    | empty p =>
      obtain rfl : wd = "empty" := hwd
      refine ⟨_, rfl, t, _, _, _, rfl, rfl, ht2, at0_cons, rfl, _, rfl, iteNd (by intro z; injection z with z; exact absurd z (by decide +kernel)) ?_⟩
      refine ⟨_, rfl, t, _, _, _, rfl, rfl, ht2, at0_cons, rfl, _, rfl, iteYd rfl ?_⟩
      exact ⟨_, rfl, _, rfl, x, _, goal, lims, p, rfl, hx2, hy2, ok, fun H3 ex3 => k _ (ex1.trans (ex2.trans ex3))⟩
    | endless xs ys =>
      obtain rfl : wd = "endless" := hwd
      refine ⟨_, rfl, t, _, _, _, rfl, rfl, ht2, at0_cons, rfl, _, rfl, iteNd (by intro z; injection z with z; exact absurd z (by decide +kernel)) ?_⟩
      refine ⟨_, rfl, t, _, _, _, rfl, rfl, ht2, at0_cons, rfl, _, rfl, iteNd (by intro z; injection z with z; exact absurd z (by decide +kernel)) ?_⟩
      refine ⟨_, rfl, t, _, _, _, rfl, rfl, ht2, at0_cons, rfl, _, rfl, iteYd rfl ?_⟩
      exact ⟨_, rfl, _, rfl, x, _, goal, lims, xs, ys, rfl, hx2, hy2, ok, fun H3 ex3 => k _ (ex1.trans (ex2.trans ex3))⟩
end WB
end

section
set_option autoImplicit false
set_option exponentiation.threshold 1000000
namespace LP
open WB

/-! ### sizes of ratios -/
theorem mul_den_le (a b : Rat) : (a * b).den ≤ a.den * b.den := by
  have hd : (0 : Int) < (a.den : Int) * (b.den : Int) := Int.mul_pos (by exact_mod_cast a.den_pos) (by exact_mod_cast b.den_pos)
  have e := quo_den (n := a.num * b.num) hd
  rw [quo_times] at e
  have h2 := Int.ediv_le_self (a := (a.den : Int) * (b.den : Int)) ((Nat.gcd (a.num * b.num).natAbs ((a.den : Int) * (b.den : Int)).natAbs : Nat) : Int) (by omega)
  rw [← e] at h2
  exact_mod_cast h2
theorem mul_num_le (a b : Rat) : (a * b).num.natAbs ≤ a.num.natAbs * b.num.natAbs := by
  have hd : (0 : Int) < (a.den : Int) * (b.den : Int) := Int.mul_pos (by exact_mod_cast a.den_pos) (by exact_mod_cast b.den_pos)
  have e := quo_num (n := a.num * b.num) hd
  rw [quo_times] at e
  rw [e, ← Int.natAbs_mul]
  exact Int.natAbs_ediv_le_natAbs _ _
theorem add_den_le (a b : Rat) : (a + b).den ≤ a.den * b.den := by
  have hd : (0 : Int) < (a.den : Int) * (b.den : Int) := Int.mul_pos (by exact_mod_cast a.den_pos) (by exact_mod_cast b.den_pos)
  have e := quo_den (n := a.num * b.den + b.num * a.den) hd
  rw [quo_plus] at e
  have h2 := Int.ediv_le_self (a := (a.den : Int) * (b.den : Int)) ((Nat.gcd (a.num * b.den + b.num * a.den).natAbs ((a.den : Int) * (b.den : Int)).natAbs : Nat) : Int) (by omega)
  rw [← e] at h2
  exact_mod_cast h2
theorem add_num_le (a b : Rat) : (a + b).num.natAbs ≤ a.num.natAbs * b.den + b.num.natAbs * a.den := by
  have hd : (0 : Int) < (a.den : Int) * (b.den : Int) := Int.mul_pos (by exact_mod_cast a.den_pos) (by exact_mod_cast b.den_pos)
  have e := quo_num (n := a.num * b.den + b.num * a.den) hd
  rw [quo_plus] at e
  rw [e]
  refine Nat.le_trans (Int.natAbs_ediv_le_natAbs _ _) (Nat.le_trans (Int.natAbs_add_le _ _) ?_)
  rw [Int.natAbs_mul, Int.natAbs_mul, Int.natAbs_natCast, Int.natAbs_natCast]
  exact Nat.le_refl _
/-- a term of a sum -/
def Tm (q : Rat) : Prop := q.den < 2 ^ 4500 ∧ q.num.natAbs < 2 ^ 8000
/-- what k terms come to -/
def Pt (k : Nat) (q : Rat) : Prop := q.den ≤ (2 ^ 8001) ^ k ∧ q.num.natAbs ≤ (2 ^ 8001) ^ k
theorem pt_zero : Pt 0 0 := ⟨by decide, by decide⟩
theorem two_le {a b : Nat} (h : a ≤ b) : 2 ^ a ≤ 2 ^ b := Nat.pow_le_pow_right (by omega) h
theorem pt_add {k : Nat} {a b : Rat} (h : Pt k a) (t : Tm b) : Pt (k + 1) (a + b) := by
  have b1 : b.den ≤ 2 ^ 8000 := Nat.le_trans (Nat.le_of_lt t.1) (two_le (by omega))
  have b2 : b.num.natAbs ≤ 2 ^ 8000 := Nat.le_of_lt t.2
  have e : (2 : Nat) ^ 8001 = 2 ^ 8000 + 2 ^ 8000 := by rw [show (8001 : Nat) = 8000 + 1 from rfl, Nat.pow_succ]
  refine ⟨?_, ?_⟩
  · refine Nat.le_trans (add_den_le a b) ?_
    rw [Nat.pow_succ]
    exact Nat.mul_le_mul h.1 (Nat.le_trans b1 (two_le (by omega)))
  · refine Nat.le_trans (add_num_le a b) ?_
    rw [Nat.pow_succ, e, Nat.mul_add, Nat.mul_comm b.num.natAbs]
    exact Nat.add_le_add (Nat.mul_le_mul h.2 b1) (Nat.mul_le_mul h.1 b2)
theorem pt_fits {k : Nat} {q : Rat} (h : Pt k q) (hk : k ≤ 45) : Fits q := by
  have : (2 ^ 8001 : Nat) ^ k < 2 ^ 400000 := by
    rw [← Nat.pow_mul]
    exact Nat.pow_lt_pow_right (by omega) (by omega)
  exact ⟨Nat.lt_of_le_of_lt h.2 this, Nat.lt_of_le_of_lt h.1 this⟩
theorem tm_fits {q : Rat} (t : Tm q) : Fits q := ⟨Nat.lt_of_lt_of_le t.2 (two_le (by omega)), Nat.lt_of_lt_of_le t.1 (two_le (by omega))⟩
theorem plus_tm {k : Nat} {a b : Rat} (h : Pt k a) (hk : k ≤ 45) (t : Tm b) : PlusOk a b := ⟨pt_fits h hk, tm_fits t, low_plus (.inr t.1)⟩
theorem tot_from : ∀ {xs : List Rat} {a : Rat} {k : Nat}, Pt k a → k + xs.length ≤ 45 → (∀ x ∈ xs, Tm x) → TotFrom a xs ∧ Pt (k + xs.length) (sumFrom a xs)
  | [], _, _, h, _, _ => ⟨trivial, h⟩
  | x :: xs, a, k, h, hk, ht => by
    rw [List.length_cons] at hk
    have t := ht x List.mem_cons_self
    obtain ⟨r1, r2⟩ := tot_from (xs := xs) (pt_add h t) (by omega) fun y hy => ht y (List.mem_cons_of_mem _ hy)
    refine ⟨⟨plus_tm h (by omega) t, r1⟩, ?_⟩
    rw [List.length_cons, show k + (xs.length + 1) = k + 1 + xs.length by omega]
    exact r2
theorem tot_tm {xs : List Rat} (hl : xs.length ≤ 45) (ht : ∀ x ∈ xs, Tm x) : TotOk xs := (tot_from pt_zero (by omega) ht).1
theorem sum_pt {xs : List Rat} (hl : xs.length ≤ 45) (ht : ∀ x ∈ xs, Tm x) : Pt xs.length (sumL xs) := by
  have := (tot_from pt_zero (by omega) ht).2
  rwa [Nat.zero_add] at this
/-- bits of a ratio -/
def Bt (d s : Nat) (q : Rat) : Prop := q.den ≤ 2 ^ d ∧ q.num.natAbs ≤ 2 ^ s
theorem bt_mul {a b : Rat} {d s d' s' : Nat} (h : Bt d s a) (k : Bt d' s' b) : Bt (d + d') (s + s') (a * b) := by
  refine ⟨?_, ?_⟩
  · rw [Nat.pow_add]; exact Nat.le_trans (mul_den_le a b) (Nat.mul_le_mul h.1 k.1)
  · rw [Nat.pow_add]; exact Nat.le_trans (mul_num_le a b) (Nat.mul_le_mul h.2 k.2)
theorem bt_mono {a : Rat} {d s d' s' : Nat} (h : Bt d s a) (h1 : d ≤ d') (h2 : s ≤ s') : Bt d' s' a := ⟨Nat.le_trans h.1 (two_le h1), Nat.le_trans h.2 (two_le h2)⟩
theorem bt_tm {a : Rat} {d s : Nat} (h : Bt d s a) (h1 : d < 4500) (h2 : s < 8000) : Tm a := ⟨Nat.lt_of_le_of_lt h.1 (Nat.pow_lt_pow_right (by omega) h1), Nat.lt_of_le_of_lt h.2 (Nat.pow_lt_pow_right (by omega) h2)⟩
theorem bt_fits {a : Rat} {d s : Nat} (h : Bt d s a) (h1 : d < 400000) (h2 : s < 400000) : Fits a := ⟨Nat.lt_of_le_of_lt h.2 (Nat.pow_lt_pow_right (by omega) h2), Nat.lt_of_le_of_lt h.1 (Nat.pow_lt_pow_right (by omega) h1)⟩
theorem bt_times {a b : Rat} {d s d' s' : Nat} (h : Bt d s a) (k : Bt d' s' b) (h1 : d + d' < 9000) (h2 : s < 400000) (h3 : s' < 400000) : TimesOk a b := by
  refine ⟨bt_fits h (by omega) h2, bt_fits k (by omega) h3, low_times ?_⟩
  refine Nat.lt_of_le_of_lt (Nat.mul_le_mul h.1 k.1) ?_
  rw [← Nat.pow_add]
  exact Nat.pow_lt_pow_right (by omega) h1
theorem bt_zero (d s : Nat) : Bt d s 0 := ⟨Nat.one_le_two_pow, Nat.zero_le _⟩
theorem at0_bt {d s : Nat} {xs : List Rat} (h : ∀ x ∈ xs, Bt d s x) (i : Nat) : Bt d s (at0 xs i) := by
  unfold at0
  rw [List.getD_eq_getElem?_getD]
  cases e : xs[i]? with
  | none => exact bt_zero _ _
  | some x => exact h x (List.mem_of_getElem? e)
/-- sums of products -/
theorem dot_bt {xs ys : List Rat} {d s d' s' : Nat} (hx : ∀ x ∈ xs, Bt d s x) (hy : ∀ y ∈ ys, Bt d' s' y) (hl : xs.length ≤ 45) (h1 : d + d' < 4500) (h2 : s + s' < 8000) : DotOk xs ys ∧ Pt (dotP xs ys).length (sumL (dotP xs ys)) := by
  have tm : ∀ x ∈ dotP xs ys, Tm x := fun x hx' => by
    unfold dotP at hx'
    rw [List.mem_iff_getElem?] at hx'
    obtain ⟨i, e⟩ := hx'
    rw [List.getElem?_zipWith] at e
    cases e1 : xs[i]? with
    | none => rw [e1] at e; cases e
    | some x1 =>
      cases e2 : ys[i]? with
      | none => rw [e1, e2] at e; cases e
      | some y1 =>
        rw [e1, e2] at e
        cases e
        exact bt_tm (bt_mul (hx _ (List.mem_of_getElem? e1)) (hy _ (List.mem_of_getElem? e2))) h1 h2
  have hl2 : (dotP xs ys).length ≤ 45 := by unfold dotP; rw [List.length_zipWith]; omega
  exact ⟨⟨fun i _ _ => bt_times (at0_bt hx i) (at0_bt hy i) (by omega) (by omega) (by omega), tot_tm hl2 tm⟩, sum_pt hl2 tm⟩
end LP
end

section
set_option Elab.async false
set_option linter.all false
set_option maxRecDepth 100000
set_option maxHeartbeats 1000000
namespace WB
open PySem PySem.Spec PyProof.Rows L2 LamX LP
abbrev s_least : Stmt := top 42
abbrev s__law_begun : Stmt := top 44
abbrev s__law_blended : Stmt := top 45
abbrev s__law_draw : Stmt := top 46
abbrev s__law_shuffled : Stmt := top 47
abbrev s__law_caught : Stmt := top 48
abbrev s__law_q : Stmt := top 49
abbrev s__law_plus : Stmt := top 50
abbrev s__law_minus : Stmt := top 51
abbrev s__law_times : Stmt := top 52
abbrev s__law_less : Stmt := top 53
abbrev s__law_sum : Stmt := top 54
abbrev s__law_dot : Stmt := top 55
abbrev s__law_mixed : Stmt := top 56
abbrev s__law_is_answer : Stmt := top 57
abbrev s__law_hw_neg : Stmt := top 58
abbrev s__law_graph : Stmt := top 59
abbrev s__law_ways : Stmt := top 60
abbrev s__law_program : Stmt := top 61
abbrev s__law_goes : Stmt := top 62
abbrev s_law : Stmt := top 63
theorem sc_least : FnScope ["program", "found"] ["program"] (defScope s_least) := ⟨rfl, rfl, rfl, by decide +kernel, rfl, by decide +kernel, by decide +kernel⟩
theorem sc__law_begun : FnScope ["script", "great", "cell"] ["script"] (defScope s__law_begun) := ⟨rfl, rfl, rfl, by decide +kernel, rfl, by decide +kernel, by decide +kernel⟩
theorem sc__law_blended : FnScope ["state", "turn", "found", "prime", "blend", "cell"] ["state"] (defScope s__law_blended) := ⟨rfl, rfl, rfl, by decide +kernel, rfl, by decide +kernel, by decide +kernel⟩
theorem sc__law_draw : FnScope ["state", "room", "found"] ["state", "room"] (defScope s__law_draw) := ⟨rfl, rfl, rfl, by decide +kernel, rfl, by decide +kernel, by decide +kernel⟩
theorem sc__law_shuffled : FnScope ["state", "some", "left", "found"] ["state", "some"] (defScope s__law_shuffled) := ⟨rfl, rfl, rfl, by decide +kernel, rfl, by decide +kernel, by decide +kernel⟩
theorem sc__law_caught : FnScope ["action", "found"] ["action"] (defScope s__law_caught) := ⟨rfl, rfl, rfl, by decide +kernel, rfl, by decide +kernel, by decide +kernel⟩
theorem sc__law_q : FnScope ["n", "d", "one", "other"] ["n", "d"] (defScope s__law_q) := ⟨rfl, rfl, rfl, by decide +kernel, rfl, by decide +kernel, by decide +kernel⟩
theorem sc__law_plus : FnScope ["one", "other"] ["one", "other"] (defScope s__law_plus) := ⟨rfl, rfl, rfl, by decide +kernel, rfl, by decide +kernel, by decide +kernel⟩
theorem sc__law_minus : FnScope ["one", "other"] ["one", "other"] (defScope s__law_minus) := ⟨rfl, rfl, rfl, by decide +kernel, rfl, by decide +kernel, by decide +kernel⟩
theorem sc__law_times : FnScope ["one", "other"] ["one", "other"] (defScope s__law_times) := ⟨rfl, rfl, rfl, by decide +kernel, rfl, by decide +kernel, by decide +kernel⟩
theorem sc__law_less : FnScope ["one", "other"] ["one", "other"] (defScope s__law_less) := ⟨rfl, rfl, rfl, by decide +kernel, rfl, by decide +kernel, by decide +kernel⟩
theorem sc__law_sum : FnScope ["some", "found", "each"] ["some"] (defScope s__law_sum) := ⟨rfl, rfl, rfl, by decide +kernel, rfl, by decide +kernel, by decide +kernel⟩
theorem sc__law_dot : FnScope ["one", "other", "left", "right"] ["one", "other"] (defScope s__law_dot) := ⟨rfl, rfl, rfl, by decide +kernel, rfl, by decide +kernel, by decide +kernel⟩
theorem sc__law_mixed : FnScope ["weights", "rows", "width", "at", "weight", "row"] ["weights", "rows", "width"] (defScope s__law_mixed) := ⟨rfl, rfl, rfl, by decide +kernel, rfl, by decide +kernel, by decide +kernel⟩
theorem sc__law_is_answer : FnScope ["program", "value", "word", "goal", "limits", "rows", "row", "bound", "kind", "worth", "point", "prices", "price", "limit", "weight", "part", "ray"] ["program", "value"] (defScope s__law_is_answer) := ⟨rfl, rfl, rfl, by decide +kernel, rfl, by decide +kernel, by decide +kernel⟩
theorem sc__law_hw_neg : FnScope ["part"] ["part"] (defScope s__law_hw_neg) := ⟨rfl, rfl, rfl, by decide +kernel, rfl, by decide +kernel, by decide +kernel⟩
theorem sc__law_graph : FnScope ["draws", "knots", "arcs", "way", "found", "arc", "one", "other", "length", "heights", "own"] ["draws", "knots", "arcs"] (defScope s__law_graph) := ⟨rfl, rfl, rfl, by decide +kernel, rfl, by decide +kernel, by decide +kernel⟩
theorem sc__law_ways : FnScope ["knots", "arcs", "begun_at", "found", "own", "falls", "lap", "one", "other", "length", "later"] ["knots", "arcs", "begun_at"] (defScope s__law_ways) := ⟨rfl, rfl, rfl, by decide +kernel, rfl, by decide +kernel, by decide +kernel⟩
theorem sc__law_program : FnScope ["draws", "knots", "arcs", "first", "last", "limits", "one", "other", "length", "line", "sign", "at", "goal"] ["draws", "knots", "arcs", "first", "last"] (defScope s__law_program) := ⟨rfl, rfl, rfl, by decide +kernel, rfl, by decide +kernel, by decide +kernel⟩
theorem sc__law_goes : FnScope ["draws", "knots", "many", "arcs", "first", "last", "program", "told", "is_below", "caught", "length"] ["draws", "knots", "many"] (defScope s__law_goes) := ⟨rfl, rfl, rfl, by decide +kernel, rfl, by decide +kernel, by decide +kernel⟩
theorem sc_law : FnScope ["script", "draws", "turn", "knots"] ["script"] (defScope s_law) := ⟨rfl, rfl, rfl, by decide +kernel, rfl, by decide +kernel, by decide +kernel⟩
structure LawA where
  least : Addr × FuncData
  _law_begun : Addr × FuncData
  _law_blended : Addr × FuncData
  _law_draw : Addr × FuncData
  _law_shuffled : Addr × FuncData
  _law_caught : Addr × FuncData
  _law_q : Addr × FuncData
  _law_plus : Addr × FuncData
  _law_minus : Addr × FuncData
  _law_times : Addr × FuncData
  _law_less : Addr × FuncData
  _law_sum : Addr × FuncData
  _law_dot : Addr × FuncData
  _law_mixed : Addr × FuncData
  _law_is_answer : Addr × FuncData
  _law_hw_neg : Addr × FuncData
  _law_graph : Addr × FuncData
  _law_ways : Addr × FuncData
  _law_program : Addr × FuncData
  _law_goes : Addr × FuncData
  law : Addr × FuncData
structure LawTxt (K : PySem.W.Frag) (mg : Str → Option Value) (A : LPA) (B : LawA) : Prop extends LPTxt K mg A where
  n_abs : mg "abs" = none
  n_min : mg "min" = none
  n_max : mg "max" = none
  least : Nm K mg "least" s_least ["program"] B.least
  _law_begun : Nm K mg "_law_begun" s__law_begun ["script"] B._law_begun
  _law_blended : Nm K mg "_law_blended" s__law_blended ["state"] B._law_blended
  _law_draw : Nm K mg "_law_draw" s__law_draw ["state", "room"] B._law_draw
  _law_shuffled : Nm K mg "_law_shuffled" s__law_shuffled ["state", "some"] B._law_shuffled
  _law_caught : Nm K mg "_law_caught" s__law_caught ["action"] B._law_caught
  _law_q : Nm K mg "_law_q" s__law_q ["n", "d"] B._law_q
  _law_plus : Nm K mg "_law_plus" s__law_plus ["one", "other"] B._law_plus
  _law_minus : Nm K mg "_law_minus" s__law_minus ["one", "other"] B._law_minus
  _law_times : Nm K mg "_law_times" s__law_times ["one", "other"] B._law_times
  _law_less : Nm K mg "_law_less" s__law_less ["one", "other"] B._law_less
  _law_sum : Nm K mg "_law_sum" s__law_sum ["some"] B._law_sum
  _law_dot : Nm K mg "_law_dot" s__law_dot ["one", "other"] B._law_dot
  _law_mixed : Nm K mg "_law_mixed" s__law_mixed ["weights", "rows", "width"] B._law_mixed
  _law_is_answer : Nm K mg "_law_is_answer" s__law_is_answer ["program", "value"] B._law_is_answer
  _law_hw_neg : Nm K mg "_law_hw_neg" s__law_hw_neg ["part"] B._law_hw_neg
  _law_graph : Nm K mg "_law_graph" s__law_graph ["draws", "knots", "arcs"] B._law_graph
  _law_ways : Nm K mg "_law_ways" s__law_ways ["knots", "arcs", "begun_at"] B._law_ways
  _law_program : Nm K mg "_law_program" s__law_program ["draws", "knots", "arcs", "first", "last"] B._law_program
  _law_goes : Nm K mg "_law_goes" s__law_goes ["draws", "knots", "many"] B._law_goes
  law : Nm K mg "law" s_law ["script"] B.law
end WB
end

section
set_option Elab.async false
set_option linter.all false
set_option maxRecDepth 100000
set_option maxHeartbeats 2000000
set_option exponentiation.threshold 1000000
namespace WB
open PySem PySem.Spec PyProof.Rows L2 LamX LP
variable {P : Program} {w : World} {K : PySem.W.Frag} {mg : Str → Option Value} {base : Heap} {A : LPA} {B : LawA} {T : List (Addr × Str)} {Pc : Addr}

/-- a comprehension whose parts may change the heap -/
theorem lc_inv {J : It} {Ok : Hp → Prop} {n : Nat} {Y : Nat → V → Hp → Hp → Prop} (Sr : Src J Ok n Y) (hn : n ≤ sizeLine) {g : TG} {tt : TT} {te : TE} {vs : List Nat} {σ : L2.St} {H1 : Hp} {Z : Addr → Hp → Prop}
    (I : Addr → Nat → List V → Hp → Prop) (i0 : ∀ D, H1 D = none → I D 0 [] (upd H1 D (.lst []))) (ok : ∀ D i ys H, I D i ys H → Ok H)
    (step : ∀ D i ys x H H' (R : Bool → VK), H1 D = none → i < n → H D = some (.lst ys) → I D i ys H → Y i x H H' →
      (∀ y H4, H4 D = some (.lst ys) → I D (i + 1) (ys ++ [y]) (upd H4 D (.lst (ys ++ [y]))) → R true y H4) → (∀ H4, H4 D = some (.lst ys) → I D (i + 1) ys H4 → R false .non H4) →
      g x (wipe σ vs) H' fun σ2 H2 => wipe σ2 vs = wipe σ vs ∧ tt σ2 H2 fun b H3 => if b = true then te σ2 H3 (R true) else R false .non H3)
    (done : ∀ D ys H, H1 D = none → H D = some (.lst ys) → I D n ys H → Z D H) :
    ∀ D, H1 D = none → ∃ W : Nat → Nat → Hp → Prop, (∃ m, W 0 m (upd H1 D (.lst []))) ∧ ∀ i m H, W i m H →
      (J.stop i H ∧ Z D H) ∨ (J.go i H ∧ ∃ Nx : Hp → Prop, (∀ H', Nx H' → ∃ m', m' < m ∧ W (i + 1) m' H') ∧ ∀ x H', J.yld i H x H' → g x (wipe σ vs) H' fun σ2 H2 => wipe σ2 vs = wipe σ vs ∧ tt σ2 H2 fun b H3 =>
        if b = true then te σ2 H3 fun y H4 => ∃ acc, H4 D = some (.lst acc) ∧ acc.length < sizeLine ∧ Nx (upd H4 D (.lst (acc ++ [y]))) else Nx H3) := by
  intro D hD
  let Pv : Nat → Hp → Prop := fun i H => ∃ ys, H D = some (.lst ys) ∧ ys.length ≤ i ∧ I D i ys H
  refine ⟨fun i m H => m = n - i ∧ i ≤ n ∧ Pv i H, ⟨n, rfl, Nat.zero_le _, [], upd_same, Nat.le_refl _, i0 D hD⟩, ?_⟩
  rintro i m H ⟨rfl, hi, ys, hys, hl, hI⟩
  have hok := ok D i ys H hI
  by_cases hlt : i < n
  · refine .inr ⟨Sr.go i H hok hlt, Pv (i + 1), fun H' p' => ⟨n - (i + 1), by omega, rfl, hlt, p'⟩, fun x H' y => ?_⟩
    have base := step D i ys x H H' (fun b v H4 => if b = true then ∃ acc, H4 D = some (.lst acc) ∧ acc.length < sizeLine ∧ Pv (i + 1) (upd H4 D (.lst (acc ++ [v]))) else Pv (i + 1) H4) hD hlt hys hI (Sr.yld i H x H' hok hlt y)
      (fun v H4 h4 hi4 => by
        rw [if_pos rfl]
        exact ⟨ys, h4, by omega, ys ++ [v], upd_same, by rw [List.length_append]; simp; omega, hi4⟩)
      (fun H4 h4 hi4 => by
        rw [if_neg Bool.false_ne_true]
        exact ⟨ys, h4, by omega, hi4⟩)
    simp only [if_true, Bool.false_eq_true, if_false] at base
    exact base
  · have e : i = n := by omega
    subst e
    exact .inl ⟨Sr.stop H hok, done D ys H hD hys hI⟩

/-! ### draws -/
def stK (g c : Addr) (r t : Int) : List (L2.Key × V) := [(.inr "great", .ref g), (.inr "cells", .ref c), (.inr "rest", .int r), (.inr "turn", .int t)]
structure StIn (d g c : Addr) (great cells : List Int) (r t : Int) (H : Hp) : Prop where
  hd : H d = some (.dK (stK g c r t))
  hg : IL H g great
  hc : IL H c cells
  gc : g ≠ c
/-- at most k times a number was blended -/
def StAt (k : Nat) (d g c : Addr) (H : Hp) : Prop := ∃ great cells r t, StIn d g c great cells r t H ∧ 0 ≤ t ∧ t ≤ k
def SD (d g : Addr) : Addr → Prop := fun b => b = d ∨ b = g
section
variable {d g c : Addr} {great cells : List Int} {r t : Int} {H H' : Hp} {S : Addr → Prop}
theorem gt_great : valV (stK g c r t) (.inr "great") = some (.ref g) := rfl
theorem gt_cells : valV (stK g c r t) (.inr "cells") = some (.ref c) := rfl
theorem gt_rest : valV (stK g c r t) (.inr "rest") = some (.int r) := rfl
theorem gt_turn : valV (stK g c r t) (.inr "turn") = some (.int t) := rfl
theorem pt_rest {x : Int} : putK (stK g c r t) (.inr "rest") (.int x) = stK g c x t := rfl
theorem pt_turn {x : Int} : putK (stK g c r t) (.inr "turn") (.int x) = stK g c r x := rfl
theorem StIn.dg (h : StIn d g c great cells r t H) : d ≠ g := ne_of h.hd h.hg (by intro z; cases z)
theorem StIn.dc (h : StIn d g c great cells r t H) : d ≠ c := ne_of h.hd h.hc (by intro z; cases z)
theorem StIn.ex (h : StIn d g c great cells r t H) (e : Ex T S H H') (n1 : ¬ S d) (n2 : ¬ S g) (n3 : ¬ S c) : StIn d g c great cells r t H' :=
  ⟨e.e d _ n1 h.hd (fun ps z => by cases z), h.hg.ex e n2, h.hc.ex e n3, h.gc⟩
theorem StIn.no (h : StIn d g c great cells r t H) (e : Ex T No H H') : StIn d g c great cells r t H' := h.ex e id id id
theorem StAt.no {k : Nat} (h : StAt k d g c H) (e : Ex T No H H') : StAt k d g c H' := by
  obtain ⟨great, cells, r, t, h, b⟩ := h
  exact ⟨great, cells, r, t, h.no e, b⟩
theorem StAt.mono {j k : Nat} (h : StAt j d g c H) (e : j ≤ k) : StAt k d g c H := by
  obtain ⟨great, cells, r, t, h, b1, b2⟩ := h
  exact ⟨great, cells, r, t, h, b1, by omega⟩
/-- a new list is laid, or written, that is none of the state's -/
theorem StAt.exD {D : Addr} {k : Nat} (h : StAt k d g c H) (e : Ex T (· = D) H H') (n : d ≠ D ∧ g ≠ D ∧ c ≠ D) : StAt k d g c H' := by
  obtain ⟨great, cells, r, t, h, b⟩ := h
  exact ⟨great, cells, r, t, h.ex e n.1 n.2.1 n.2.2, b⟩
theorem StAt.ne {k : Nat} (h : StAt k d g c H) {D : Addr} (hD : H D = none) : d ≠ D ∧ g ≠ D ∧ c ≠ D := by
  obtain ⟨great, cells, r, t, h, _⟩ := h
  exact ⟨ne_of_none h.hd hD, ne_of_none h.hg hD, ne_of_none h.hc hD⟩
end
/-- what the draws write holds no tuple -/
theorem Ex.tuSD {k : Nat} {d g c : Addr} {H H' : Hp} (e : Ex T (SD d g) H H') (h : StAt k d g c H) : Tu H H' := by
  obtain ⟨great, cells, r, t, h, _⟩ := h
  refine e.tuS fun p hp u hu => ?_
  rcases hp with z | z
  · rw [z, h.hd] at hu; cases hu; exact .dK _
  · rw [z, show H g = _ from h.hg] at hu; cases hu; exact .lst _
section
variable (K T)
def sp_begun : Sp := fun vs H Q _ => ∃ a ns, vs = [.ref a] ∧ SqL K H a ((ns : List Int).map V.int) ∧ ns.length ≤ sizeLine ∧ ∀ d g c H', Ex T No H H' → StAt 0 d g c H' → Nw H d → Nw H g → Q (.ref d) H'
def sp_blended : Sp := fun vs H Q _ => ∃ d g c k, vs = [.ref d] ∧ StAt k d g c H ∧ k ≤ 2 ^ 40 ∧ ∀ (n : Int) H', Ex T (SD d g) H H' → StAt (k + 1) d g c H' → Q (.int n) H'
def sp_draw : Sp := fun vs H Q _ => ∃ d g c k room, vs = [.ref d, .int room] ∧ StAt k d g c H ∧ k ≤ 2 ^ 40 ∧ 0 < room ∧ Sm room ∧ ∀ (n : Int) H', 0 ≤ n → n < room → Ex T (SD d g) H H' → StAt (k + 1) d g c H' → Q (.int n) H'
def sp_pick : Sp := fun vs H Q _ => ∃ d g c k l xs, vs = [.ref d, .ref l] ∧ StAt k d g c H ∧ k ≤ 2 ^ 40 ∧ SqL K H l xs ∧ l ≠ d ∧ l ≠ g ∧ xs ≠ [] ∧ xs.length ≤ 1000 ∧ ∀ v H', v ∈ xs → Ex T (SD d g) H H' → StAt (k + 1) d g c H' → Q v H'
end
theorem ten_pow (a b : Int) (ha : a = 10) (hb : 0 ≤ b ∧ b ≤ 1000) : CPow a b := ⟨hb.1, by omega, by subst ha; decide⟩
theorem ok__law_begun (X : LawTxt K mg A B) : FnOk P w K mg base CX0 1 B._law_begun.1 B._law_begun.2 ["script"] (sp_begun K T) := by
  refine X._law_begun.fn.ok sc__law_begun (fun vs H Q E h => ?_) (fun cdv A' outer s H vs Q E hr h => ?_)
  · obtain ⟨_, _, rfl, _⟩ := h; rfl
  · obtain ⟨a, ns, rfl, ha, hz, k⟩ := h
    refine ⟨_, (pss_cons (ps_setLc (i := 1) (own := [("cell", 2)]) rfl sc__law_begun.nd rfl rfl (sw_true rfl rfl rfl (by decide +kernel)) (kpi_list (K := K) (pv 0)) (blkOk_by (N := ["script", "great", "cell"]) (sc := defScope s__law_begun) (by decide +kernel)) (fun _ _ _ _ _ => (pg_name (i := 2) sc__law_begun.nd rfl (Or.inl rfl))) (fun _ _ _ _ _ => (pts_one (pt_cmpR op_ge (pe_callB call_abs (by rfl) X.n_abs (by decide +kernel) (pa_cons (pv 2) pa_nil)) (pe_op op_pow pe_int pe_int) (nomark _)))) (fun _ _ _ _ _ => (pe_op op_sub (pe_callB call_abs (by rfl) X.n_abs (by decide +kernel) (pa_cons (pv 2) pa_nil)) (pe_op op_pow pe_int pe_int))))
  (pss_one (ps_ret (pe_disp (pps_cons pe_str (pv 1) (pps_cons pe_str (pe_lc (own := [("cell", 2)]) (tt := tYes) rfl sc__law_begun.nd  (kpi_list (K := K) (pv 0)) (blkOk_by (N := ["script", "great", "cell"]) (sc := defScope s__law_begun) (by decide +kernel)) (fun _ _ _ _ _ => (pg_name (i := 2) sc__law_begun.nd rfl (Or.inl rfl))) (fun _ _ _ _ _ => pts_nil) (fun _ _ _ _ _ => (pe_callB call_abs (by rfl) X.n_abs (by decide +kernel) (pa_cons (pv 2) pa_nil)))) (pps_cons pe_str pe_int (pps_cons pe_str pe_int pps_nil)))) rfl rfl (by decide) (by decide))))), ?_⟩
    have nget : ∀ {j : Nat} {x : V}, (ns.map V.int)[j]? = some x → ∃ i : Int, x = .int i := fun {j x} e => by
      rw [List.getElem?_map] at e
      cases q : ns[j]? with
      | none => rw [q] at e; cases e
      | some i => rw [q] at e; exact ⟨i, (Option.some.inj e).symm⟩
    refine seq_of (fun σ H1 => ∃ g great, σ = [some (.ref a), some (.ref g), none] ∧ Ex T No H H1 ∧ IL H1 g great ∧ Nw H g) (fun N hN => ?_) ?_
    · refine ⟨_, rfl, a, rfl, ⟨_, ha⟩, lc_src (T := T) (src_list (K := K) (a := a) (xs := ns.map V.int)) (by rw [List.length_map]; exact hz) (P := fun D j y _ => ∃ i : Int, y = .int i) (keep := fun j => decide ((10 : Int) ^ (18 : Int).toNat ≤ (if ent ns j < 0 then - ent ns j else ent ns j))) (fun D H5 hD ex => ex.sqLD ha hD) (fun D j y H5 H6 _ _ _ h => h)
            (fun D j x2 H5 H6 R hD hacc hj ex hY h1 h2 => ?_) (fun D zs H2 hD ex2 hys hl2 hP => ?_)⟩
      · obtain ⟨e1, rfl⟩ := hY
        have hj' : j < ns.length := by simpa using hj
        rw [ent_get hj'] at e1; cases e1
        refine ⟨rfl, _, rfl, _, rfl, _, _, rfl, rfl, ten_pow _ _ rfl (by omega), _, _, rfl, rfl, _, rfl, ?_⟩
        refine ite2 (fun z => ?_) (fun z => ?_)
        · exact ⟨_, rfl, _, rfl, _, _, rfl, rfl, ten_pow _ _ rfl (by omega), _, _, rfl, rfl, h1 z _ _ Ex.refl ⟨_, rfl⟩⟩
        · exact h2 (Bool.eq_false_iff.mpr z) _ Ex.refl
      · have hz2 : ∃ great : List Int, zs = great.map V.int := by
          have : ∀ (zs : List V), (∀ y ∈ zs, ∃ i : Int, y = .int i) → ∃ great : List Int, zs = great.map V.int := by
            intro zs
            induction zs with
            | nil => intro _; exact ⟨[], rfl⟩
            | cons z zs ih =>
              intro h
              obtain ⟨gr, e⟩ := ih fun y hy => h y (List.mem_cons_of_mem _ hy)
              obtain ⟨i, e2⟩ := h z List.mem_cons_self
              exact ⟨i :: gr, by rw [e, e2]; rfl⟩
          refine this zs fun y hy => ?_
          obtain ⟨j, hj, e⟩ := List.getElem_of_mem hy
          have hjk : j < (kept (fun j => decide ((10 : Int) ^ (18 : Int).toNat ≤ (if ent ns j < 0 then - ent ns j else ent ns j))) (ns.map V.int).length).length := by rw [← hl2]; exact hj
          exact hP j y _ (by rw [List.getElem?_eq_getElem hj, e]) (List.getElem?_eq_getElem hjk)
        obtain ⟨great, rfl⟩ := hz2
        exact hN _ _ ⟨D, great, rfl, ex2, hys, Nw.of hD⟩
    rintro σ H1 ⟨g, great, rfl, ex1, hg, ng⟩
    intro d hd
    have exd : Ex T No H1 (upd H1 d (.dK [])) := Ex.new hd
    have hd0 : (upd H1 d (.dK [])) d = some (.dK []) := upd_same
    have ha1 := exd.sqL (ex1.sqL ha)
    refine ⟨_, rfl, _, rfl, a, rfl, ⟨_, ha1⟩, lc_src (T := T) (src_list (K := K) (a := a) (xs := ns.map V.int)) (by rw [List.length_map]; exact hz) (P := fun D j y _ => y = .int (ent (ns.map fun i => if i < 0 then -i else i) j)) (keep := fun _ => true) (fun D H5 hD ex => ex.sqLD ha1 hD) (fun D j y H5 H6 _ _ _ h => h)
            (fun D j x2 H5 H6 R hD hacc hj ex hY h1 h2 => ?_) (fun D zs H2 hD ex2 hys hl2 hP => ?_)⟩
    · obtain ⟨e1, rfl⟩ := hY
      have hj' : j < ns.length := by simpa using hj
      rw [ent_get hj'] at e1; cases e1
      refine ⟨rfl, _, rfl, _, rfl, h1 rfl _ _ Ex.refl ?_⟩
      unfold ent
      rw [List.getD_eq_getElem?_getD, List.getD_eq_getElem?_getD, List.getElem?_map, List.getElem?_eq_getElem hj']; rfl
    · have ey := ints_of (out := ns.map fun i => if i < 0 then -i else i) hl2 (by rw [List.length_map, List.length_map]) hP
      subst ey
      have hg2 := (hg.ex exd id).ex ex2 id
      have hd2 : H2 d = some (.dK []) := ex2.e d _ id hd0 (fun ps z => by cases z)
      refine ⟨hd2, stK g D 0 0, rfl, by show 4 ≤ 15; decide, ?_⟩
      have exF : Ex T No H (upd H2 d (.dK (stK g D 0 0))) := (ex1.trans (exd.trans ex2)).setN (ex1.free hd) hd2 (.dK _)
      have ndg : d ≠ g := ne_of hd2 hg2 (by intro z; cases z)
      have ndD : d ≠ D := ne_of hd2 hys (by intro z; cases z)
      refine k d g D _ exF ⟨great, ns.map fun i => if i < 0 then -i else i, 0, 0, ⟨upd_same, ?_, ?_, ?_⟩, Int.le_refl _, Int.le_refl _⟩ (ex1.free hd) ng
      · unfold IL; rw [upd_ne ndg.symm]; exact hg2
      · unfold IL; rw [upd_ne ndD.symm]; exact hys
      · exact ne_of_none (hg.ex exd id) hD
end WB
end

section
set_option Elab.async false
set_option linter.all false
set_option maxRecDepth 100000
set_option maxHeartbeats 2000000
set_option exponentiation.threshold 1000000
namespace WB
open PySem PySem.Spec PyProof.Rows L2 LamX LP
variable {P : Program} {w : World} {K : PySem.W.Frag} {mg : Str → Option Value} {base : Heap} {A : LPA} {B : LawA} {T : List (Addr × Str)} {Pc : Addr}

section
variable {d g c : Addr} {great cells : List Int} {r t : Int} {H H' : Hp}
theorem StIn.gGreat (h : StIn d g c great cells r t H) : DGet H d (.str "great") (some (.ref g)) := DGet.k (k := .inr "great") h.hd
theorem StIn.gCells (h : StIn d g c great cells r t H) : DGet H d (.str "cells") (some (.ref c)) := DGet.k (k := .inr "cells") h.hd
theorem StIn.gRest (h : StIn d g c great cells r t H) : DGet H d (.str "rest") (some (.int r)) := DGet.k (k := .inr "rest") h.hd
theorem StIn.gTurn (h : StIn d g c great cells r t H) : DGet H d (.str "turn") (some (.int t)) := DGet.k (k := .inr "turn") h.hd
theorem StIn.pRest (h : StIn d g c great cells r t H) {x : Int} : DPut H d (.str "rest") (.int x) (upd H d (.dK (stK g c x t))) := DPut.k (k := .inr "rest") h.hd (by show 4 < sizeLine; decide)
theorem StIn.pTurn (h : StIn d g c great cells r t H) {x : Int} : DPut H d (.str "turn") (.int x) (upd H d (.dK (stK g c r x))) := DPut.k (k := .inr "turn") h.hd (by show 4 < sizeLine; decide)
theorem StIn.put (h : StIn d g c great cells r t H) {r' t' : Int} : StIn d g c great cells r' t' (upd H d (.dK (stK g c r' t'))) :=
  ⟨upd_same, by unfold IL; rw [upd_ne h.dg.symm]; exact h.hg, by unfold IL; rw [upd_ne h.dc.symm]; exact h.hc, h.gc⟩
theorem StIn.exPut (h : StIn d g c great cells r t H) {r' t' : Int} : Ex T (SD d g) H (upd H d (.dK (stK g c r' t'))) := Ex.refl.set (.inl rfl) h.hd (.dK _)
end
theorem mul_small {i j : Int} (h : -(2 ^ 64) < i ∧ i < 2 ^ 64) : CMul i j := .inl h
theorem mul_small2 {i j : Int} (h : -(2 ^ 64) < j ∧ j < 2 ^ 64) : CMul i j := .inr h
theorem div_small {i j : Int} (h : 0 < j ∧ j < 2 ^ 64) : CDivP i j := ⟨h.1, .inl (log_of (Nat.lt_of_lt_of_le (show j.natAbs < 2 ^ 64 by omega) (Nat.pow_le_pow_right (by omega) (by omega))) (by omega))⟩
def primes : List Int := [2147483579, 2147483629, 2147483563]
theorem prime_le {j : Nat} {x : V} (h : (primes.map V.int)[j]? = some x) : ∃ p : Int, x = .int p ∧ 0 < p ∧ p < 2 ^ 31 := by
  match j with
  | 0 => cases h; exact ⟨_, rfl, by omega, by omega⟩
  | 1 => cases h; exact ⟨_, rfl, by omega, by omega⟩
  | 2 => cases h; exact ⟨_, rfl, by omega, by omega⟩
  | j + 3 => simp [primes] at h
theorem ok__law_blended (X : LawTxt K mg A B) : FnOk P w K mg base CX0 1 B._law_blended.1 B._law_blended.2 ["state"] (sp_blended T) := by
  refine X._law_blended.fn.ok sc__law_blended (fun vs H Q E h => ?_) (fun cdv A' outer s H vs Q E hr h => ?_)
  · obtain ⟨_, _, _, _, rfl, _⟩ := h; rfl
  · obtain ⟨d, g, c, k0, rfl, ⟨great, cells, r, t, S, t0, t1⟩, hk, k⟩ := h
    refine ⟨_, (pss_cons (ps_par (i := 1) (j := 2) rfl sc__law_blended.nd rfl rfl (by decide) rfl rfl (pa_cons (pe_op op_add (pe_dget (hu_of hr) (pv 0) pe_str (fun _ _ => rfl)) pe_int) (pa_cons pe_int pa_nil)) rfl)
  (pss_cons (ps_dput (hu_of hr) (pv 0) pe_str (pv 1) rfl)
  (pss_cons (ps_for PassesOwn.never rfl (kpi_list (K := K) (pe_lst (pa_cons pe_int (pa_cons pe_int (pa_cons pe_int pa_nil))))) (pg_name (i := 3) sc__law_blended.nd rfl (Or.inl rfl)) (pss_cons (ps_set (i := 4) sc__law_blended.nd rfl (Or.inl rfl) (pe_op op_add (pe_op op_mul pe_int (pv 1)) (pe_op op_fdivP (pv 3) pe_int)))
  (pss_cons (ps_for PassesOwn.never rfl (kpi_list (K := K) (pe_dget (hu_of hr) (pv 0) pe_str (fun _ _ => rfl))) (pg_name (i := 5) sc__law_blended.nd rfl (Or.inl rfl)) (pss_one (ps_set (i := 4) sc__law_blended.nd rfl (Or.inl rfl) (pe_op op_mod (pe_callTy call_int1 (by rfl) X.n_int (by decide +kernel) (pa_cons (pe_op op_add (pe_op op_add (pe_op op_mul (pv 4) pe_int) (pv 5)) (pv 1)) pa_nil)) (pv 3)))))
  (pss_one (ps_set (i := 2) sc__law_blended.nd rfl (Or.inl rfl) (pe_op op_add (pe_op op_mul (pv 2) pe_int) (pe_op op_mod (pe_callTy call_int1 (by rfl) X.n_int (by decide +kernel) (pa_cons (pe_op op_pow (pv 4) pe_int) pa_nil)) (pv 3))))))))
  (pss_one (ps_ret (pv 2)))))), ?_⟩
    refine seq_of (fun σ H1 => σ = [some (.ref d), some (.int (t + 1)), some (.int 0), none, none, none] ∧ H = H1) (fun N hN => ⟨_, rfl, d, _, rfl, S.gTurn, _, _, rfl, rfl, _, _, rfl, hN _ _ ⟨rfl, rfl⟩⟩) ?_
    rintro _ _ ⟨rfl, rfl⟩
    refine seq_of (fun σ H1 => σ = [some (.ref d), some (.int (t + 1)), some (.int 0), none, none, none] ∧ Ex T (SD d g) H H1 ∧ StIn d g c great cells r (t + 1) H1) (fun N hN => ⟨_, rfl, _, rfl, d, _, rfl, S.pTurn, hN _ _ ⟨rfl, S.exPut, S.put⟩⟩) ?_
    rintro σ H1 ⟨rfl, ex1, S1⟩
    refine seq_of (fun σ H2 => ∃ (f : Int) (e3 e4 e5 : Option V), σ = [some (.ref d), some (.int (t + 1)), some (.int f), e3, e4, e5] ∧ Ex T No H1 H2) (fun N hN => ?_) ?_
    · refine ⟨by show 3 ≤ sizeLine; decide, fun l hl => ⟨l, rfl, ⟨_, .inl (.inl upd_same)⟩, ?_⟩⟩
      have exl : Ex T No H1 (upd H1 l (.lst (primes.map V.int))) := Ex.new hl
      refine for_src (src_list (K := K) (a := l) (xs := primes.map V.int)) (fun i σ H2 => ∃ (f : Int) (e3 e4 e5 : Option V), σ = [some (.ref d), some (.int (t + 1)), some (.int f), e3, e4, e5] ∧ H2 = upd H1 l (.lst (primes.map V.int)))
        ⟨0, _, _, _, rfl, rfl⟩ (fun i σ H2 _ ⟨_, _, _, _, _, e⟩ => by rw [e]; exact .inl (.inl upd_same)) ?_ ?_
      · rintro i v σ H2 _ hi ⟨f, e3, e4, e5, rfl, rfl⟩ ⟨hv, rfl⟩
        obtain ⟨p, rfl, p0, p1⟩ := prime_le hv
        have S2 := S1.no exl
        refine seq_of (fun σ H3 => ∃ bl : Int, σ = [some (.ref d), some (.int (t + 1)), some (.int f), some (.int p), some (.int bl), e5] ∧ H3 = upd H1 l (.lst (primes.map V.int)) ∧ bl.natAbs < 2 ^ 64) (fun N hN => ?_) ?_
        · refine ⟨_, rfl, _, _, rfl, rfl, mul_small (by omega), _, rfl, _, _, rfl, rfl, div_small (by omega), _, _, rfl, rfl, ?_⟩
          refine hN _ _ ⟨48271 * (t + 1) + p / 53, rfl, rfl, ?_⟩
          have h1 : 0 ≤ p / 53 := by omega
          have h2 : p / 53 ≤ p := by omega
          omega
        rintro σ H3 ⟨bl, rfl, rfl, hb⟩
        refine seq_of (fun σ H3 => ∃ (bl : Int) (e5 : Option V), σ = [some (.ref d), some (.int (t + 1)), some (.int f), some (.int p), some (.int bl), e5] ∧ H3 = upd H1 l (.lst (primes.map V.int)) ∧ bl.natAbs < 2 ^ 64) (fun N hN => ?_) ?_
        · refine ⟨_, rfl, d, _, rfl, S2.gCells, c, rfl, ⟨_, S2.hc.sq⟩, for_src (src_list (K := K) (a := c) (xs := cells.map V.int)) (fun i σ H3 => ∃ (bl : Int) (e5 : Option V), σ = [some (.ref d), some (.int (t + 1)), some (.int f), some (.int p), some (.int bl), e5] ∧ H3 = upd H1 l (.lst (primes.map V.int)) ∧ bl.natAbs < 2 ^ 64)
            ⟨bl, _, rfl, rfl, hb⟩ (fun i σ H3 _ ⟨_, _, _, e, _⟩ => by rw [e]; exact S2.hc.sq) ?_ (fun σ H3 ⟨bl, e5, e1, e2, e3⟩ => hN _ _ ⟨bl, e5, e1, e2, e3⟩)⟩
          rintro j v σ H3 _ hj ⟨bl, e5, rfl, rfl, hb⟩ ⟨hv, rfl⟩
          have hj' : j < cells.length := by simpa using hj
          rw [ent_get hj'] at hv; cases hv
          refine ⟨_, rfl, _, _, rfl, rfl, mul_small2 (by omega), _, rfl, _, _, rfl, rfl, _, rfl, _, _, rfl, rfl, .inl ⟨_, rfl, _, rfl, _, _, rfl, rfl, p0, ?_⟩⟩
          refine ⟨_, _, rfl, rfl, ?_⟩
          have h1 := Int.emod_nonneg (bl * 69621 + ent cells j + (t + 1)) (b := p) (by omega)
          have h2 := Int.emod_lt_of_pos (bl * 69621 + ent cells j + (t + 1)) p0
          omega
        rintro σ H3 ⟨bl, e5, rfl, rfl, hb⟩
        refine ⟨_, rfl, _, _, rfl, rfl, mul_small2 (by omega), _, rfl, _, _, rfl, rfl, ⟨by omega, by omega, hb⟩, .inl ⟨_, rfl, _, rfl, _, _, rfl, rfl, p0, _, _, rfl, rfl, ?_⟩⟩
        exact ⟨_, _, _, _, rfl, rfl⟩
      · rintro σ H2 ⟨f, e3, e4, e5, rfl, rfl⟩
        exact hN _ _ ⟨f, _, _, _, rfl, exl⟩
    rintro σ H2 ⟨f, e3, e4, e5, rfl, ex2⟩
    exact ⟨_, rfl, k f H2 (ex1.trans ex2.of_no) ⟨great, cells, r, t + 1, S1.no ex2, by omega, by omega⟩⟩
theorem ok__law_draw (X : LawTxt K mg A B) : FnOk P w K mg base CX0 2 B._law_draw.1 B._law_draw.2 ["state", "room"] (sp_draw T) := by
  refine X._law_draw.fn.ok sc__law_draw (fun vs H Q E h => ?_) (fun cdv A' outer s H vs Q E hr h => ?_)
  · obtain ⟨_, _, _, _, _, rfl, _⟩ := h; rfl
  · obtain ⟨d, g, c, k0, room, rfl, ⟨great, cells, r, t, S, t0, t1⟩, hk, r0, rS, k⟩ := h
    have ok__law_blended : ∀ {P : Program} {w : World} {base : Heap} (X : LawTxt K mg A B), FnOk P w K mg base CX0 1 B._law_blended.1 B._law_blended.2 ["state"] (sp_blended T) := fun X => ok__law_blended X
    refine ⟨_, (pss_cons (ps_if (pt_cmpR op_eq (pe_dget (hu_of hr) (pv 0) pe_str (fun _ _ => rfl)) pe_int (nomark _)) (pss_one (ps_dput (hu_of hr) (pv 0) pe_str (pe_ifExp (pt_cmpR (kneD (K := K) (hu64 hr)) (pe_dget (hu_of hr) (pv 0) pe_str (fun _ _ => rfl)) (pe_lst pa_nil) (nomark _)) (pe_bm PySem.F.plainAttrs_list PySem.F.slot_list_pop PySem.F.type_list_pop mt_popAt (pe_dget (hu_of hr) (pv 0) pe_str (fun _ _ => rfl)) (pa_cons pe_int pa_nil)) (pe_call (ok__law_blended X) (hr.mono (by decide)) rfl X._law_blended.g X._law_blended.fn.kp X._law_blended.b .nil pass0 (pa_cons (pv 0) pa_nil))) rfl)) pss_nil)
  (pss_cons (ps_set (i := 2) sc__law_draw.nd rfl (Or.inl rfl) (pe_op op_mod (pe_callTy call_int1 (by rfl) X.n_int (by decide +kernel) (pa_cons (pe_dget (hu_of hr) (pv 0) pe_str (fun _ _ => rfl)) pa_nil)) (pv 1)))
  (pss_cons (ps_dput (hu_of hr) (pv 0) pe_str (pe_op op_fdivP (pe_dget (hu_of hr) (pv 0) pe_str (fun _ _ => rfl)) (pv 1)) rfl)
  (pss_one (ps_ret (pv 2)))))), ?_⟩
    refine seq_of (fun σ H1 => σ = [some (.ref d), some (.int room), none] ∧ Ex T (SD d g) H H1 ∧ StAt (k0 + 1) d g c H1) (fun N hN => ?_) ?_
    · refine ⟨_, rfl, d, _, rfl, S.gRest, rfl, _, rfl, ?_⟩
      refine ite2 (fun hz => ?_) (fun hz => ?_)
      · refine ⟨_, rfl, d, _, rfl, S.gGreat, Nat.zero_le _, fun p hp => ?_⟩
        have exp : Ex T No H (upd H p (.lst [])) := Ex.new hp
        have S1 := S.no exp
        refine ⟨_, .list [], dp_ints S1.hg, .lst (.inl (.inl upd_same)) .nil, PySem.W.ke_shaped_ints _, PySem.W.ke_shaped_ints [], _, rfl, ?_⟩
        rw [eqv_nil]
        cases great with
        | nil =>
          refine iteN (by decide) ?_
          refine ⟨_, rfl, d, g, c, k0, rfl, ⟨[], cells, r, t, S1, t0, t1⟩, hk, fun n H2 ex2 S2 => ?_⟩
          obtain ⟨gr2, c2, r2, t2, S2, b1, b2⟩ := S2
          exact ⟨_, rfl, d, _, rfl, S2.pRest, hN _ _ ⟨rfl, exp.of_no.trans (ex2.trans S2.exPut), gr2, c2, n, t2, S2.put, b1, b2⟩⟩
        | cons g0 gr =>
          refine iteY rfl ?_
          refine ⟨_, rfl, d, _, rfl, S1.gGreat, .inl ⟨rfl, _, S1.hg.sq⟩, g, _, _, 0, .int g0, rfl, rfl, S1.hg, by omega, by omega, ?_, ?_, ?_⟩
          · exact (ixN_seq (ixN_natt (j := 0) (by simp))).1
          · exact rfl
          have S2 : StIn d g c gr cells r t (upd (upd H p (.lst [])) g (.lst (gr.map V.int))) := ⟨by rw [upd_ne S.dg]; exact S1.hd, upd_same, by unfold IL; rw [upd_ne S.gc.symm]; exact S1.hc, S.gc⟩
          have ex2 : Ex T (SD d g) (upd H p (.lst [])) (upd (upd H p (.lst [])) g (.lst (gr.map V.int))) := Ex.refl.set (.inr rfl) S1.hg (.lst _)
          exact ⟨_, rfl, d, _, rfl, S2.pRest, hN _ _ ⟨rfl, exp.of_no.trans (ex2.trans S2.exPut), gr, cells, g0, t, S2.put, t0, by omega⟩⟩
      · exact hN _ _ ⟨rfl, Ex.refl, great, cells, r, t, S, t0, by omega⟩
    rintro σ H1 ⟨rfl, ex1, great1, cells1, r1, t1', S1, b1, b2⟩
    refine seq_of (fun σ H2 => σ = [some (.ref d), some (.int room), some (.int (r1 % room))] ∧ H1 = H2) (fun N hN => ⟨_, rfl, d, _, rfl, S1.gRest, .inl ⟨_, rfl, _, rfl, _, _, rfl, rfl, r0, hN _ _ ⟨rfl, rfl⟩⟩⟩) ?_
    rintro _ _ ⟨rfl, rfl⟩
    refine seq_of (fun σ H2 => σ = [some (.ref d), some (.int room), some (.int (r1 % room))] ∧ Ex T (SD d g) H1 H2 ∧ StAt (k0 + 1) d g c H2) (fun N hN => ⟨_, rfl, d, _, rfl, S1.gRest, _, rfl, _, _, rfl, rfl, sm_div r0 rS, _, rfl, d, _, rfl, S1.pRest, hN _ _ ⟨rfl, S1.exPut, great1, cells1, _, t1', S1.put, b1, b2⟩⟩) ?_
    rintro σ H2 ⟨rfl, ex2, S2⟩
    exact ⟨_, rfl, k _ H2 (Int.emod_nonneg _ (by omega)) (Int.emod_lt_of_pos _ r0) (ex1.trans ex2) S2⟩
end WB
end

section
set_option Elab.async false
set_option linter.all false
set_option maxRecDepth 100000
set_option maxHeartbeats 2000000
set_option exponentiation.threshold 1000000
namespace WB
open PySem PySem.Spec PyProof.Rows L2 LamX LP
variable {P : Program} {w : World} {K : PySem.W.Frag} {mg : Str → Option Value} {base : Heap} {A : LPA} {B : LawA} {T : List (Addr × Str)} {Pc : Addr}

/-! ### the law's own ratios -/
theorem rat_nn (q : Rat) : (-q).num = -q.num := rfl
theorem rat_nd (q : Rat) : (-q).den = q.den := rfl
theorem abs_nat (i : Int) : (if i < 0 then -i else i) = ((i.natAbs : Nat) : Int) := by split <;> omega
theorem ok__law_q (X : LawTxt K mg A B) : FnOk P w K mg base CX0 1 B._law_q.1 B._law_q.2 ["n", "d"] (sp_lowest K T) := by
  refine X._law_q.fn.ok sc__law_q (fun vs H Q E h => ?_) (fun cdv A' outer s H vs Q E hr h => ?_)
  · obtain ⟨_, _, rfl, _⟩ := h; rfl
  · obtain ⟨n, d, rfl, hl, k⟩ := h
    refine ⟨_, (pss_cons (ps_par (i := 2) (j := 3) rfl sc__law_q.nd rfl rfl (by decide) rfl rfl (pa_cons (pe_callB call_abs (by rfl) X.n_abs (by decide +kernel) (pa_cons (pv 0) pa_nil)) (pa_cons (pe_callB call_abs (by rfl) X.n_abs (by decide +kernel) (pa_cons (pv 1) pa_nil)) pa_nil)) rfl)
  (pss_cons (ps_while PassesOwn.never (pt_cmpR op_gt (pv 3) pe_int (nomark _)) (pss_one (ps_par (i := 2) (j := 3) rfl sc__law_q.nd rfl rfl (by decide) rfl rfl (pa_cons (pv 3) (pa_cons (pe_op op_mod (pe_callTy call_int1 (by rfl) X.n_int (by decide +kernel) (pa_cons (pv 2) pa_nil)) (pv 3)) pa_nil)) rfl)))
  (pss_one (ps_ret (pe_ifExp (pt_cmpR op_gt (pv 1) pe_int (nomark _)) (pe_tup (pa_cons (pe_op op_fdivP (pv 0) (pv 2)) (pa_cons (pe_op op_fdivP (pv 1) (pv 2)) pa_nil))) (pe_tup (pa_cons (pe_op op_fdivP (pe_un un_neg (pv 0)) (pv 2)) (pa_cons (pe_op op_fdivP (pe_un un_neg (pv 1)) (pv 2)) pa_nil)))))))), ?_⟩
    refine seq_of (fun σ H1 => σ = [some (.int n), some (.int d), some (.int (n.natAbs : Nat)), some (.int (d.natAbs : Nat))] ∧ H = H1) (fun N hN => ?_) ?_
    · refine ⟨_, rfl, _, rfl, _, rfl, _, rfl, _, _, rfl, ?_⟩
      rw [abs_nat, abs_nat]
      exact hN _ _ ⟨rfl, rfl⟩
    rintro _ _ ⟨rfl, rfl⟩
    refine seq_of (fun σ H1 => σ = [some (.int n), some (.int d), some (.int (Nat.gcd n.natAbs d.natAbs : Nat)), some (.int 0)] ∧ H = H1) (fun N hN => ?_) ?_
    · refine ⟨fun m σ H1 => ∃ x y : Nat, σ = [some (.int n), some (.int d), some (.int (x : Nat)), some (.int (y : Nat))] ∧ H = H1 ∧ Nat.gcd x y = Nat.gcd n.natAbs d.natAbs ∧ m = y, ⟨_, _, _, rfl, rfl, rfl, rfl⟩, ?_⟩
      rintro m σ H1 ⟨x, y, rfl, rfl, hg, rfl⟩
      refine ⟨_, rfl, _, _, rfl, rfl, _, rfl, ?_⟩
      by_cases hy : 0 < m
      · refine iteYd (by exact_mod_cast hy) ?_
        refine ⟨fun σ H2 => ∃ m2, m2 < m ∧ ∃ x y : Nat, σ = [some (.int n), some (.int d), some (.int (x : Nat)), some (.int (y : Nat))] ∧ H = H2 ∧ Nat.gcd x y = Nat.gcd n.natAbs d.natAbs ∧ m2 = y, fun _ _ z => z, ?_⟩
        refine ⟨_, rfl, _, rfl, .inl ⟨_, rfl, _, rfl, _, _, rfl, rfl, (by show (0 : Int) < (m : Int); exact_mod_cast hy), _, _, rfl, ?_⟩⟩
        refine ⟨x % m, Nat.mod_lt _ hy, m, x % m, ?_, rfl, ?_, rfl⟩
        · show [some (V.int n), some (V.int d), some (V.int (m : Nat)), some (V.int ((x : Int) % (m : Int)))] = _
          rw [← Int.natCast_emod]
        · rw [← hg, Nat.gcd_comm x m, Nat.gcd_rec m x]; exact Nat.gcd_comm _ _
      · have h0 : m = 0 := by omega
        subst h0
        refine iteNd (by omega) ?_
        rw [Nat.gcd_zero_right] at hg
        subst hg
        exact hN _ _ ⟨rfl, rfl⟩
    rintro _ _ ⟨rfl, rfl⟩
    refine ⟨_, rfl, _, _, rfl, rfl, _, rfl, iteYd hl.1 ?_⟩
    refine ⟨_, rfl, _, rfl, n, _, rfl, rfl, cdivP_num hl, _, rfl, _, rfl, d, _, rfl, rfl, cdivP_den hl, two_line, fun p hp => ?_⟩
    refine k _ _ (Ex.new hp) (dp_q_of ?_)
    rw [quo_num hl.1, quo_den hl.1]
    exact .inl (.inl upd_same)
section
variable (K T)
def sp_minus : Sp := fun vs H Q _ => ∃ x y a b, vs = [x, y] ∧ Dp K H x (dq a) ∧ Dp K H y (dq b) ∧ PlusOk a (-b) ∧ Gives K T H Q (dq (a - b))
def sp_neg : Sp := fun vs H Q _ => ∃ x a, vs = [x] ∧ Dp K H x (dq a) ∧ Gives K T H Q (dq (-a))
end
theorem ok__law_plus (X : LawTxt K mg A B) : FnOk P w K mg base CX0 2 B._law_plus.1 B._law_plus.2 ["one", "other"] (sp_plus K T) := by
  refine X._law_plus.fn.ok sc__law_plus (fun vs H Q E h => ?_) (fun cdv A' outer s H vs Q E hr h => ?_)
  · obtain ⟨_, _, _, _, rfl, _⟩ := h; rfl
  · obtain ⟨x, y, a, b, rfl, hx, hy, ok, k⟩ := h
    obtain ⟨p, rfl, hp⟩ := dp_q hx
    obtain ⟨q, rfl, hq⟩ := dp_q hy
    have ok__law_q : ∀ {P : Program} {w : World} {base : Heap} (X : LawTxt K mg A B), FnOk P w K mg base CX0 1 B._law_q.1 B._law_q.2 ["n", "d"] (sp_lowest K T) := fun X => ok__law_q X
    refine ⟨_, (pss_one (ps_ret (pe_call (ok__law_q X) (hr.mono (by decide)) rfl X._law_q.g X._law_q.fn.kp X._law_q.b .nil pass0 (pa_cons (pe_op op_add (pe_op op_mulW (pe_ix (kix_tup (K := K)) (pv 0) pe_int (fun _ _ => rfl)) (pe_ix (kix_tup (K := K)) (pv 1) pe_int (fun _ _ => rfl))) (pe_op op_mulW (pe_ix (kix_tup (K := K)) (pv 1) pe_int (fun _ _ => rfl)) (pe_ix (kix_tup (K := K)) (pv 0) pe_int (fun _ _ => rfl)))) (pa_cons (pe_op op_mulW (pe_ix (kix_tup (K := K)) (pv 0) pe_int (fun _ _ => rfl)) (pe_ix (kix_tup (K := K)) (pv 1) pe_int (fun _ _ => rfl))) pa_nil))))), ?_⟩
    refine ⟨_, rfl, p, _, _, _, rfl, rfl, hp, at0_, _, rfl, q, _, _, _, rfl, rfl, hq, at1_, _, _, rfl, rfl, fits_mul ok.1.1 (fits_den ok.2.1), _, rfl, q, _, _, _, rfl, rfl, hq, at0_, _, rfl, p, _, _, _, rfl, rfl, hp, at1_, _, _, rfl, rfl, fits_mul ok.2.1.1 (fits_den ok.1), _, _, rfl, rfl,
      _, rfl, p, _, _, _, rfl, rfl, hp, at1_, _, rfl, q, _, _, _, rfl, rfl, hq, at1_, _, _, rfl, rfl, fits_mul (fits_den ok.1) (fits_den ok.2.1), _, _, rfl, ok.2.2, fun v H' e d => k v H' e ?_⟩
    rw [quo_plus] at d
    exact d
theorem ok__law_minus (X : LawTxt K mg A B) : FnOk P w K mg base CX0 2 B._law_minus.1 B._law_minus.2 ["one", "other"] (sp_minus K T) := by
  refine X._law_minus.fn.ok sc__law_minus (fun vs H Q E h => ?_) (fun cdv A' outer s H vs Q E hr h => ?_)
  · obtain ⟨_, _, _, _, rfl, _⟩ := h; rfl
  · obtain ⟨x, y, a, b, rfl, hx, hy, ok, k⟩ := h
    obtain ⟨p, rfl, hp⟩ := dp_q hx
    obtain ⟨q, rfl, hq⟩ := dp_q hy
    have ok__law_q : ∀ {P : Program} {w : World} {base : Heap} (X : LawTxt K mg A B), FnOk P w K mg base CX0 1 B._law_q.1 B._law_q.2 ["n", "d"] (sp_lowest K T) := fun X => ok__law_q X
    have fb : Fits b := ⟨by have := ok.2.1.1; rw [rat_nn, Int.natAbs_neg] at this; exact this, by have := ok.2.1.2; rw [rat_nd] at this; exact this⟩
    have e : a.num * (b.den : Int) - b.num * (a.den : Int) = a.num * ((-b).den : Int) + (-b).num * (a.den : Int) := by rw [rat_nn, rat_nd]; grind
    have e2 : (a.den : Int) * (b.den : Int) = (a.den : Int) * ((-b).den : Int) := by rw [rat_nd]
    have lo : LowOk (a.num * (b.den : Int) - b.num * (a.den : Int)) ((a.den : Int) * (b.den : Int)) := by rw [e, e2]; exact ok.2.2
    refine ⟨_, (pss_one (ps_ret (pe_call (ok__law_q X) (hr.mono (by decide)) rfl X._law_q.g X._law_q.fn.kp X._law_q.b .nil pass0 (pa_cons (pe_op op_sub (pe_op op_mulW (pe_ix (kix_tup (K := K)) (pv 0) pe_int (fun _ _ => rfl)) (pe_ix (kix_tup (K := K)) (pv 1) pe_int (fun _ _ => rfl))) (pe_op op_mulW (pe_ix (kix_tup (K := K)) (pv 1) pe_int (fun _ _ => rfl)) (pe_ix (kix_tup (K := K)) (pv 0) pe_int (fun _ _ => rfl)))) (pa_cons (pe_op op_mulW (pe_ix (kix_tup (K := K)) (pv 0) pe_int (fun _ _ => rfl)) (pe_ix (kix_tup (K := K)) (pv 1) pe_int (fun _ _ => rfl))) pa_nil))))), ?_⟩
    refine ⟨_, rfl, p, _, _, _, rfl, rfl, hp, at0_, _, rfl, q, _, _, _, rfl, rfl, hq, at1_, _, _, rfl, rfl, fits_mul ok.1.1 (fits_den fb), _, rfl, q, _, _, _, rfl, rfl, hq, at0_, _, rfl, p, _, _, _, rfl, rfl, hp, at1_, _, _, rfl, rfl, fits_mul fb.1 (fits_den ok.1), _, _, rfl, rfl,
      _, rfl, p, _, _, _, rfl, rfl, hp, at1_, _, rfl, q, _, _, _, rfl, rfl, hq, at1_, _, _, rfl, rfl, fits_mul (fits_den ok.1) (fits_den fb), _, _, rfl, lo, fun v H' e' d => k v H' e' ?_⟩
    rw [e, e2, quo_plus, ← Rat.sub_eq_add_neg] at d
    exact d
theorem ok__law_times (X : LawTxt K mg A B) : FnOk P w K mg base CX0 2 B._law_times.1 B._law_times.2 ["one", "other"] (sp_times K T) := by
  refine X._law_times.fn.ok sc__law_times (fun vs H Q E h => ?_) (fun cdv A' outer s H vs Q E hr h => ?_)
  · obtain ⟨_, _, _, _, rfl, _⟩ := h; rfl
  · obtain ⟨x, y, a, b, rfl, hx, hy, ok, k⟩ := h
    obtain ⟨p, rfl, hp⟩ := dp_q hx
    obtain ⟨q, rfl, hq⟩ := dp_q hy
    have ok__law_q : ∀ {P : Program} {w : World} {base : Heap} (X : LawTxt K mg A B), FnOk P w K mg base CX0 1 B._law_q.1 B._law_q.2 ["n", "d"] (sp_lowest K T) := fun X => ok__law_q X
    refine ⟨_, (pss_one (ps_ret (pe_call (ok__law_q X) (hr.mono (by decide)) rfl X._law_q.g X._law_q.fn.kp X._law_q.b .nil pass0 (pa_cons (pe_op op_mulW (pe_ix (kix_tup (K := K)) (pv 0) pe_int (fun _ _ => rfl)) (pe_ix (kix_tup (K := K)) (pv 1) pe_int (fun _ _ => rfl))) (pa_cons (pe_op op_mulW (pe_ix (kix_tup (K := K)) (pv 0) pe_int (fun _ _ => rfl)) (pe_ix (kix_tup (K := K)) (pv 1) pe_int (fun _ _ => rfl))) pa_nil))))), ?_⟩
    refine ⟨_, rfl, p, _, _, _, rfl, rfl, hp, at0_, _, rfl, q, _, _, _, rfl, rfl, hq, at0_, _, _, rfl, rfl, fits_mul ok.1.1 ok.2.1.1,
      _, rfl, p, _, _, _, rfl, rfl, hp, at1_, _, rfl, q, _, _, _, rfl, rfl, hq, at1_, _, _, rfl, rfl, fits_mul (fits_den ok.1) (fits_den ok.2.1), _, _, rfl, ok.2.2, fun v H' e d => k v H' e ?_⟩
    rw [quo_times] at d
    exact d
theorem ok__law_less (X : LawTxt K mg A B) : FnOk P w K mg base CX0 1 B._law_less.1 B._law_less.2 ["one", "other"] (sp_is_less K T) := by
  refine X._law_less.fn.ok sc__law_less (fun vs H Q E h => ?_) (fun cdv A' outer s H vs Q E hr h => ?_)
  · obtain ⟨_, _, _, _, rfl, _⟩ := h; rfl
  · obtain ⟨x, y, a, b, rfl, hx, hy, f1, f2, k⟩ := h
    obtain ⟨p, rfl, hp⟩ := dp_q hx
    obtain ⟨q, rfl, hq⟩ := dp_q hy
    refine ⟨_, (pss_one (ps_ret (pe_cmpR op_lt (pe_op op_mulW (pe_ix (kix_tup (K := K)) (pv 0) pe_int (fun _ _ => rfl)) (pe_ix (kix_tup (K := K)) (pv 1) pe_int (fun _ _ => rfl))) (pe_op op_mulW (pe_ix (kix_tup (K := K)) (pv 1) pe_int (fun _ _ => rfl)) (pe_ix (kix_tup (K := K)) (pv 0) pe_int (fun _ _ => rfl))) (nomark _)))), ?_⟩
    refine ⟨_, rfl, p, _, _, _, rfl, rfl, hp, at0_, _, rfl, q, _, _, _, rfl, rfl, hq, at1_, _, _, rfl, rfl, fits_mul f1.1 (fits_den f2), _, rfl, q, _, _, _, rfl, rfl, hq, at0_, _, rfl, p, _, _, _, rfl, rfl, hp, at1_, _, _, rfl, rfl, fits_mul f2.1 (fits_den f1), _, _, rfl, rfl, ?_⟩
    have e : decide (a.num * (b.den : Int) < b.num * (a.den : Int)) = decide (a < b) := by
      rw [decide_eq_decide]; exact (Rat.lt_iff a b).symm
    show Q (.bl (decide (a.num * (b.den : Int) < b.num * (a.den : Int)))) H
    rw [e]
    exact k _ Ex.refl
theorem ok__law_sum (X : LawTxt K mg A B) : FnOk P w K mg base CX0 3 B._law_sum.1 B._law_sum.2 ["some"] (sp_total K T) := by
  refine X._law_sum.fn.ok sc__law_sum (fun vs H Q E h => ?_) (fun cdv A' outer s H vs Q E hr h => ?_)
  · obtain ⟨_, _, _, rfl, _⟩ := h; rfl
  · obtain ⟨l, xs, qs, rfl, hl, hx, ok, k⟩ := h
    have ok__law_plus : ∀ {P : Program} {w : World} {base : Heap} (X : LawTxt K mg A B), FnOk P w K mg base CX0 2 B._law_plus.1 B._law_plus.2 ["one", "other"] (sp_plus K T) := fun X => ok__law_plus X
    refine ⟨_, (pss_cons (ps_set (i := 1) sc__law_sum.nd rfl (Or.inl rfl) (pe_tup (pa_cons pe_int (pa_cons pe_int pa_nil))))
  (pss_cons (ps_for PassesOwn.never rfl (kpi_list (K := K) (pv 0)) (pg_name (i := 2) sc__law_sum.nd rfl (Or.inl rfl)) (pss_one (ps_set (i := 1) sc__law_sum.nd rfl (Or.inl rfl) (pe_call (ok__law_plus X) (hr.mono (by decide)) rfl X._law_plus.g X._law_plus.fn.kp X._law_plus.b .nil pass0 (pa_cons (pv 1) (pa_cons (pv 2) pa_nil))))))
  (pss_one (ps_ret (pv 1))))), ?_⟩
    refine seq_of (fun σ H1 => ∃ f, σ = [some (.ref l), some f, none] ∧ Ex T No H H1 ∧ Dp K H1 f (dq 0)) (fun N hN => ⟨two_line, fun p hp => hN _ _ ⟨_, rfl, Ex.new hp, dp_q_of (q := 0) (.inl (.inl upd_same))⟩⟩) ?_
    rintro σ H1 ⟨f, rfl, ex1, hf⟩
    refine seq_of (fun σ H2 => ∃ f e, σ = [some (.ref l), some f, e] ∧ Ex T No H H2 ∧ Dp K H2 f (dq (sumL qs))) (fun N hN => ?_) ?_
    · refine ⟨_, rfl, l, rfl, ⟨xs, ex1.sqL hl⟩, for_src (src_list (K := K) (a := l) (xs := xs)) (fun i σ H' => ∃ f e, σ = [some (.ref l), some f, e] ∧ Ex T No H H' ∧ Dp K H' f (dq (sumFrom 0 (qs.take i))))
        ⟨f, _, rfl, ex1, hf⟩ (fun i σ H' _ ⟨_, _, _, e, _⟩ => e.sqL hl) ?_ ?_⟩
      · rintro i v σ H' _ hi ⟨f, e, rfl, ex, hf⟩ ⟨hv, rfl⟩
        obtain ⟨q, hq, dv⟩ := dpAll_mapget hx hv
        refine ⟨_, rfl, _, rfl, f, v, _, q, rfl, hf, dp_tu ex.tu rfl dv, tot_at ok hq, fun f' H2 e2 d2 => ⟨f', some v, rfl, ex.trans e2, ?_⟩⟩
        rw [sum_take hq]
        exact d2
      · rintro σ H' ⟨f, e, rfl, ex, hf⟩
        have hlen : xs.length = qs.length := by simpa using dpAll_len hx
        rw [hlen, List.take_length] at hf
        exact hN _ _ ⟨f, _, rfl, ex, hf⟩
    rintro σ H2 ⟨f, e, rfl, ex2, hf2⟩
    exact ⟨_, rfl, k f H2 ex2 hf2⟩
theorem ok__law_hw_neg (X : LawTxt K mg A B) : FnOk P w K mg base CX0 1 B._law_hw_neg.1 B._law_hw_neg.2 ["part"] (sp_neg K T) := by
  refine X._law_hw_neg.fn.ok sc__law_hw_neg (fun vs H Q E h => ?_) (fun cdv A' outer s H vs Q E hr h => ?_)
  · obtain ⟨_, _, rfl, _⟩ := h; rfl
  · obtain ⟨x, a, rfl, hx, k⟩ := h
    obtain ⟨p, rfl, hp⟩ := dp_q hx
    refine ⟨_, (pss_one (ps_ret (pe_tup (pa_cons (pe_op op_sub pe_int (pe_ix (kix_tup (K := K)) (pv 0) pe_int (fun _ _ => rfl))) (pa_cons (pe_ix (kix_tup (K := K)) (pv 0) pe_int (fun _ _ => rfl)) pa_nil))))), ?_⟩
    refine ⟨_, rfl, p, _, _, _, rfl, rfl, hp, at0_, _, _, rfl, rfl, _, rfl, p, _, _, _, rfl, rfl, hp, at1_, two_line, fun u hu => ?_⟩
    refine k _ _ (Ex.new hu) (dp_q_of ?_)
    rw [rat_nn, rat_nd]
    have e : (0 : Int) - a.num = - a.num := by omega
    rw [← e]
    exact .inl (.inl upd_same)
theorem ok__law_dot (X : LawTxt K mg A B) : FnOk P w K mg base CX0 4 B._law_dot.1 B._law_dot.2 ["one", "other"] (sp_dot K T) := by
  refine X._law_dot.fn.ok sc__law_dot (fun vs H Q E h => ?_) (fun cdv A' outer s H vs Q E hr h => ?_)
  · obtain ⟨_, _, _, _, rfl, _⟩ := h; rfl
  · obtain ⟨x, y, xs, ys, rfl, hx, hy, hl, hz, ok, k⟩ := h
    have ok__law_times : ∀ {P : Program} {w : World} {base : Heap} (X : LawTxt K mg A B), FnOk P w K mg base CX0 2 B._law_times.1 B._law_times.2 ["one", "other"] (sp_times K T) := fun X => ok__law_times X
    have ok__law_sum : ∀ {P : Program} {w : World} {base : Heap} (X : LawTxt K mg A B), FnOk P w K mg base CX0 3 B._law_sum.1 B._law_sum.2 ["some"] (sp_total K T) := fun X => ok__law_sum X
    refine ⟨_, (pss_one (ps_ret (pe_call (ok__law_sum X) (hr.mono (by decide)) rfl X._law_sum.g X._law_sum.fn.kp X._law_sum.b .nil pass0 (pa_cons (pe_lc (own := [("left", 2), ("right", 3)]) (tt := tYes) rfl sc__law_dot.nd  (kpi_zipA (K := K) (by rfl) X.n_zip (pa_cons (pv 0) (pa_cons (pv 1) pa_nil))) (blkOk_by (N := ["one", "other", "left", "right"]) (sc := defScope s__law_dot) (by decide +kernel)) (fun _ _ _ _ _ => (kpg_tup (K := K) (n := 2) rfl (pgs_cons (pg_name (i := 2) sc__law_dot.nd rfl (Or.inl rfl)) (pgs_cons (pg_name (i := 3) sc__law_dot.nd rfl (Or.inl rfl)) pgs_nil)))) (fun _ _ _ _ _ => pts_nil) (fun _ _ _ _ _ => (pe_call (ok__law_times X) (hr.mono (by decide)) rfl X._law_times.g X._law_times.fn.kp X._law_times.b .nil pass0 (pa_cons (pv 2) (pa_cons (pv 3) pa_nil))))) pa_nil)))), ?_⟩
    obtain ⟨a, vs, rfl, ha, hal, hae⟩ := dp_v hx
    obtain ⟨b, us, rfl, hb, hbl, hbe⟩ := dp_v hy
    have hvu : vs.length = us.length := by omega
    refine ⟨_, rfl, _, rfl, a, b, _, _, rfl, .inr ⟨ha, hb, lc_src (T := T) (src_zipT (K := K) (a := a) (b := b) hvu) (by omega) (P := fun D j y H5 => ∃ d, ((dotP xs ys).map dq)[j]? = some d ∧ flatD d = true ∧ Dp K H5 y d) (keep := fun _ => true) (fun D H5 hD ex => ⟨(ex.tuD hD).sqT ha, (ex.tuD hD).sqT hb⟩) (fun D j y H5 H6 hD hacc ex ⟨d, h1, h2, h3⟩ => ⟨d, h1, h2, stab_D d h2 hacc ex h3⟩)
          (fun D j x H5 H6 R hD hacc hj ex hY h1 h2 => ?_) (fun D zs H1 hD ex1 hys hl2 hP => ?_)⟩⟩
    · obtain ⟨t, x1, x2, rfl, nt, rfl, e1, e2⟩ := hY
      obtain ⟨q1, f1, d1⟩ := hae j x1 e1
      obtain ⟨q2, f2, d2⟩ := hbe j x2 e2
      have tu : Tu H (upd H5 t (.tup [x1, x2])) := (ex.tuD hD).trans (Tu.new nt)
      refine ⟨t, _, rfl, .inl (.inl upd_same), rfl, _, _, rfl, _, _, rfl, rfl, rfl, ?_⟩
      refine ⟨_, rfl, _, rfl, x1, x2, q1, q2, rfl, dp_tu tu rfl d1, dp_tu tu rfl d2, ?_, fun v H7 ex7 dv => ?_⟩
      · have := ok.1 j (by have := (List.getElem?_eq_some_iff.mp f1).1; exact this) (by have := (List.getElem?_eq_some_iff.mp f2).1; exact this)
        rw [at0_get f1, at0_get f2] at this; exact this
      · refine h1 rfl _ _ ((Ex.new nt).trans ex7) ⟨dq (q1 * q2), ?_, rfl, dv⟩
        unfold dotP
        rw [List.getElem?_map, List.getElem?_zipWith, f1, f2]; rfl
    · have hz : DpAll K H1 zs ((dotP xs ys).map dq) := datas_of hl2 (by unfold dotP; rw [List.length_map, List.length_zipWith]; omega) fun j y k e1 e2 => by
        obtain ⟨d, h1, h2, h3⟩ := hP j y k e1 e2
        exact ⟨d, h1, h3⟩
      exact ⟨D, zs, dotP xs ys, rfl, .inl (.inl hys), hz, ok.2, fun v H' ex2 d => k v H' (ex1.trans ex2) d⟩

/-! ### drawn ratios, drawn vectors -/
def N12 (q : Rat) : Prop := q.num.natAbs ≤ 10 ^ 12 ∧ q.den ≤ 10 ^ 12
theorem nm_zero : N12 0 := ⟨by decide, by decide⟩
section
variable (K T)
def sp_number : Sp := fun vs H Q _ => ∃ d g c k size, vs = [.ref d, .int size] ∧ StAt k d g c H ∧ k + 4 ≤ 2 ^ 40 ∧ 1 ≤ size ∧ size ≤ 10 ^ 12 ∧ ∀ q v H', N12 q → Ex T (SD d g) H H' → StAt (k + 4) d g c H' → Dp K H' v (dq q) → Q v H'
def sp_vector : Sp := fun vs H Q _ => ∃ d g c k n size, vs = [.ref d, .int (n : Nat), .int size] ∧ StAt k d g c H ∧ k + 9 * n ≤ 2 ^ 40 ∧ n ≤ 100 ∧ 1 ≤ size ∧ size ≤ 10 ^ 12 ∧
  ∀ xs v H', xs.length = n → (∀ q ∈ xs, N12 q) → Ex T (SD d g) H H' → StAt (k + 9 * n) d g c H' → Dp K H' v (dv xs) → Q v H'
end
theorem nm_quo {n d : Int} (h : 0 < d) (hn : n.natAbs ≤ 10 ^ 12) (hd : d ≤ 10 ^ 12) : N12 (quo n d) := by
  refine ⟨?_, ?_⟩
  · rw [quo_num h]
    exact Nat.le_trans (Int.natAbs_ediv_le_natAbs _ _) hn
  · have e := quo_den (n := n) h
    have h2 : d / ((Nat.gcd n.natAbs d.natAbs : Nat) : Int) ≤ d := Int.ediv_le_self _ (by omega)
    omega
theorem sm_le {i : Int} {b : Nat} (h : i.natAbs < 2 ^ b) (hb : b ≤ 9000) : Sm i := Nat.lt_of_lt_of_le h (Nat.pow_le_pow_right (by omega) hb)
end WB
end

section
set_option Elab.async false
set_option linter.all false
set_option maxRecDepth 100000
set_option maxHeartbeats 2000000
set_option exponentiation.threshold 1000000
namespace WB
open PySem PySem.Spec PyProof.Rows L2 LamX LP
variable {P : Program} {w : World} {K : PySem.W.Frag} {mg : Str → Option Value} {base : Heap} {A : LPA} {B : LawA} {T : List (Addr × Str)} {Pc : Addr}

theorem sd_ne {d g D : Addr} {ys : List V} {H H' : Hp} (e : Ex T (SD d g) H H') (h : H D = some (.lst ys)) (n : d ≠ D ∧ g ≠ D) : H' D = some (.lst ys) :=
  e.lst h fun z => by
    rcases z with z | z
    · exact n.1 z.symm
    · exact n.2 z.symm
def colP (ws : List Rat) (rows : List (List Rat)) (at_ : Nat) : List Rat := List.zipWith (fun w r => w * at0 r at_) ws rows
def mixC (ws : List Rat) (rows : List (List Rat)) (n : Nat) : List Rat := (List.range n).map fun at_ => sumL (colP ws rows at_)
structure MixCOk (ws : List Rat) (rows : List (List Rat)) (n : Nat) : Prop where
  t : ∀ at_, at_ < n → ∀ k, k < ws.length → k < rows.length → TimesOk (at0 ws k) (at0 (rows.getD k []) at_)
  s : ∀ at_, at_ < n → TotOk (colP ws rows at_)
section
variable (K T)
def sp_lmixed : Sp := fun vs H Q _ => ∃ x l rs ws rows n, vs = [x, .ref l, .int (n : Nat)] ∧ Dp K H x (dv ws) ∧ SqL K H l rs ∧ DpAll K H rs ((rows : List (List Rat)).map dv) ∧ ws.length = rows.length ∧ rows.length ≤ 1000 ∧ n ≤ 1000 ∧ (∀ r ∈ rows, r.length = n) ∧ MixCOk ws rows n ∧ Gives K T H Q (dv (mixC ws rows n))
end
theorem ok__law_mixed (X : LawTxt K mg A B) : FnOk P w K mg base CX0 4 B._law_mixed.1 B._law_mixed.2 ["weights", "rows", "width"] (sp_lmixed K T) := by
  refine X._law_mixed.fn.ok sc__law_mixed (fun vs H Q E h => ?_) (fun cdv A' outer s H vs Q E hr h => ?_)
  · obtain ⟨_, _, _, _, _, _, rfl, _⟩ := h; rfl
  · obtain ⟨x, l, rs, ws, rows, n, rfl, hx, hl, hrs, hwl, r1, n1, hw, ok, k⟩ := h
    have ok__law_times : ∀ {P : Program} {w : World} {base : Heap} (X : LawTxt K mg A B), FnOk P w K mg base CX0 2 B._law_times.1 B._law_times.2 ["one", "other"] (sp_times K T) := fun X => ok__law_times X
    have ok__law_sum : ∀ {P : Program} {w : World} {base : Heap} (X : LawTxt K mg A B), FnOk P w K mg base CX0 3 B._law_sum.1 B._law_sum.2 ["some"] (sp_total K T) := fun X => ok__law_sum X
    refine ⟨_, (pss_one (ps_ret (pe_callTy (ktuple (K := K)) (by rfl) X.n_tuple (by decide +kernel) (pa_cons (pe_lc (own := [("at", 3)]) (tt := tYes) rfl sc__law_mixed.nd  (pi_range1 rfl X.n_range (pa_cons (pv 2) pa_nil)) (blkOk_by (N := ["weights", "rows", "width", "at", "weight", "row"]) (sc := defScope s__law_mixed) (by decide +kernel)) (fun _ _ _ _ _ => (pg_name (i := 3) sc__law_mixed.nd rfl (Or.inr rfl))) (fun _ _ _ _ _ => pts_nil) (fun _ _ _ _ _ => (pe_call (ok__law_sum X) (hr.mono (by decide)) rfl X._law_sum.g X._law_sum.fn.kp X._law_sum.b .nil pass0 (pa_cons (pe_lc (own := [("weight", 4), ("row", 5)]) (tt := tYes) rfl sc__law_mixed.nd  (kpi_zipTL (K := K) (by rfl) X.n_zip (pa_cons (pv 0) (pa_cons (pv 1) pa_nil))) (blkOk_by (by rfl)) (fun _ _ _ _ _ => (kpg_tup (K := K) (n := 2) rfl (pgs_cons (pg_name (i := 4) sc__law_mixed.nd rfl (Or.inl rfl)) (pgs_cons (pg_name (i := 5) sc__law_mixed.nd rfl (Or.inl rfl)) pgs_nil)))) (fun _ _ _ _ _ => pts_nil) (fun _ _ _ _ _ => (pe_call (ok__law_times X) (hr.mono (by decide)) rfl X._law_times.g X._law_times.fn.kp X._law_times.b .nil pass0 (pa_cons (pv 4) (pa_cons (pe_ix (kix_tup (K := K)) (pv 5) (pv 3) (fun _ _ => rfl)) pa_nil))))) pa_nil)))) pa_nil)))), ?_⟩
    obtain ⟨a, vs, rfl, ha, hal, hae⟩ := dp_v hx
    have rl : rs.length = rows.length := by simpa using dpAll_len hrs
    have nl : (1000 : Nat) ≤ sizeLine := by decide
    refine ⟨_, rfl, _, rfl, by omega, by omega, lc_src (T := T) (src_range (lo := 0) (n := n)) (by omega) (P := fun D j y H5 => ∃ d, ((mixC ws rows n).map dq)[j]? = some d ∧ flatD d = true ∧ Dp K H5 y d) (keep := fun _ => true) (fun _ _ _ _ => trivial) (fun D j y H5 H6 hD hacc ex ⟨d, h1, h2, h3⟩ => ⟨d, h1, h2, stab_D d h2 hacc ex h3⟩)
          (fun D j x H5 H6 R hD hacc hj ex hY h1 h2 => ?_) (fun D zs H1 hD ex1 hys hl2 hP => ?_)⟩
    · obtain ⟨rfl, rfl⟩ := hY
      have e0 : (0 : Int) + ((j : Nat) : Int) = ((j : Nat) : Int) := by omega
      rw [e0]
      have ha6 : SqT K H6 a vs := (ex.tuD hD).sqT ha
      have hl6 : SqL K H6 l rs := ex.sqLD hl hD
      refine ⟨rfl, _, rfl, _, rfl, a, l, _, _, rfl, ha6, hl6, lc_src (T := T) (src_zipTL (K := K) (a := a) (b := l) (by omega)) (by omega) (P := fun D2 i y H7 => ∃ d, ((colP ws rows j).map dq)[i]? = some d ∧ flatD d = true ∧ Dp K H7 y d) (keep := fun _ => true) (fun D2 H7 hD2 ex2 => ⟨(ex2.tuD hD2).sqT ha6, ex2.sqLD hl6 hD2⟩) (fun D2 i y H7 H8 hD2 hacc2 ex2 ⟨d, h1, h2, h3⟩ => ⟨d, h1, h2, stab_D d h2 hacc2 ex2 h3⟩)
            (fun D2 i x2 H7 H8 R2 hD2 hacc2 hi ex2 hY2 h3 h4 => ?_) (fun D2 zs H7 hD2 ex2 hys hl2 hP => ?_)⟩
      · obtain ⟨t, x1, x3, rfl, nt, rfl, e1, e2⟩ := hY2
        obtain ⟨q1, f1, d1⟩ := hae i x1 e1
        obtain ⟨r, f2, d2⟩ := dpAll_mapget hrs e2
        have tu : Tu H (upd H7 t (.tup [x1, x3])) := (ex.tuD hD).trans ((ex2.tuD hD2).trans (Tu.new nt))
        obtain ⟨pr, rv, rfl, hpr, hprl, hpre⟩ := dp_v (dp_tu tu (flat_dv _) d2)
        have hjr : j < rv.length := by rw [hprl, hw r (List.mem_of_getElem? f2)]; exact hj
        obtain ⟨q2, g1, g2⟩ := hpre j _ (List.getElem?_eq_getElem hjr)
        refine ⟨t, _, rfl, .inl (.inl upd_same), rfl, _, _, rfl, _, _, rfl, rfl, rfl, ?_⟩
        refine ⟨_, rfl, _, rfl, _, rfl, pr, _, _, _, rfl, rfl, hpr, atI_nat (List.getElem?_eq_getElem hjr), x1, _, q1, q2, rfl, dp_tu tu rfl d1, g2, ?_, fun v H9 ex9 dv => ?_⟩
        · have := ok.t j hj i (by have := (List.getElem?_eq_some_iff.mp f1).1; exact this) (by have := (List.getElem?_eq_some_iff.mp f2).1; exact this)
          have er : rows.getD i [] = r := by rw [List.getD_eq_getElem?_getD, f2]; rfl
          rw [at0_get f1, er, at0_get g1] at this; exact this
        · refine h3 rfl _ _ ((Ex.new nt).trans ex9) ⟨dq (q1 * q2), ?_, rfl, dv⟩
          unfold colP
          rw [List.getElem?_map, List.getElem?_zipWith, f1, f2]
          show some (dq (q1 * at0 r j)) = _
          rw [at0_get g1]
      · have hz : DpAll K H7 zs ((colP ws rows j).map dq) := datas_of hl2 (by unfold colP; rw [List.length_map, List.length_zipWith]; omega) fun j y k e1 e2 => by
          obtain ⟨d, h1, h2, h3⟩ := hP j y k e1 e2
          exact ⟨d, h1, h3⟩
        refine ⟨D2, zs, colP ws rows j, rfl, .inl (.inl hys), hz, ok.s j hj, fun v H9 ex9 d9 => ?_⟩
        refine h1 rfl _ _ (ex2.trans ex9) ⟨_, ?_, rfl, d9⟩
        unfold mixC
        rw [List.getElem?_map, List.getElem?_map, List.getElem?_range hj]; rfl
    · have hz : DpAll K H1 zs ((mixC ws rows n).map dq) := datas_of hl2 (by unfold mixC; rw [List.length_map, List.length_map, List.length_range]) fun j y k e1 e2 => by
        obtain ⟨d, h1, h2, h3⟩ := hP j y k e1 e2
        exact ⟨d, h1, h3⟩
      refine ⟨D, _, rfl, .inl ⟨.inl (.inl hys), fun p hp => ?_⟩⟩
      have exp : Ex T No H1 (upd H1 p (.tup zs)) := Ex.new hp
      exact k _ _ (ex1.trans exp) (.tup (.inl (.inl upd_same)) (dpAll_tu exp.tu (flatAll_q _) hz))
end WB
end

section
set_option Elab.async false
set_option linter.all false
set_option maxRecDepth 100000
set_option maxHeartbeats 2000000
set_option exponentiation.threshold 1000000
namespace WB
open PySem PySem.Spec PyProof.Rows L2 LamX LP
variable {P : Program} {w : World} {K : PySem.W.Frag} {mg : Str → Option Value} {base : Heap} {A : LPA} {B : LawA} {T : List (Addr × Str)} {Pc : Addr}

/-! ### the law's own is_answer -/
def rowsOf (lims : Lims) : List (List Rat) := lims.map (·.1)
/-- what the law's own mixtures ask -/
def MixLaw (goal : List Rat) (lims : Lims) : Ans → Prop
  | .best _ _ p => MixCOk p (rowsOf lims) goal.length ∧ mixC p (rowsOf lims) goal.length = goal
  | .empty p => MixCOk p (rowsOf lims) goal.length ∧ mixC p (rowsOf lims) goal.length = List.replicate goal.length 0
  | .endless _ _ => True
section
variable (K T)
def sp_lis : Sp := fun vs H Q _ => ∃ x y goal lims a, vs = [x, y] ∧ Dp K H x (dprog goal lims) ∧ Dp K H y (dans a) ∧ IsAns goal lims a ∧ MixLaw goal lims a ∧ Yes T H Q
end
theorem flatAll_v2 (rs : List (List Rat)) : flatAll (rs.map dv) = true := flatAll_of fun x hx => by obtain ⟨q, _, rfl⟩ := List.mem_map.mp hx; exact flat_dv q
theorem kept_none (n : Nat) : kept (fun _ => false) n = [] := by unfold kept; simp
theorem nil_of {zs : List V} {n : Nat} (h : zs.length = (kept (fun _ => false) n).length) : zs = [] := by
  rw [kept_none] at h; exact List.length_eq_zero_iff.mp h
/-- an empty list beside a new empty list: the same -/
theorem ne_nil {H : Hp} {D : Addr} {u : Addr} (h : H D = some (.lst [])) (hu : H u = none) {Q : VK} (q : Q (.bl false) (upd H u (.lst []))) : rNeD K (.ref D) (.ref u) (upd H u (.lst [])) Q :=
  ⟨.list [], .list [], .lst (.inl (.inl (same_upd hu _ _ h))) .nil, .lst (.inl (.inl upd_same)) .nil, by decide, by decide, q⟩
theorem eq_nil {H : Hp} {D : Addr} {u : Addr} (h : H D = some (.lst [])) (hu : H u = none) {Q : VK} (q : Q (.bl true) (upd H u (.lst []))) : rEqD K (.ref D) (.ref u) (upd H u (.lst [])) Q :=
  ⟨.list [], .list [], .lst (.inl (.inl (same_upd hu _ _ h))) .nil, .lst (.inl (.inl upd_same)) .nil, by decide, by decide, q⟩
theorem ok__law_is_answer (X : LawTxt K mg A B) : FnOk P w K mg base CX0 5 B._law_is_answer.1 B._law_is_answer.2 ["program", "value"] (sp_lis K T) := by
  refine X._law_is_answer.fn.ok sc__law_is_answer (fun vs H Q E h => ?_) (fun cdv A' outer s H vs Q E hr h => ?_)
  · obtain ⟨_, _, _, _, _, rfl, _⟩ := h; rfl
  · obtain ⟨x, y, goal, lims, a, rfl, hx, hy, ok, mok, k⟩ := h
    have ok__law_less : ∀ {P : Program} {w : World} {base : Heap} (X : LawTxt K mg A B), FnOk P w K mg base CX0 1 B._law_less.1 B._law_less.2 ["one", "other"] (sp_is_less K T) := fun X => ok__law_less X
    have ok__law_dot : ∀ {P : Program} {w : World} {base : Heap} (X : LawTxt K mg A B), FnOk P w K mg base CX0 4 B._law_dot.1 B._law_dot.2 ["one", "other"] (sp_dot K T) := fun X => ok__law_dot X
    have ok__law_mixed : ∀ {P : Program} {w : World} {base : Heap} (X : LawTxt K mg A B), FnOk P w K mg base CX0 4 B._law_mixed.1 B._law_mixed.2 ["weights", "rows", "width"] (sp_lmixed K T) := fun X => ok__law_mixed X
    have ok__law_sum : ∀ {P : Program} {w : World} {base : Heap} (X : LawTxt K mg A B), FnOk P w K mg base CX0 3 B._law_sum.1 B._law_sum.2 ["some"] (sp_total K T) := fun X => ok__law_sum X
    have ok__law_times : ∀ {P : Program} {w : World} {base : Heap} (X : LawTxt K mg A B), FnOk P w K mg base CX0 2 B._law_times.1 B._law_times.2 ["one", "other"] (sp_times K T) := fun X => ok__law_times X
    refine ⟨_, (pss_cons (ps_asg (pv 0) (kpg_tup (K := K) (n := 3) rfl (pgs_cons (pg_name (i := 2) sc__law_is_answer.nd rfl (Or.inl rfl)) (pgs_cons (pg_name (i := 3) sc__law_is_answer.nd rfl (Or.inl rfl)) (pgs_cons (pg_name (i := 4) sc__law_is_answer.nd rfl (Or.inl rfl)) pgs_nil)))))
  (pss_cons (ps_setLc (i := 5) (own := [("row", 6), ("bound", 7)]) (tt := tYes) rfl sc__law_is_answer.nd rfl rfl (sw_true rfl rfl rfl (by decide +kernel)) (kpi_tup (K := K) (pv 4)) (blkOk_by (N := ["program", "value", "word", "goal", "limits", "rows", "row", "bound", "kind", "worth", "point", "prices", "price", "limit", "weight", "part", "ray"]) (sc := defScope s__law_is_answer) (by decide +kernel)) (fun _ _ _ _ _ => (kpg_tup (K := K) (n := 2) rfl (pgs_cons (pg_name (i := 6) sc__law_is_answer.nd rfl (Or.inl rfl)) (pgs_cons (pg_name (i := 7) sc__law_is_answer.nd rfl (Or.inl rfl)) pgs_nil)))) (fun _ _ _ _ _ => pts_nil) (fun _ _ _ _ _ => (pv 6)))
  (pss_cons (ps_if (pt_cmpR op_eq (pe_ix (kix_tup (K := K)) (pv 1) pe_int (fun _ _ => rfl)) pe_str (nomark _)) (pss_cons (ps_asg (pv 1) (kpg_tup (K := K) (n := 4) rfl (pgs_cons (pg_name (i := 8) sc__law_is_answer.nd rfl (Or.inl rfl)) (pgs_cons (pg_name (i := 9) sc__law_is_answer.nd rfl (Or.inl rfl)) (pgs_cons (pg_name (i := 10) sc__law_is_answer.nd rfl (Or.inr rfl)) (pgs_cons (pg_name (i := 11) sc__law_is_answer.nd rfl (Or.inl rfl)) pgs_nil))))))
  (pss_cons (ps_if (PW.pt (pw_or (pt_cmpR (kneD (K := K) (hu64 hr)) (pe_lc (own := [("row", 6), ("bound", 7)]) rfl sc__law_is_answer.nd  (kpi_tup (K := K) (pv 4)) (blkOk_by (N := ["program", "value", "word", "goal", "limits", "rows", "row", "bound", "kind", "worth", "point", "prices", "price", "limit", "weight", "part", "ray"]) (sc := defScope s__law_is_answer) (by decide +kernel)) (fun _ _ _ _ _ => (kpg_tup (K := K) (n := 2) rfl (pgs_cons (pg_name (i := 6) sc__law_is_answer.nd rfl (Or.inl rfl)) (pgs_cons (pg_name (i := 7) sc__law_is_answer.nd rfl (Or.inl rfl)) pgs_nil)))) (fun _ _ _ _ _ => (pts_one (pt_val (pe_call (ok__law_less X) (hr.mono (by decide)) rfl X._law_less.g X._law_less.fn.kp X._law_less.b .nil pass0 (pa_cons (pe_call (ok__law_dot X) (hr.mono (by decide)) rfl X._law_dot.g X._law_dot.fn.kp X._law_dot.b .nil pass0 (pa_cons (pv 6) (pa_cons (pv 10) pa_nil))) (pa_cons (pv 7) pa_nil)))))) (fun _ _ _ _ _ => pe_int)) (pe_lst pa_nil) (nomark _)) (pw_or1 (pt_cmpR (kneD (K := K) (hu64 hr)) (pe_lc (own := [("price", 12)]) rfl sc__law_is_answer.nd  (kpi_tup (K := K) (pv 11)) (blkOk_by (N := ["program", "value", "word", "goal", "limits", "rows", "row", "bound", "kind", "worth", "point", "prices", "price", "limit", "weight", "part", "ray"]) (sc := defScope s__law_is_answer) (by decide +kernel)) (fun _ _ _ _ _ => (pg_name (i := 12) sc__law_is_answer.nd rfl (Or.inl rfl))) (fun _ _ _ _ _ => (pts_one (pt_cmpR op_lt (pe_ix (kix_tup (K := K)) (pv 12) pe_int (fun _ _ => rfl)) pe_int (nomark _)))) (fun _ _ _ _ _ => pe_int)) (pe_lst pa_nil) (nomark _))))) (pss_one (ps_ret pe_bl)) pss_nil)
  (pss_cons (ps_if (PW.pt (pw_or (pt_cmpR op_ne (pe_callB (klen (K := K)) (by rfl) X.n_len (by decide +kernel) (pa_cons (pv 11) pa_nil)) (pe_callB (klen (K := K)) (by rfl) X.n_len (by decide +kernel) (pa_cons (pv 4) pa_nil)) (nomark _)) (pw_or (pt_cmpR (kneD (K := K) (hu64 hr)) (pe_call (ok__law_mixed X) (hr.mono (by decide)) rfl X._law_mixed.g X._law_mixed.fn.kp X._law_mixed.b .nil pass0 (pa_cons (pv 11) (pa_cons (pv 5) (pa_cons (pe_callB (klen (K := K)) (by rfl) X.n_len (by decide +kernel) (pa_cons (pv 3) pa_nil)) pa_nil)))) (pv 3) (nomark _)) (pw_or1 (pt_cmpR (kneD (K := K) (hu64 hr)) (pe_call (ok__law_dot X) (hr.mono (by decide)) rfl X._law_dot.g X._law_dot.fn.kp X._law_dot.b .nil pass0 (pa_cons (pv 3) (pa_cons (pv 10) pa_nil))) (pv 9) (nomark _)))))) (pss_one (ps_ret pe_bl)) pss_nil)
  (pss_one (ps_ret (pe_cmpR (keqD (K := K) (hu64 hr)) (pe_call (ok__law_sum X) (hr.mono (by decide)) rfl X._law_sum.g X._law_sum.fn.kp X._law_sum.b .nil pass0 (pa_cons (pe_lc (own := [("price", 12), ("limit", 13)]) (tt := tYes) rfl sc__law_is_answer.nd  (kpi_zipA (K := K) (by rfl) X.n_zip (pa_cons (pv 11) (pa_cons (pv 4) pa_nil))) (blkOk_by (N := ["program", "value", "word", "goal", "limits", "rows", "row", "bound", "kind", "worth", "point", "prices", "price", "limit", "weight", "part", "ray"]) (sc := defScope s__law_is_answer) (by decide +kernel)) (fun _ _ _ _ _ => (kpg_tup (K := K) (n := 2) rfl (pgs_cons (pg_name (i := 12) sc__law_is_answer.nd rfl (Or.inl rfl)) (pgs_cons (pg_name (i := 13) sc__law_is_answer.nd rfl (Or.inl rfl)) pgs_nil)))) (fun _ _ _ _ _ => pts_nil) (fun _ _ _ _ _ => (pe_call (ok__law_times X) (hr.mono (by decide)) rfl X._law_times.g X._law_times.fn.kp X._law_times.b .nil pass0 (pa_cons (pv 12) (pa_cons (pe_ix (kix_tup (K := K)) (pv 13) pe_int (fun _ _ => rfl)) pa_nil))))) pa_nil)) (pv 9) (nomark _))))))) pss_nil)
  (pss_cons (ps_if (pt_cmpR op_eq (pe_ix (kix_tup (K := K)) (pv 1) pe_int (fun _ _ => rfl)) pe_str (nomark _)) (pss_cons (ps_if (PW.pt (pw_or (pt_cmpR op_ne (pe_callB (klen (K := K)) (by rfl) X.n_len (by decide +kernel) (pa_cons (pe_ix (kix_tup (K := K)) (pv 1) pe_int (fun _ _ => rfl)) pa_nil)) (pe_callB (klen (K := K)) (by rfl) X.n_len (by decide +kernel) (pa_cons (pv 4) pa_nil)) (nomark _)) (pw_or1 (pt_cmpR (kneD (K := K) (hu64 hr)) (pe_lc (own := [("weight", 14)]) rfl sc__law_is_answer.nd  (kpi_tup (K := K) (pe_ix (kix_tup (K := K)) (pv 1) pe_int (fun _ _ => rfl))) (blkOk_by (N := ["program", "value", "word", "goal", "limits", "rows", "row", "bound", "kind", "worth", "point", "prices", "price", "limit", "weight", "part", "ray"]) (sc := defScope s__law_is_answer) (by decide +kernel)) (fun _ _ _ _ _ => (pg_name (i := 14) sc__law_is_answer.nd rfl (Or.inl rfl))) (fun _ _ _ _ _ => (pts_one (pt_cmpR op_lt (pe_ix (kix_tup (K := K)) (pv 14) pe_int (fun _ _ => rfl)) pe_int (nomark _)))) (fun _ _ _ _ _ => pe_int)) (pe_lst pa_nil) (nomark _))))) (pss_one (ps_ret pe_bl)) pss_nil)
  (pss_cons (ps_set (i := 7) sc__law_is_answer.nd rfl (Or.inl rfl) (pe_call (ok__law_sum X) (hr.mono (by decide)) rfl X._law_sum.g X._law_sum.fn.kp X._law_sum.b .nil pass0 (pa_cons (pe_lc (own := [("weight", 14), ("limit", 13)]) (tt := tYes) rfl sc__law_is_answer.nd  (kpi_zipA (K := K) (by rfl) X.n_zip (pa_cons (pe_ix (kix_tup (K := K)) (pv 1) pe_int (fun _ _ => rfl)) (pa_cons (pv 4) pa_nil))) (blkOk_by (N := ["program", "value", "word", "goal", "limits", "rows", "row", "bound", "kind", "worth", "point", "prices", "price", "limit", "weight", "part", "ray"]) (sc := defScope s__law_is_answer) (by decide +kernel)) (fun _ _ _ _ _ => (kpg_tup (K := K) (n := 2) rfl (pgs_cons (pg_name (i := 14) sc__law_is_answer.nd rfl (Or.inl rfl)) (pgs_cons (pg_name (i := 13) sc__law_is_answer.nd rfl (Or.inl rfl)) pgs_nil)))) (fun _ _ _ _ _ => pts_nil) (fun _ _ _ _ _ => (pe_call (ok__law_times X) (hr.mono (by decide)) rfl X._law_times.g X._law_times.fn.kp X._law_times.b .nil pass0 (pa_cons (pv 14) (pa_cons (pe_ix (kix_tup (K := K)) (pv 13) pe_int (fun _ _ => rfl)) pa_nil))))) pa_nil)))
  (pss_one (ps_ret (pe_and (pe_cmpR op_gt (pe_ix (kix_tup (K := K)) (pv 7) pe_int (fun _ _ => rfl)) pe_int (nomark _)) (pe_one (pe_cmpR (keqD (K := K) (hu64 hr)) (pe_lc (own := [("part", 15)]) rfl sc__law_is_answer.nd  (kpi_tup (K := K) (pe_call (ok__law_mixed X) (hr.mono (by decide)) rfl X._law_mixed.g X._law_mixed.fn.kp X._law_mixed.b .nil pass0 (pa_cons (pe_ix (kix_tup (K := K)) (pv 1) pe_int (fun _ _ => rfl)) (pa_cons (pv 5) (pa_cons (pe_callB (klen (K := K)) (by rfl) X.n_len (by decide +kernel) (pa_cons (pv 3) pa_nil)) pa_nil))))) (blkOk_by (N := ["program", "value", "word", "goal", "limits", "rows", "row", "bound", "kind", "worth", "point", "prices", "price", "limit", "weight", "part", "ray"]) (sc := defScope s__law_is_answer) (by decide +kernel)) (fun _ _ _ _ _ => (pg_name (i := 15) sc__law_is_answer.nd rfl (Or.inl rfl))) (fun _ _ _ _ _ => (pts_one (pt_cmpR op_ne (pe_ix (kix_tup (K := K)) (pv 15) pe_int (fun _ _ => rfl)) pe_int (nomark _)))) (fun _ _ _ _ _ => pe_int)) (pe_lst pa_nil) (nomark _)))))))) pss_nil)
  (pss_cons (ps_asg (pv 1) (kpg_tup (K := K) (n := 3) rfl (pgs_cons (pg_name (i := 8) sc__law_is_answer.nd rfl (Or.inl rfl)) (pgs_cons (pg_name (i := 10) sc__law_is_answer.nd rfl (Or.inr rfl)) (pgs_cons (pg_name (i := 16) sc__law_is_answer.nd rfl (Or.inr rfl)) pgs_nil)))))
  (pss_cons (ps_if (pt_cmpR (kneD (K := K) (hu64 hr)) (pe_lc (own := [("row", 6), ("bound", 7)]) rfl sc__law_is_answer.nd  (kpi_tup (K := K) (pv 4)) (blkOk_by (N := ["program", "value", "word", "goal", "limits", "rows", "row", "bound", "kind", "worth", "point", "prices", "price", "limit", "weight", "part", "ray"]) (sc := defScope s__law_is_answer) (by decide +kernel)) (fun _ _ _ _ _ => (kpg_tup (K := K) (n := 2) rfl (pgs_cons (pg_name (i := 6) sc__law_is_answer.nd rfl (Or.inl rfl)) (pgs_cons (pg_name (i := 7) sc__law_is_answer.nd rfl (Or.inl rfl)) pgs_nil)))) (fun _ _ _ _ _ => (pts_one (PW.pt (pw_or (pt_val (pe_call (ok__law_less X) (hr.mono (by decide)) rfl X._law_less.g X._law_less.fn.kp X._law_less.b .nil pass0 (pa_cons (pe_call (ok__law_dot X) (hr.mono (by decide)) rfl X._law_dot.g X._law_dot.fn.kp X._law_dot.b .nil pass0 (pa_cons (pv 6) (pa_cons (pv 10) pa_nil))) (pa_cons (pv 7) pa_nil)))) (pw_or1 (pt_cmpR op_lt (pe_ix (kix_tup (K := K)) (pe_call (ok__law_dot X) (hr.mono (by decide)) rfl X._law_dot.g X._law_dot.fn.kp X._law_dot.b .nil pass0 (pa_cons (pv 6) (pa_cons (pv 16) pa_nil))) pe_int (fun _ _ => rfl)) pe_int (nomark _))))))) (fun _ _ _ _ _ => pe_int)) (pe_lst pa_nil) (nomark _)) (pss_one (ps_ret pe_bl)) pss_nil)
  (pss_one (ps_ret (pe_and (pe_cmpR op_eq (pe_ix (kix_tup (K := K)) (pv 1) pe_int (fun _ _ => rfl)) pe_str (nomark _)) (pe_one (pe_cmpR op_lt (pe_ix (kix_tup (K := K)) (pe_call (ok__law_dot X) (hr.mono (by decide)) rfl X._law_dot.g X._law_dot.fn.kp X._law_dot.b .nil pass0 (pa_cons (pv 3) (pa_cons (pv 16) pa_nil))) pe_int (fun _ _ => rfl)) pe_int (nomark _)))))))))))), ?_⟩
    have pok := ans_prog ok
    have g1 := pok.g1
    have g2 := pok.g2
    have l2 := pok.l2
    have nl : (1000 : Nat) ≤ sizeLine := by decide
    obtain ⟨p, g, z, rfl, hp, hg, hz⟩ := dp_prog hx
    obtain ⟨la, ls, rfl, hls, hle⟩ := dp_lims hz
    have llen : ls.length = lims.length := by simpa using dpAll_len hle
    obtain ⟨ga, gs, rfl, hgs, hgl, _⟩ := dp_v hg
    have hy0 := hy
    obtain ⟨t, wd, rest, rfl, ht, hwd⟩ : ∃ t wd rest, y = .ref t ∧ SqT K H t (.str wd :: rest) ∧ wd = wordOf a := by
      cases a with
      | best q xs p => obtain ⟨t, _, _, _, e, hs, _⟩ := dp_best hy; exact ⟨t, _, _, e, hs, rfl⟩
      | empty p => obtain ⟨t, _, e, hs, _⟩ := dp_empty hy; exact ⟨t, _, _, e, hs, rfl⟩
      | endless xs ys => obtain ⟨t, _, _, e, hs, _⟩ := dp_endless hy; exact ⟨t, _, _, e, hs, rfl⟩
    refine seq_of (fun σ H1 => H = H1 ∧ σ = [some (.ref p), some (.ref t), some (.str "program"), some (.ref ga), some (.ref la), none, none, none, none, none, none, none, none, none, none, none, none]) (fun N hN => ?_) ?_
    · exact ⟨_, rfl, p, _, rfl, hp, rfl, _, _, rfl, _, _, rfl, _, _, rfl, rfl, hN _ _ ⟨rfl, rfl⟩⟩
    rintro σ _ ⟨rfl, rfl⟩
    refine seq_of (fun σ H1 => ∃ D rs, Ex T No H H1 ∧ SqL K H1 D rs ∧ DpAll K H1 rs ((rowsOf lims).map dv) ∧ σ = [some (.ref p), some (.ref t), some (.str "program"), some (.ref ga), some (.ref la), some (.ref D), none, none, none, none, none, none, none, none, none, none, none]) (fun N hN => ?_) ?_
    · refine ⟨_, rfl, la, rfl, ⟨_, hls⟩, lc_src (T := T) (src_tup (K := K) (a := la) (xs := ls)) (by omega) (P := fun D j y H5 => ∃ l, lims[j]? = some l ∧ Dp K H5 y (dv l.1)) (keep := fun _ => true) (fun D H5 hD ex => (ex.tuD hD).sqT hls) (fun D j y H5 H6 hD hacc ex ⟨l, h1, h2⟩ => ⟨l, h1, stab_D _ (flat_dv _) hacc ex h2⟩)
            (fun D j x2 H5 H6 R hD hacc hj ex hY h1 h2 => ?_) (fun D zs H2 hD ex2 hys hl2 hP => ?_)⟩
      · obtain ⟨e1, rfl⟩ := hY
        obtain ⟨l, hl, dl⟩ := dpAll_mapget hle e1
        obtain ⟨p2, r2, b2, rfl, g1, g2, g3⟩ := dp_lim (dp_tu (ex.tuD hD) (flat_dlim l) dl)
        exact ⟨p2, _, rfl, g1, rfl, _, _, rfl, _, _, rfl, rfl, rfl, _, rfl, h1 rfl _ _ Ex.refl ⟨l, hl, g2⟩⟩
      · have hz : DpAll K H2 zs ((rowsOf lims).map dv) := datas_of hl2 (by unfold rowsOf; rw [List.length_map, List.length_map, llen]) fun j y k e1 e2 => by
          obtain ⟨l, h1, h2⟩ := hP j y k e1 e2
          exact ⟨_, by unfold rowsOf; rw [List.getElem?_map, List.getElem?_map, h1]; rfl, h2⟩
        exact hN _ _ ⟨D, zs, ex2, .inl (.inl hys), hz, rfl⟩
    rintro σ H1 ⟨rD, rs, ex1, hrD, hrs, rfl⟩
    have rl : (rowsOf lims).length = lims.length := by unfold rowsOf; rw [List.length_map]
    have hw : ∀ r ∈ rowsOf lims, r.length = goal.length := fun r hr => by
      unfold rowsOf at hr
      obtain ⟨l, hl, rfl⟩ := List.mem_map.mp hr
      exact pok.w l hl
    have hp1 := ex1.sqT hp
    have ht1 := ex1.sqT ht
    have hls1 := ex1.sqT hls
    have hgs1 := ex1.sqT hgs
    have hg1 := dp_tu ex1.tu (flat_dv _) hg
    have hy1 := dp_tu ex1.tu (flat_dans _) hy
    clear hy0 hx hy hp ht hls hz hg hgs
    cases a with
    | best q xs ps =>
      obtain rfl : wd = "best" := hwd
      obtain ⟨t', va, vb, vc, e, ht2, ha, hb, hc⟩ := dp_best hy1
      cases e
      have wi := IsBest.within ok
      have so := IsBest.sum ok
      have pl := so.pl
      have nn := IsBest.nn ok
      have xl := IsBest.xl ok
      obtain ⟨mc, mv⟩ := mok
      refine ⟨_, rfl, t, _, _, _, rfl, rfl, ht1, at0_cons, rfl, _, rfl, iteYd rfl ?_⟩
      refine seq_of (fun σ H2 => H1 = H2 ∧ σ = [some (.ref p), some (.ref t), some (.str "program"), some (.ref ga), some (.ref la), some (.ref rD), none, none, some (.str "best"), some va, some vb, some vc, none, none, none, none, none]) (fun N hN => ?_) ?_
      · exact ⟨_, rfl, t, _, rfl, ht2, rfl, _, _, rfl, _, _, rfl, _, _, rfl, _, _, rfl, rfl, hN _ _ ⟨rfl, rfl⟩⟩
      rintro σ _ ⟨rfl, rfl⟩
      obtain ⟨pa, pvs, rfl, hpa, hpl, hpe⟩ := dp_v hc
      refine seq_of (fun σ H2 => Ex T No H1 H2 ∧ σ = [some (.ref p), some (.ref t), some (.str "program"), some (.ref ga), some (.ref la), some (.ref rD), none, none, some (.str "best"), some va, some vb, some (.ref pa), none, none, none, none, none]) (fun N hN => ?_) ?_
      · refine ⟨_, rfl, la, rfl, ⟨_, hls1⟩, lc_src (T := T) (src_tup (K := K) (a := la) (xs := ls)) (by omega) (P := fun _ _ _ _ => True) (keep := fun _ => false) (fun D H5 hD ex => (ex.tuD hD).sqT hls1) (fun D j y H5 H6 _ _ _ h => h)
            (fun D j x2 H5 H6 R hD hacc hj ex hY h1 h2 => ?_) (fun D zs H2 hD ex2 hys hl2 hP => ?_)⟩
        · obtain ⟨e1, rfl⟩ := hY
          obtain ⟨l, hl, dl⟩ := dpAll_mapget hle e1
          have hm := List.mem_of_getElem? hl
          obtain ⟨p2, r2, b2, rfl, q1, q2, q3⟩ := dp_lim (dp_tu (ex1.tu.trans (ex.tuD hD)) (flat_dlim l) dl)
          refine ⟨p2, _, rfl, q1, rfl, _, _, rfl, _, _, rfl, rfl, rfl, ?_⟩
          refine ⟨_, rfl, _, rfl, r2, vb, l.1, xs, rfl, q2, dp_tu (ex.tuD hD) (flat_dv _) hb, wi.len l hm, by have := wi.sz; have := wi.len l hm; omega, wi.dot l hm, fun v H7 ex7 d7 => ?_⟩
          refine ⟨_, rfl, v, b2, _, l.2, rfl, d7, dp_tu ex7.tu rfl q3, (wi.fit l hm).1, (wi.fit l hm).2, fun H8 ex8 => ?_⟩
          refine ⟨_, rfl, iteNd (Rat.not_lt.mpr (wi.le l hm)) (h2 rfl _ (ex7.trans ex8))⟩
        · have ez := nil_of hl2
          subst ez
          refine ⟨Nat.zero_le _, fun u hu => ne_nil hys hu ⟨_, rfl, iteN (by decide) ?_⟩⟩
          have exu : Ex T No H2 (upd H2 u (.lst [])) := Ex.new hu
          have exA := ex2.trans exu
          have hpa2 := exA.sqT hpa
          refine ⟨_, rfl, pa, rfl, ⟨_, hpa2⟩, lc_src (T := T) (src_tup (K := K) (a := pa) (xs := pvs)) (by omega) (P := fun _ _ _ _ => True) (keep := fun _ => false) (fun D H5 hD ex => (ex.tuD hD).sqT hpa2) (fun D j y H5 H6 _ _ _ h => h)
            (fun D j x2 H5 H6 R hD hacc hj ex hY h1 h2 => ?_) (fun D2 zs H3 hD ex3 hys hl2 hP => ?_)⟩
          · obtain ⟨e1, rfl⟩ := hY
            obtain ⟨q0, f1, d1⟩ := hpe j x2 e1
            obtain ⟨pq, rfl, hpq⟩ := dp_q (dp_tu (exA.tu.trans (ex.tuD hD)) rfl d1)
            have n0 : ¬ q0.num < 0 := by have := Rat.num_nonneg.mpr (nn q0 (List.mem_of_getElem? f1)); omega
            exact ⟨rfl, _, rfl, pq, _, _, _, rfl, rfl, hpq, at0_, _, _, rfl, rfl, _, rfl, iteNd n0 (h2 rfl _ Ex.refl)⟩
          · have ez := nil_of hl2
            subst ez
            refine ⟨Nat.zero_le _, fun u2 hu2 => ne_nil hys hu2 ⟨_, rfl, iteN (by decide) ?_⟩⟩
            exact hN _ _ ⟨exA.trans (ex3.trans (Ex.new hu2)), rfl⟩
      rintro σ H2 ⟨ex2, rfl⟩
      have hpa2 := ex2.sqT hpa
      have hls2 := ex2.sqT hls1
      refine seq_of (fun σ H3 => Ex T No H2 H3 ∧ σ = [some (.ref p), some (.ref t), some (.str "program"), some (.ref ga), some (.ref la), some (.ref rD), none, none, some (.str "best"), some va, some vb, some (.ref pa), none, none, none, none, none]) (fun N hN => ?_) ?_
      · refine ⟨_, rfl, pa, _, rfl, .inr hpa2, _, rfl, la, _, rfl, .inr hls2, rfl, ?_⟩
        rw [hpl, llen, pl]
        refine ⟨_, rfl, iteNS rfl ?_⟩
        refine ⟨_, rfl, _, rfl, _, rfl, ga, _, rfl, .inr (ex2.sqT hgs1), .ref pa, rD, rs, ps, rowsOf lims, goal.length, by rw [hgl]; rfl, dp_tu ex2.tu (flat_dv _) hc, ex2.sqL hrD, dpAll_tu ex2.tu (flatAll_v2 _) hrs, by rw [pl, rl], by omega, by omega, hw, mc, fun v H3 ex3 d3 => ?_⟩
        have exA := ex2.trans ex3
        refine ⟨_, rfl, _, _, d3, dp_tu exA.tu (flat_dv _) hg1, sh_v _, sh_v _, ?_⟩
        rw [mv, eqv_refl (flat_dv goal)]
        refine ⟨_, rfl, iteN (by decide) ?_⟩
        refine ⟨_, rfl, _, rfl, .ref ga, vb, goal, xs, rfl, dp_tu exA.tu (flat_dv _) hg1, dp_tu exA.tu (flat_dv _) hb, xl.symm, by omega, IsBest.gdot ok, fun v H4 ex4 d4 => ?_⟩
        refine ⟨_, rfl, _, _, d4, dp_tu (exA.trans ex4).tu rfl ha, sh_q _, sh_q _, ?_⟩
        rw [IsBest.gval ok, eqv_refl (flat_dq q)]
        exact ⟨_, rfl, iteN (by decide) (hN _ _ ⟨ex3.trans ex4, rfl⟩)⟩
      rintro σ H3 ⟨ex3, rfl⟩
      have exA := ex2.trans ex3
      have hpa3 := exA.sqT hpa
      have hls3 := exA.sqT hls1
      refine ⟨_, rfl, _, rfl, pa, la, _, _, rfl, .inr ⟨hpa3, hls3, lc_src (T := T) (src_zipT (K := K) (a := pa) (b := la) (by omega)) (by omega) (P := fun D j y H5 => ∃ d, ((dotP ps (lims.map (·.2))).map dq)[j]? = some d ∧ flatD d = true ∧ Dp K H5 y d) (keep := fun _ => true) (fun D H5 hD ex => ⟨(ex.tuD hD).sqT hpa3, (ex.tuD hD).sqT hls3⟩) (fun D j y H5 H6 hD hacc ex ⟨d, h1, h2, h3⟩ => ⟨d, h1, h2, stab_D d h2 hacc ex h3⟩)
              (fun D j x H5 H6 R hD hacc hj ex hY h1 h2 => ?_) (fun D zs H4 hD ex4 hys hl2 hP => ?_)⟩⟩
      · obtain ⟨tt, x1, x2, rfl, nt, rfl, e1, e2⟩ := hY
        obtain ⟨q1, f1, d1⟩ := hpe j x1 e1
        obtain ⟨l, f2, d2⟩ := dpAll_mapget hle e2
        have tu0 : Tu H3 (upd H5 tt (.tup [x1, x2])) := (ex.tuD hD).trans (Tu.new nt)
        have tu1 := exA.tu.trans tu0
        obtain ⟨p2, r2, b2, rfl, g1, g2, g3⟩ := dp_lim (dp_tu (ex1.tu.trans tu1) (flat_dlim l) d2)
        refine ⟨tt, _, rfl, .inl (.inl upd_same), rfl, _, _, rfl, _, _, rfl, rfl, rfl, ?_⟩
        refine ⟨_, rfl, _, rfl, p2, _, _, _, rfl, rfl, g1, at1_, x1, b2, q1, l.2, rfl, dp_tu tu1 rfl d1, g3, ?_, fun v H7 ex7 dv => ?_⟩
        · have hb : at0 (lims.map (·.2)) j = l.2 := at0_get (by rw [List.getElem?_map, f2]; rfl)
          have := so.dot.1 j (by have := (List.getElem?_eq_some_iff.mp f1).1; exact this) (by rw [List.length_map]; have := (List.getElem?_eq_some_iff.mp f2).1; exact this)
          rw [at0_get f1, hb] at this; exact this
        · refine h1 rfl _ _ ((Ex.new nt).trans ex7) ⟨dq (q1 * l.2), ?_, rfl, dv⟩
          unfold dotP
          rw [List.getElem?_map, List.getElem?_zipWith, f1, List.getElem?_map, f2]; rfl
      · have hz : DpAll K H4 zs ((dotP ps (lims.map (·.2))).map dq) := datas_of hl2 (by unfold dotP; rw [List.length_map, List.length_zipWith, List.length_map]; omega) fun j y k e1 e2 => by
          obtain ⟨d, h1, h2, h3⟩ := hP j y k e1 e2
          exact ⟨d, h1, h3⟩
        refine ⟨D, zs, dotP ps (lims.map (·.2)), rfl, .inl (.inl hys), hz, so.dot.2, fun v5 H5 ex5 d5 => ?_⟩
        refine ⟨_, rfl, _, _, d5, dp_tu (exA.trans (ex4.trans ex5)).tu rfl ha, sh_q _, sh_q _, ?_⟩
        rw [show sumL (dotP ps (lims.map (·.2))) = q from IsBest.bdv ok, eqv_refl (flat_dq q)]
        exact k _ (ex1.trans (exA.trans (ex4.trans ex5)))
    | empty ps =>
      obtain rfl : wd = "empty" := hwd
      obtain ⟨t', va, e, ht2, ha⟩ := dp_empty hy1
      cases e
      have so := IsEmpty.sum ok
      have pl := so.pl
      have nn := IsEmpty.nn ok
      obtain ⟨mc, mv⟩ := mok
      obtain ⟨pa, pvs, rfl, hpa, hpl, hpe⟩ := dp_v ha
      refine ⟨_, rfl, t, _, _, _, rfl, rfl, ht1, at0_cons, rfl, _, rfl, iteNd (by intro z; injection z with z; exact absurd z (by decide +kernel)) ?_⟩
      refine ⟨_, rfl, t, _, _, _, rfl, rfl, ht1, at0_cons, rfl, _, rfl, iteYd rfl ?_⟩
      refine seq_of (fun σ H2 => Ex T No H1 H2 ∧ σ = [some (.ref p), some (.ref t), some (.str "program"), some (.ref ga), some (.ref la), some (.ref rD), none, none, none, none, none, none, none, none, none, none, none]) (fun N hN => ?_) ?_
      · refine ⟨_, rfl, t, _, _, _, rfl, rfl, ht2, at1_, pa, _, rfl, .inr hpa, _, rfl, la, _, rfl, .inr hls1, rfl, ?_⟩
        rw [hpl, llen, pl]
        refine ⟨_, rfl, iteNS rfl ?_⟩
        refine ⟨_, rfl, t, _, _, _, rfl, rfl, ht2, at1_, pa, rfl, ⟨_, hpa⟩, lc_src (T := T) (src_tup (K := K) (a := pa) (xs := pvs)) (by omega) (P := fun _ _ _ _ => True) (keep := fun _ => false) (fun D H5 hD ex => (ex.tuD hD).sqT hpa) (fun D j y H5 H6 _ _ _ h => h)
            (fun D j x2 H5 H6 R hD hacc hj ex hY h1 h2 => ?_) (fun D2 zs H3 hD ex3 hys hl2 hP => ?_)⟩
        · obtain ⟨e1, rfl⟩ := hY
          obtain ⟨q0, f1, d1⟩ := hpe j x2 e1
          obtain ⟨pq, rfl, hpq⟩ := dp_q (dp_tu (ex.tuD hD) rfl d1)
          have n0 : ¬ q0.num < 0 := by have := Rat.num_nonneg.mpr (nn q0 (List.mem_of_getElem? f1)); omega
          exact ⟨rfl, _, rfl, pq, _, _, _, rfl, rfl, hpq, at0_, _, _, rfl, rfl, _, rfl, iteNd n0 (h2 rfl _ Ex.refl)⟩
        · have ez := nil_of hl2
          subst ez
          refine ⟨Nat.zero_le _, fun u2 hu2 => ne_nil hys hu2 ⟨_, rfl, iteN (by decide) ?_⟩⟩
          exact hN _ _ ⟨ex3.trans (Ex.new hu2), rfl⟩
      rintro σ H2 ⟨ex2, rfl⟩
      have hpa2 := ex2.sqT hpa
      have hls2 := ex2.sqT hls1
      refine seq_of (fun σ H3 => ∃ b, Ex T No H2 H3 ∧ Dp K H3 b (dq (bdOf ps lims)) ∧ σ = [some (.ref p), some (.ref t), some (.str "program"), some (.ref ga), some (.ref la), some (.ref rD), none, some b, none, none, none, none, none, none, none, none, none]) (fun N hN => ?_) ?_
      · refine ⟨_, rfl, t, _, _, _, rfl, rfl, ex2.sqT ht2, at1_, _, rfl, pa, la, _, _, rfl, .inr ⟨hpa2, hls2, lc_src (T := T) (src_zipT (K := K) (a := pa) (b := la) (by omega)) (by omega) (P := fun D j y H5 => ∃ d, ((dotP ps (lims.map (·.2))).map dq)[j]? = some d ∧ flatD d = true ∧ Dp K H5 y d) (keep := fun _ => true) (fun D H5 hD ex => ⟨(ex.tuD hD).sqT hpa2, (ex.tuD hD).sqT hls2⟩) (fun D j y H5 H6 hD hacc ex ⟨d, h1, h2, h3⟩ => ⟨d, h1, h2, stab_D d h2 hacc ex h3⟩)
              (fun D j x H5 H6 R hD hacc hj ex hY h1 h2 => ?_) (fun D zs H4 hD ex4 hys hl2 hP => ?_)⟩⟩
        · obtain ⟨tt, x1, x2, rfl, nt, rfl, e1, e2⟩ := hY
          obtain ⟨q1, f1, d1⟩ := hpe j x1 e1
          obtain ⟨l, f2, d2⟩ := dpAll_mapget hle e2
          have tu0 : Tu H2 (upd H5 tt (.tup [x1, x2])) := (ex.tuD hD).trans (Tu.new nt)
          have tu1 := ex2.tu.trans tu0
          obtain ⟨p2, r2, b2, rfl, g1, g2, g3⟩ := dp_lim (dp_tu (ex1.tu.trans tu1) (flat_dlim l) d2)
          refine ⟨tt, _, rfl, .inl (.inl upd_same), rfl, _, _, rfl, _, _, rfl, rfl, rfl, ?_⟩
          refine ⟨_, rfl, _, rfl, p2, _, _, _, rfl, rfl, g1, at1_, x1, b2, q1, l.2, rfl, dp_tu tu1 rfl d1, g3, ?_, fun v H7 ex7 dv => ?_⟩
          · have hb : at0 (lims.map (·.2)) j = l.2 := at0_get (by rw [List.getElem?_map, f2]; rfl)
            have := so.dot.1 j (by have := (List.getElem?_eq_some_iff.mp f1).1; exact this) (by rw [List.length_map]; have := (List.getElem?_eq_some_iff.mp f2).1; exact this)
            rw [at0_get f1, hb] at this; exact this
          · refine h1 rfl _ _ ((Ex.new nt).trans ex7) ⟨dq (q1 * l.2), ?_, rfl, dv⟩
            unfold dotP
            rw [List.getElem?_map, List.getElem?_zipWith, f1, List.getElem?_map, f2]; rfl
        · have hz : DpAll K H4 zs ((dotP ps (lims.map (·.2))).map dq) := datas_of hl2 (by unfold dotP; rw [List.length_map, List.length_zipWith, List.length_map]; omega) fun j y k e1 e2 => by
            obtain ⟨d, h1, h2, h3⟩ := hP j y k e1 e2
            exact ⟨d, h1, h3⟩
          exact ⟨D, zs, dotP ps (lims.map (·.2)), rfl, .inl (.inl hys), hz, so.dot.2, fun v5 H5 ex5 d5 => hN _ _ ⟨v5, ex4.trans ex5, d5, rfl⟩⟩
      rintro σ H3 ⟨b, ex3, hb, rfl⟩
      have exA := ex2.trans ex3
      obtain ⟨pb, rfl, hpb⟩ := dp_q hb
      refine ⟨_, rfl, pb, _, _, _, rfl, rfl, hpb, at0_, _, _, rfl, rfl, _, rfl, iteYd (num_pos (IsEmpty.bdv ok)) ?_⟩
      refine ⟨_, rfl, t, _, _, _, rfl, rfl, exA.sqT ht2, at1_, _, rfl, _, rfl, ga, _, rfl, .inr (exA.sqT hgs1), .ref pa, rD, rs, ps, rowsOf lims, goal.length, by rw [hgl]; rfl, dp_tu exA.tu (flat_dv _) ha, exA.sqL hrD, dpAll_tu exA.tu (flatAll_v2 _) hrs, by rw [pl, rl], by omega, by omega, hw, mc, fun v H4 ex4 d4 => ?_⟩
      rw [mv] at d4
      obtain ⟨ra, rv, rfl, hra, hrl, hre⟩ := dp_v d4
      rw [List.length_replicate] at hrl
      refine ⟨ra, rfl, ⟨_, hra⟩, lc_src (T := T) (src_tup (K := K) (a := ra) (xs := rv)) (by omega) (P := fun _ _ _ _ => True) (keep := fun _ => false) (fun D H5 hD ex => (ex.tuD hD).sqT hra) (fun D j y H5 H6 _ _ _ h => h)
            (fun D j x2 H5 H6 R hD hacc hj ex hY h1 h2 => ?_) (fun D2 zs H5 hD ex5 hys hl2 hP => ?_)⟩
      · obtain ⟨e1, rfl⟩ := hY
        obtain ⟨q0, f1, d1⟩ := hre j x2 e1
        obtain ⟨pq, rfl, hpq⟩ := dp_q (dp_tu (ex.tuD hD) rfl d1)
        have : q0 = 0 := by
          rw [List.getElem?_replicate] at f1
          split at f1
          · exact (Option.some.inj f1).symm
          · cases f1
        subst this
        exact ⟨rfl, _, rfl, pq, _, _, _, rfl, rfl, hpq, at0_, rfl, _, rfl, iteNS rfl (h2 rfl _ Ex.refl)⟩
      · have ez := nil_of hl2
        subst ez
        exact ⟨Nat.zero_le _, fun u2 hu2 => eq_nil hys hu2 (k _ (ex1.trans (exA.trans (ex4.trans (ex5.trans (Ex.new hu2))))))⟩
    | endless xs ys =>
      obtain rfl : wd = "endless" := hwd
      obtain ⟨t', va, vb, e, ht2, ha, hb⟩ := dp_endless hy1
      cases e
      have wi := IsEndless.within ok
      have xl := IsEndless.xl ok
      have yl := IsEndless.yl ok
      refine seq_of (fun σ H2 => H1 = H2 ∧ σ = [some (.ref p), some (.ref t), some (.str "program"), some (.ref ga), some (.ref la), some (.ref rD), none, none, none, none, none, none, none, none, none, none, none]) (fun N hN => ⟨_, rfl, t, _, _, _, rfl, rfl, ht1, at0_cons, rfl, _, rfl, iteNd (by intro z; injection z with z; exact absurd z (by decide +kernel)) (hN _ _ ⟨rfl, rfl⟩)⟩) ?_
      rintro σ _ ⟨rfl, rfl⟩
      refine seq_of (fun σ H2 => H1 = H2 ∧ σ = [some (.ref p), some (.ref t), some (.str "program"), some (.ref ga), some (.ref la), some (.ref rD), none, none, none, none, none, none, none, none, none, none, none]) (fun N hN => ⟨_, rfl, t, _, _, _, rfl, rfl, ht1, at0_cons, rfl, _, rfl, iteNd (by intro z; injection z with z; exact absurd z (by decide +kernel)) (hN _ _ ⟨rfl, rfl⟩)⟩) ?_
      rintro σ _ ⟨rfl, rfl⟩
      refine seq_of (fun σ H2 => H1 = H2 ∧ σ = [some (.ref p), some (.ref t), some (.str "program"), some (.ref ga), some (.ref la), some (.ref rD), none, none, some (.str "endless"), none, some va, none, none, none, none, none, some vb]) (fun N hN => ?_) ?_
      · exact ⟨_, rfl, t, _, rfl, ht2, rfl, _, _, rfl, _, _, rfl, _, _, rfl, rfl, hN _ _ ⟨rfl, rfl⟩⟩
      rintro σ _ ⟨rfl, rfl⟩
      refine seq_of (fun σ H2 => Ex T No H1 H2 ∧ σ = [some (.ref p), some (.ref t), some (.str "program"), some (.ref ga), some (.ref la), some (.ref rD), none, none, some (.str "endless"), none, some va, none, none, none, none, none, some vb]) (fun N hN => ?_) ?_
      · refine ⟨_, rfl, la, rfl, ⟨_, hls1⟩, lc_src (T := T) (src_tup (K := K) (a := la) (xs := ls)) (by omega) (P := fun _ _ _ _ => True) (keep := fun _ => false) (fun D H5 hD ex => (ex.tuD hD).sqT hls1) (fun D j y H5 H6 _ _ _ h => h)
            (fun D j x2 H5 H6 R hD hacc hj ex hY h1 h2 => ?_) (fun D zs H2 hD ex2 hys hl2 hP => ?_)⟩
        · obtain ⟨e1, rfl⟩ := hY
          obtain ⟨l, hl, dl⟩ := dpAll_mapget hle e1
          have hm := List.mem_of_getElem? hl
          have lw := pok.w l hm
          obtain ⟨p2, r2, b2, rfl, q1, q2, q3⟩ := dp_lim (dp_tu (ex1.tu.trans (ex.tuD hD)) (flat_dlim l) dl)
          refine ⟨p2, _, rfl, q1, rfl, _, _, rfl, _, _, rfl, rfl, rfl, ?_⟩
          refine ⟨_, rfl, _, rfl, r2, va, l.1, xs, rfl, q2, dp_tu (ex.tuD hD) (flat_dv _) ha, wi.len l hm, by omega, wi.dot l hm, fun v H7 ex7 d7 => ?_⟩
          refine ⟨_, rfl, v, b2, _, l.2, rfl, d7, dp_tu ex7.tu rfl q3, (wi.fit l hm).1, (wi.fit l hm).2, fun H8 ex8 => ?_⟩
          refine ⟨_, rfl, iteNd (Rat.not_lt.mpr (wi.le l hm)) ?_⟩
          have exB := ex7.trans ex8
          refine ⟨_, rfl, _, rfl, r2, vb, l.1, ys, rfl, dp_tu exB.tu (flat_dv _) q2, dp_tu ((ex.tuD hD).trans exB.tu) (flat_dv _) hb, by omega, by omega, IsEndless.rdot ok l hm, fun v9 H9 ex9 d9 => ?_⟩
          obtain ⟨pq, rfl, hpq⟩ := dp_q d9
          have n0 : ¬ (sumL (dotP l.1 ys)).num < 0 := by have := Rat.num_nonneg.mpr (IsEndless.rval ok l hm); omega
          exact ⟨pq, _, _, _, rfl, rfl, hpq, at0_, _, _, rfl, rfl, _, rfl, iteNd n0 (h2 rfl _ (exB.trans ex9))⟩
        · have ez := nil_of hl2
          subst ez
          refine ⟨Nat.zero_le _, fun u hu => ne_nil hys hu ⟨_, rfl, iteN (by decide) ?_⟩⟩
          exact hN _ _ ⟨ex2.trans (Ex.new hu), rfl⟩
      rintro σ H2 ⟨ex2, rfl⟩
      refine ⟨_, rfl, t, _, _, _, rfl, rfl, ex2.sqT ht2, at0_cons, rfl, _, rfl, iteYd rfl ?_⟩
      refine ⟨_, rfl, _, rfl, .ref ga, vb, goal, ys, rfl, dp_tu ex2.tu (flat_dv _) hg1, dp_tu ex2.tu (flat_dv _) hb, yl.symm, by omega, IsEndless.gdot ok, fun v3 H3 ex3 d3 => ?_⟩
      obtain ⟨pq, rfl, hpq⟩ := dp_q d3
      have n0 : (sumL (dotP goal ys)).num < 0 := Int.not_le.mp fun z => absurd (Rat.num_nonneg.mp z) (Rat.not_le.mpr (IsEndless.gval ok))
      refine ⟨pq, _, _, _, rfl, rfl, hpq, at0_, _, _, rfl, rfl, ?_⟩
      show Q (.bl (decide ((sumL (dotP goal ys)).num < 0))) H3
      rw [decide_eq_true n0]
      exact k _ (ex1.trans (ex2.trans ex3))
end WB
end

section
set_option autoImplicit false
set_option exponentiation.threshold 1000000
namespace LP
open WB
theorem quo_of {q : Rat} {U : Nat} {T : Int} (hU : 0 < U) (h : q * (U : Rat) = (T : Rat)) : q = quo T (U : Int) := by
  have h0 : ((U : Int) : Rat) ≠ 0 := cast_ne (by omega)
  unfold quo
  rw [← h]
  have : ((U : Nat) : Rat) = ((U : Int) : Rat) := rfl
  rw [this]
  grind
/-! ### common multiples and magnitudes -/
def Mu (X : Nat) (q : Rat) : Prop := ∃ T : Int, q * (X : Rat) = (T : Rat)
def Ab (V : Nat) (q : Rat) : Prop := q.num.natAbs ≤ V * q.den
theorem mu_den {X : Nat} {q : Rat} (hX : 0 < X) (h : Mu X q) : q.den ∣ X := by
  obtain ⟨T, e⟩ := h
  have hp : (0 : Int) < (X : Int) := by omega
  have e2 := den_mul (n := T) hp
  rw [← quo_of hX e] at e2
  exact ⟨Nat.gcd T.natAbs ((X : Int)).natAbs, by exact_mod_cast e2⟩
theorem mu_of {X : Nat} {q : Rat} (h : q.den ∣ X) : Mu X q := ⟨_, by rw [clr_one h]; grind⟩
theorem mu_self (q : Rat) : Mu q.den q := mu_of (Nat.dvd_refl _)
theorem mu_dvd {X Y : Nat} {q : Rat} (h : Mu X q) (k : X ∣ Y) : Mu Y q := by
  obtain ⟨T, e⟩ := h
  obtain ⟨c, rfl⟩ := k
  refine ⟨T * (c : Int), ?_⟩
  rw [Rat.intCast_mul, ← e, Rat.natCast_mul]
  have : (((c : Nat) : Int) : Rat) = (c : Rat) := rfl
  rw [this]; grind
theorem mu_add {X : Nat} {a b : Rat} (h : Mu X a) (k : Mu X b) : Mu X (a + b) := by
  obtain ⟨T, e⟩ := h
  obtain ⟨T', e'⟩ := k
  exact ⟨T + T', by rw [Rat.intCast_add, ← e, ← e']; grind⟩
theorem mu_neg {X : Nat} {a : Rat} (h : Mu X a) : Mu X (-a) := by
  obtain ⟨T, e⟩ := h
  exact ⟨-T, by rw [Rat.intCast_neg, ← e]; grind⟩
theorem mu_mul {X Y : Nat} {a b : Rat} (h : Mu X a) (k : Mu Y b) : Mu (X * Y) (a * b) := by
  obtain ⟨T, e⟩ := h
  obtain ⟨T', e'⟩ := k
  exact ⟨T * T', by rw [Rat.intCast_mul, ← e, ← e', Rat.natCast_mul]; grind⟩
theorem mu_int (X : Nat) (k : Int) : Mu X (k : Rat) := ⟨k * (X : Int), by rw [Rat.intCast_mul]; rfl⟩
theorem mu_zero (X : Nat) : Mu X 0 := mu_int X 0
theorem mu_sumQ {X n : Nat} {f : Nat → Rat} (h : ∀ i, i < n → Mu X (f i)) : Mu X (sumQ n f) := by
  induction n with
  | zero => exact mu_zero X
  | succ n ih => exact mu_add (ih fun i hi => h i (by omega)) (h n (by omega))
theorem ab_quo {n d : Int} {V : Nat} (hd : 0 < d) (h : n.natAbs ≤ V * d.natAbs) : Ab V (quo n d) := by
  have e1 := congrArg Int.natAbs (num_mul (n := n) hd)
  have e2 := congrArg Int.natAbs (den_mul (n := n) hd)
  have gp := gcd_pos' (n := n) hd
  unfold Ab
  rw [Int.natAbs_mul, Int.natAbs_natCast] at e1 e2
  rw [Int.natAbs_natCast] at e2
  refine Nat.le_of_mul_le_mul_right (c := Nat.gcd n.natAbs d.natAbs) ?_ gp
  rw [← e1, Nat.mul_assoc, ← e2]; exact h
theorem ab_add {V W : Nat} {a b : Rat} (h : Ab V a) (k : Ab W b) : Ab (V + W) (a + b) := by
  have hd : (0 : Int) < (a.den : Int) * (b.den : Int) := Int.mul_pos (by exact_mod_cast a.den_pos) (by exact_mod_cast b.den_pos)
  rw [← quo_plus]
  refine ab_quo hd ?_
  refine Nat.le_trans (Int.natAbs_add_le _ _) ?_
  rw [Int.natAbs_mul, Int.natAbs_mul, Int.natAbs_mul, Int.natAbs_natCast, Int.natAbs_natCast]
  have e1 := Nat.mul_le_mul_right b.den h
  have e2 := Nat.mul_le_mul_right a.den k
  rw [Nat.add_mul]
  refine Nat.add_le_add (Nat.le_trans e1 (Nat.le_of_eq (Nat.mul_assoc ..))) (Nat.le_trans e2 (Nat.le_of_eq ?_))
  rw [Nat.mul_assoc, Nat.mul_comm b.den]
theorem ab_mul {V W : Nat} {a b : Rat} (h : Ab V a) (k : Ab W b) : Ab (V * W) (a * b) := by
  have hd : (0 : Int) < (a.den : Int) * (b.den : Int) := Int.mul_pos (by exact_mod_cast a.den_pos) (by exact_mod_cast b.den_pos)
  rw [← quo_times]
  refine ab_quo hd ?_
  rw [Int.natAbs_mul, Int.natAbs_mul, Int.natAbs_natCast, Int.natAbs_natCast]
  refine Nat.le_trans (Nat.mul_le_mul h k) (Nat.le_of_eq ?_)
  rw [Nat.mul_assoc, Nat.mul_assoc, ← Nat.mul_assoc a.den, Nat.mul_comm a.den W, Nat.mul_assoc W]
theorem ab_neg {V : Nat} {a : Rat} (h : Ab V a) : Ab V (-a) := by
  unfold Ab at h ⊢
  rw [show (-a).num = -a.num from rfl, Int.natAbs_neg]; exact h
theorem ab_mono {V W : Nat} {a : Rat} (h : Ab V a) (k : V ≤ W) : Ab W a := Nat.le_trans h (Nat.mul_le_mul_right _ k)
theorem ab_zero (V : Nat) : Ab V 0 := Nat.zero_le _
theorem ab_num {V : Nat} {q : Rat} (h : q.num.natAbs ≤ V) : Ab V q := Nat.le_trans h (Nat.le_mul_of_pos_right V q.den_pos)
theorem ab_sumQ {V n : Nat} {f : Nat → Rat} (h : ∀ i, i < n → Ab V (f i)) : Ab (n * V) (sumQ n f) := by
  induction n with
  | zero => exact ab_zero _
  | succ n ih => rw [Nat.succ_mul]; exact ab_add (ih fun i hi => h i (by omega)) (h n (by omega))
theorem ab_cast {V : Nat} {q : Rat} {e f : Int} (h : (e : Rat) = (f : Rat) * q) (k : Ab V q) : e.natAbs ≤ f.natAbs * V := by
  have hq : q * ((q.den : Nat) : Rat) = (q.num : Rat) := by
    have hx : q = (q.num : Rat) / (q.den : Rat) := by rw [← Rat.mkRat_eq_div, Rat.mkRat_self]
    have d0 : ((q.den : Nat) : Rat) ≠ 0 := by exact_mod_cast q.den_nz
    grind
  have e2 : ((e * (q.den : Int) : Int) : Rat) = ((f * q.num : Int) : Rat) := by
    rw [Rat.intCast_mul, Rat.intCast_mul, h, ← hq]
    have : (((q.den : Nat) : Int) : Rat) = (q.den : Rat) := rfl
    rw [this]; grind
  have e3 : e * (q.den : Int) = f * q.num := by exact_mod_cast e2
  have e4 := congrArg Int.natAbs e3
  rw [Int.natAbs_mul, Int.natAbs_mul, Int.natAbs_natCast] at e4
  have : e.natAbs * q.den ≤ f.natAbs * V * q.den := by
    rw [e4, Nat.mul_assoc]; exact Nat.mul_le_mul_left _ k
  exact Nat.le_of_mul_le_mul_right this q.den_pos
theorem lcmL_to {X : Nat} : ∀ {row : List Rat} {a : Nat}, a ∣ X → (∀ x ∈ row, x.den ∣ X) → row.foldl (fun a x => Nat.lcm a x.den) a ∣ X
  | [], _, ha, _ => ha
  | x :: row, a, ha, h => by
    rw [List.foldl_cons]
    exact lcmL_to (Nat.lcm_dvd ha (h x List.mem_cons_self)) fun y hy => h y (List.mem_cons_of_mem _ hy)
theorem lcmL_le {X : Nat} {row : List Rat} (hX : 0 < X) (h : ∀ x ∈ row, Mu X x) : lcmL row ≤ X :=
  Nat.le_of_dvd hX (lcmL_to (Nat.one_dvd X) fun x hx => mu_den hX (h x hx))
/-! ### a multiple and a magnitude -/
structure MA (U V : Nat) (q : Rat) : Prop where
  m : Mu U q
  a : Ab V q
theorem MA.den {U V : Nat} {q : Rat} (h : MA U V q) (hU : 0 < U) : q.den ≤ U := Nat.le_of_dvd hU (mu_den hU h.m)
theorem MA.num {U V : Nat} {q : Rat} (h : MA U V q) (hU : 0 < U) : q.num.natAbs ≤ V * U := Nat.le_trans h.a (Nat.mul_le_mul_left _ (h.den hU))
theorem MA.mono {U V W : Nat} {q : Rat} (h : MA U V q) (k : V ≤ W) : MA U W q := ⟨h.m, ab_mono h.a k⟩
theorem MA.dvd {U U' V : Nat} {q : Rat} (h : MA U V q) (k : U ∣ U') : MA U' V q := ⟨mu_dvd h.m k, h.a⟩
theorem ma_zero (U V : Nat) : MA U V 0 := ⟨mu_zero U, ab_zero V⟩
theorem ma_add {U V W : Nat} {a b : Rat} (h : MA U V a) (k : MA U W b) : MA U (V + W) (a + b) := ⟨mu_add h.m k.m, ab_add h.a k.a⟩
theorem ma_mul {U U' V W : Nat} {a b : Rat} (h : MA U V a) (k : MA U' W b) : MA (U * U') (V * W) (a * b) := ⟨mu_mul h.m k.m, ab_mul h.a k.a⟩
theorem ma_neg {U V : Nat} {a : Rat} (h : MA U V a) : MA U V (-a) := ⟨mu_neg h.m, ab_neg h.a⟩
theorem ma_at {U V : Nat} {xs : List Rat} (h : ∀ q ∈ xs, MA U V q) (i : Nat) : MA U V (at0 xs i) := by
  unfold at0
  rw [List.getD_eq_getElem?_getD]
  cases e : xs[i]? with
  | none => exact ma_zero _ _
  | some x => exact h x (List.mem_of_getElem? e)
theorem ma_fits {U V b c : Nat} {q : Rat} (h : MA U V q) (hU : 0 < U) (h1 : U ≤ 2 ^ b) (h2 : V ≤ 2 ^ c) (h3 : b + c < 400000) : Fits q := by
  refine ⟨Nat.lt_of_le_of_lt (h.num hU) ?_, Nat.lt_of_le_of_lt (h.den hU) (Nat.lt_of_le_of_lt h1 (Nat.pow_lt_pow_right (by omega) (by omega)))⟩
  refine Nat.lt_of_le_of_lt (Nat.mul_le_mul h2 h1) ?_
  rw [← Nat.pow_add]
  exact Nat.pow_lt_pow_right (by omega) (by omega)
theorem ma_plus {U V W b c : Nat} {x y : Rat} (h : MA U V x) (k : MA U W y) (hU : 0 < U) (h1 : U ≤ 2 ^ b) (h2 : V ≤ 2 ^ c) (h3 : W ≤ 2 ^ c) (h4 : b < 4500) (h5 : c < 300000) : PlusOk x y :=
  ⟨ma_fits h hU h1 h2 (by omega), ma_fits k hU h1 h3 (by omega), low_plus (.inr (Nat.lt_of_le_of_lt (k.den hU) (Nat.lt_of_le_of_lt h1 (Nat.pow_lt_pow_right (by omega) h4))))⟩
theorem ma_times {U U' V W b b' c c' : Nat} {x y : Rat} (h : MA U V x) (k : MA U' W y) (hU : 0 < U) (hU' : 0 < U') (h1 : U ≤ 2 ^ b) (h1' : U' ≤ 2 ^ b') (h2 : V ≤ 2 ^ c) (h3 : W ≤ 2 ^ c') (h4 : b + b' < 9000) (h5 : c < 300000) (h6 : c' < 300000) : TimesOk x y := by
  refine ⟨ma_fits h hU h1 h2 (by omega), ma_fits k hU' h1' h3 (by omega), low_times ?_⟩
  refine Nat.lt_of_le_of_lt (Nat.mul_le_mul (Nat.le_trans (h.den hU) h1) (Nat.le_trans (k.den hU') h1')) ?_
  rw [← Nat.pow_add]
  exact Nat.pow_lt_pow_right (by omega) h4
/-- a sum of terms with one common multiple -/
theorem tot_ma_from {U V b c : Nat} (hU : 0 < U) (h1 : U ≤ 2 ^ b) (h4 : b < 4500) (h5 : c < 300000) : ∀ {xs : List Rat} {a : Rat} {k : Nat}, MA U (k * V) a → (k + xs.length) * V ≤ 2 ^ c → V ≤ 2 ^ c → (∀ x ∈ xs, MA U V x) → TotFrom a xs ∧ MA U ((k + xs.length) * V) (sumFrom a xs)
  | [], _, _, ha, _, _, _ => ⟨trivial, ha⟩
  | x :: xs, a, k, ha, hk, hv, hx => by
    rw [List.length_cons] at hk
    have hx0 := hx x List.mem_cons_self
    have n := ma_add ha hx0
    rw [← Nat.succ_mul] at n
    obtain ⟨r1, r2⟩ := tot_ma_from hU h1 h4 h5 (xs := xs) (k := k + 1) n (by rw [show k + 1 + xs.length = k + (xs.length + 1) by omega]; exact hk) hv fun y hy => hx y (List.mem_cons_of_mem _ hy)
    refine ⟨⟨ma_plus ha hx0 hU h1 (Nat.le_trans (Nat.mul_le_mul_right V (by omega)) hk) hv h4 h5, r1⟩, ?_⟩
    rw [List.length_cons, show k + (xs.length + 1) = k + 1 + xs.length by omega]
    exact r2
theorem tot_ma {U V b c : Nat} {xs : List Rat} (hU : 0 < U) (h1 : U ≤ 2 ^ b) (h4 : b < 4500) (h5 : c < 300000) (hk : xs.length * V ≤ 2 ^ c) (hv : V ≤ 2 ^ c) (hx : ∀ x ∈ xs, MA U V x) : TotOk xs ∧ MA U (xs.length * V) (sumL xs) := by
  have := tot_ma_from hU h1 h4 h5 (xs := xs) (a := 0) (k := 0) (by rw [Nat.zero_mul]; exact ma_zero _ _) (by rw [Nat.zero_add]; exact hk) hv hx
  rwa [Nat.zero_add] at this
theorem dot_ma {U U' V W b b' c c' : Nat} {xs ys : List Rat} (hU : 0 < U) (hU' : 0 < U') (h1 : U ≤ 2 ^ b) (h1' : U' ≤ 2 ^ b') (h2 : V ≤ 2 ^ c) (h3 : W ≤ 2 ^ c') (hl : xs.length ≤ 2 ^ 8) (h4 : b + b' < 4500) (h5 : c + c' < 200000)
    (hx : ∀ x ∈ xs, MA U V x) (hy : ∀ y ∈ ys, MA U' W y) : DotOk xs ys ∧ MA (U * U') (2 ^ 8 * (V * W)) (sumL (dotP xs ys)) := by
  have tm : ∀ x ∈ dotP xs ys, MA (U * U') (V * W) x := fun x hx' => by
    unfold dotP at hx'
    rw [List.mem_iff_getElem?] at hx'
    obtain ⟨i, e⟩ := hx'
    rw [List.getElem?_zipWith] at e
    cases e1 : xs[i]? with
    | none => rw [e1] at e; cases e
    | some x1 =>
      cases e2 : ys[i]? with
      | none => rw [e1, e2] at e; cases e
      | some y1 =>
        rw [e1, e2] at e
        cases e
        exact ma_mul (hx _ (List.mem_of_getElem? e1)) (hy _ (List.mem_of_getElem? e2))
  have hl2 : (dotP xs ys).length ≤ 2 ^ 8 := by unfold dotP; rw [List.length_zipWith]; omega
  have vw : V * W ≤ 2 ^ (c + c') := by rw [Nat.pow_add]; exact Nat.mul_le_mul h2 h3
  have uu : U * U' ≤ 2 ^ (b + b') := by rw [Nat.pow_add]; exact Nat.mul_le_mul h1 h1'
  have big : 2 ^ 8 * (V * W) ≤ 2 ^ (8 + (c + c')) := by rw [Nat.pow_add 2 8]; exact Nat.mul_le_mul_left _ vw
  obtain ⟨r1, r2⟩ := tot_ma (c := 8 + (c + c')) (Nat.mul_pos hU hU') uu h4 (by omega) (Nat.le_trans (Nat.mul_le_mul_right _ hl2) big) (Nat.le_trans vw (two_le (by omega))) tm
  exact ⟨⟨fun i _ _ => ma_times (ma_at hx i) (ma_at hy i) hU hU' h1 h1' h2 h3 (by omega) (by omega) (by omega), r1⟩, r2.mono (Nat.mul_le_mul_right _ hl2)⟩
end LP
end

section
set_option autoImplicit false
namespace LP
/-! ### shortest ways, as the law finds them -/
abbrev Dst := List (Option Rat)
def dat (ds : Dst) (i : Nat) : Option Rat := ds.getD i none
def relax (s : Dst × Bool) (a : Nat × Nat × Rat) : Dst × Bool :=
  match dat s.1 a.1 with
  | none => s
  | some x => match dat s.1 a.2.1 with
    | none => (s.1.set a.2.1 (some (x + a.2.2)), true)
    | some y => if x + a.2.2 < y then (s.1.set a.2.1 (some (x + a.2.2)), true) else s
def lapW (as : List (Nat × Nat × Rat)) (ds : Dst) : Dst × Bool := as.foldl relax (ds, false)
def waysK (as : List (Nat × Nat × Rat)) : Nat → Dst → Dst × Bool
  | 0, ds => (ds, true)
  | k + 1, ds => lapW as (waysK as k ds).1
def initW (n : Nat) (st : List Nat) : Dst := (List.range n).map fun i => if i ∈ st then some 0 else none
theorem relax_len (s : Dst × Bool) (a : Nat × Nat × Rat) : (relax s a).1.length = s.1.length := by
  unfold relax
  split
  · rfl
  · split
    · rw [List.length_set]
    · split
      · rw [List.length_set]
      · rfl
theorem fold_len : ∀ (as : List (Nat × Nat × Rat)) (s : Dst × Bool), (as.foldl relax s).1.length = s.1.length
  | [], _ => rfl
  | a :: as, s => by rw [List.foldl_cons, fold_len as, relax_len]
theorem ways_len (as : List (Nat × Nat × Rat)) (ds : Dst) : ∀ k, (waysK as k ds).1.length = ds.length
  | 0 => rfl
  | k + 1 => by rw [waysK, lapW, fold_len, ways_len as ds k]
theorem init_len (n : Nat) (st : List Nat) : (initW n st).length = n := by unfold initW; rw [List.length_map, List.length_range]
theorem dat_set {ds : Dst} {i j : Nat} {x : Option Rat} (h : i < ds.length) : dat (ds.set i x) j = if j = i then x else dat ds j := by
  unfold dat
  rw [List.getD_eq_getElem?_getD, List.getElem?_set, List.getD_eq_getElem?_getD]
  by_cases e : i = j
  · subst e; simp [h]
  · simp [e, Ne.symm e]
theorem dat_init {n i : Nat} {st : List Nat} (h : i < n) : dat (initW n st) i = if i ∈ st then some 0 else none := by
  unfold dat initW
  rw [List.getD_eq_getElem?_getD, List.getElem?_map, List.getElem?_range h]; rfl
/-- the sizes of what stands there, t relaxings on -/
def SzD (U V t : Nat) (ds : Dst) : Prop := ∀ i x, dat ds i = some x → MA U (V * t) x
theorem relax_sz {U V t : Nat} {s : Dst × Bool} {a : Nat × Nat × Rat} (h : SzD U V t s.1) (ha : MA U V a.2.2) (hb : a.2.1 < s.1.length) : SzD U V (t + 1) (relax s a).1 := by
  have up : ∀ {x : Rat}, MA U (V * t) x → MA U (V * (t + 1)) x := fun m => m.mono (Nat.mul_le_mul_left _ (by omega))
  have put : ∀ {x : Rat}, dat s.1 a.1 = some x → SzD U V (t + 1) (s.1.set a.2.1 (some (x + a.2.2))) := fun {x} e i y hy => by
    rw [dat_set hb] at hy
    by_cases q : i = a.2.1
    · rw [if_pos q] at hy
      cases hy
      rw [Nat.mul_succ]
      exact ma_add (h _ _ e) ha
    · rw [if_neg q] at hy
      exact up (h _ _ hy)
  have keep : SzD U V (t + 1) s.1 := fun i y hy => up (h _ _ hy)
  unfold relax
  split
  · exact keep
  · rename_i x e
    split
    · exact put e
    · split
      · exact put e
      · exact keep
theorem init_sz (U V n : Nat) (st : List Nat) : SzD U V 0 (initW n st) := fun i x h => by
  by_cases q : i < n
  · rw [dat_init q] at h
    split at h
    · cases h; exact ma_zero _ _
    · cases h
  · unfold dat at h
    rw [List.getD_eq_getElem?_getD, List.getElem?_eq_none (by rw [init_len]; omega)] at h
    cases h
theorem SzD.mono {U V t u : Nat} {ds : Dst} (h : SzD U V t ds) (k : t ≤ u) : SzD U V u ds := fun i x e => (h i x e).mono (Nat.mul_le_mul_left _ k)
end LP
end

section
set_option autoImplicit false
set_option exponentiation.threshold 1000000
namespace LP
/-! ### every run is valid -/
abbrev GoodI (goal : List Rat) (lims : Lims) (t : Tab) : Prop := Good goal.length lims.length (colM goal lims) (costC lims) (helpC goal.length lims.length) t
abbrev FactsI (goal : List Rat) (lims : Lims) (t : Tab) : Prop := Facts goal.length (fun i => sgnOf (rowAt goal lims i) * lcmL (rowAt goal lims i)) t
theorem run_two {goal : List Rat} {lims : Lims} {n1 n2 : Nat} {t1 t3 : Tab} {o1 o3 : Option Nat} (C : Climbs Tab.wants n1 (initTab goal lims) t1 o1) (hz : lastE t1.wants = 0) (Cg : Climbs Tab.gains n2 t1.driveOut t3 o3) :
    GoodI goal lims t3 ∧ FactsI goal lims t3 ∧ t3.scale = lcmL (lims.map (·.2)) ∧ (o3 = none ∧ BestFor goal.length lims.length (rowsA lims) (bdsB lims) (at0 goal) (pricesL t3 t3.gains t3.scale) t3.weights ∨ ∃ q, q < lims.length ∧ o3 = some q ∧ EmptyFor goal.length lims.length (rowsA lims) (bdsB lims) (t3.ray q)) := by
  have T := init_told goal lims
  obtain ⟨G0, F0⟩ := init_good goal lims
  obtain ⟨G1, F1, ho, hw⟩ := phase1_end T G0 F0 C
  obtain ⟨Fa1, hs1⟩ := climbs_facts C (init_facts goal lims)
  have hz' := hz
  rw [G1.lastW] at hz'
  obtain ⟨G2, F2, C2⟩ := drive_to T.hl0 G1 F1 (rhs_zero T G1 F1 hz') goal.length (Nat.le_refl _)
  have e : t1.driveTo goal.length = t1.driveOut := by unfold Tab.driveOut; rw [G1.ln]
  rw [e] at G2 F2 C2
  have Fa2 := facts_drive Fa1 t1.lines.length
  have hs2 : t1.driveOut.scale = lcmL (lims.map (·.2)) := by rw [show t1.driveOut.scale = t1.scale from Fa2.2, hs1]; rfl
  obtain ⟨Fa3, hs3⟩ := climbs_facts Cg Fa2.1
  obtain ⟨G3, h⟩ := phase2_end T G2 F2 ⟨C2.rhs, fun i hi => C2.cols i hi hi⟩ Fa2.1 hs2 Cg
  exact ⟨G3, Fa3, by rw [hs3]; exact hs2, h⟩
theorem run_one {goal : List Rat} {lims : Lims} {n1 : Nat} {t1 : Tab} {o1 : Option Nat} (C : Climbs Tab.wants n1 (initTab goal lims) t1 o1) :
    GoodI goal lims t1 ∧ FactsI goal lims t1 ∧ (lastE t1.wants ≠ 0 → RayFor goal.length lims.length (rowsA lims) (at0 goal) (pricesL t1 t1.wants 1)) := by
  have T := init_told goal lims
  obtain ⟨G0, F0⟩ := init_good goal lims
  obtain ⟨G1, F1, ho, hw⟩ := phase1_end T G0 F0 C
  obtain ⟨Fa1, hs1⟩ := climbs_facts C (init_facts goal lims)
  refine ⟨G1, Fa1, fun hz => ?_⟩
  rw [G1.lastW] at hz
  obtain ⟨r1, r2⟩ := ray_of T G1 Fa1 F1 hw hz
  exact ⟨r1, r2⟩
theorem run_valid {lims : Lims} {goal : List Rat} {a : Ans} (r : Run lims goal a) : Valid goal lims a := by
  induction r with
  | best C hz Cg =>
    obtain ⟨G, F, s, h⟩ := run_two C hz Cg
    rcases h with ⟨_, B⟩ | ⟨q, _, h, _⟩
    · exact ⟨prices_len F _ _, by rw [weights_len, G.many], B, rfl⟩
    · cases h
  | empty C hz Cg =>
    obtain ⟨G, F, s, h⟩ := run_two C hz Cg
    rcases h with ⟨h, _⟩ | ⟨q, _, h, E⟩
    · cases h
    · cases h
      exact ⟨by rw [ray_len, G.many], E⟩
  | endless C hz _ ih =>
    obtain ⟨G, F, h⟩ := run_one C
    obtain ⟨l1, _, B, _⟩ := ih
    rw [List.length_replicate] at l1 B
    have R := h hz
    exact ⟨l1, prices_len F _ _, B.within, R⟩
  | none C hz _ ih =>
    obtain ⟨l1, E⟩ := ih
    rw [List.length_replicate] at E
    exact ⟨l1, E⟩
end LP
end

section
set_option autoImplicit false
set_option exponentiation.threshold 1000000
namespace LP
open WB
/-! ### the program's sums are sums -/
theorem at0_app {l : List Rat} {x : Rat} {k : Nat} (h : k < l.length) : at0 (l ++ [x]) k = at0 l k := by
  unfold at0; rw [List.getD_eq_getElem?_getD, List.getD_eq_getElem?_getD, List.getElem?_append_left h]
theorem at0_end {l : List Rat} {x : Rat} : at0 (l ++ [x]) l.length = x := by
  unfold at0; rw [List.getD_eq_getElem?_getD, List.getElem?_append_right (Nat.le_refl _)]; simp
theorem sumQ_congr2 {n : Nat} {f g : Nat → Rat} (h : ∀ i, i < n → f i = g i) : sumQ n f = sumQ n g := by
  induction n with
  | zero => rfl
  | succ n ih => show sumQ n f + f n = sumQ n g + g n; rw [ih fun i hi => h i (by omega), h n (by omega)]
theorem sumL_sumQ (l : List Rat) : sumL l = sumQ l.length (at0 l) := by
  suffices h : ∀ (n : Nat) (l : List Rat), l.length = n → sumL l = sumQ n (at0 l) from h _ l rfl
  intro n
  induction n with
  | zero => intro l h; rw [List.length_eq_zero_iff.mp h]; rfl
  | succ n ih =>
    intro l h
    have hne : l ≠ [] := fun z => by rw [z] at h; cases h
    have e := List.dropLast_concat_getLast hne
    have hl : l.dropLast.length = n := by rw [List.length_dropLast, h]; rfl
    rw [← e]
    show sumL (l.dropLast ++ [l.getLast hne]) = sumQ n (at0 (l.dropLast ++ [l.getLast hne])) + at0 (l.dropLast ++ [l.getLast hne]) n
    rw [show sumL (l.dropLast ++ [l.getLast hne]) = sumL l.dropLast + l.getLast hne from sumFrom_app 0 _ _, ih _ hl, sumQ_congr2 (g := at0 l.dropLast) fun i hi => at0_app (by omega)]
    congr 1
    have := at0_end (l := l.dropLast) (x := l.getLast hne)
    rw [hl] at this
    exact this.symm
theorem at0_zip {f : Rat → Rat → Rat} {xs ys : List Rat} {i : Nat} (h1 : i < xs.length) (h2 : i < ys.length) : at0 (List.zipWith f xs ys) i = f (at0 xs i) (at0 ys i) := by
  unfold at0
  rw [List.getD_eq_getElem?_getD, List.getD_eq_getElem?_getD, List.getD_eq_getElem?_getD, List.getElem?_zipWith, List.getElem?_eq_getElem h1, List.getElem?_eq_getElem h2]; rfl
theorem sum_dot {xs ys : List Rat} {n : Nat} (h1 : xs.length = n) (h2 : ys.length = n) : sumL (dotP xs ys) = sumQ n fun i => at0 xs i * at0 ys i := by
  rw [sumL_sumQ]
  have e : (dotP xs ys).length = n := by unfold dotP; rw [List.length_zipWith]; omega
  rw [e]
  exact sumQ_congr2 fun i hi => at0_zip (by omega) (by omega)
theorem rows_at {lims : Lims} {k j : Nat} : at0 ((rowsOf lims).getD k []) j = rowsA lims k j := by
  unfold rowsOf rowsA
  rw [List.getD_eq_getElem?_getD, List.getElem?_map, List.getD_eq_getElem?_getD]
  cases lims[k]? <;> rfl
theorem at0_col {ws : List Rat} {lims : Lims} {j k : Nat} (h : ws.length = lims.length) (hk : k < lims.length) : at0 (colP ws (rowsOf lims) j) k = at0 ws k * rowsA lims k j := by
  rw [← rows_at]
  unfold colP
  have h2 : k < (rowsOf lims).length := by unfold rowsOf; rw [List.length_map]; exact hk
  unfold at0
  rw [List.getD_eq_getElem?_getD, List.getElem?_zipWith, List.getElem?_eq_getElem (show k < ws.length by omega), List.getElem?_eq_getElem h2, List.getD_eq_getElem?_getD, List.getElem?_eq_getElem (show k < ws.length by omega), List.getD_eq_getElem?_getD (l := rowsOf lims), List.getElem?_eq_getElem h2]; rfl
theorem at0_mixC {ws : List Rat} {lims : Lims} {n j : Nat} (h : ws.length = lims.length) (hj : j < n) : at0 (mixC ws (rowsOf lims) n) j = sumQ lims.length fun k => at0 ws k * rowsA lims k j := by
  have e : at0 (mixC ws (rowsOf lims) n) j = sumL (colP ws (rowsOf lims) j) := by
    unfold mixC at0
    rw [List.getD_eq_getElem?_getD, List.getElem?_map, List.getElem?_range hj]; rfl
  rw [e, sumL_sumQ]
  have el : (colP ws (rowsOf lims) j).length = lims.length := by unfold colP rowsOf; rw [List.length_zipWith, List.length_map]; omega
  rw [el]
  exact sumQ_congr2 fun k hk => at0_col h hk
theorem at0_scl {q : Rat} {xs : List Rat} {j : Nat} (h : j < xs.length) : at0 (sclL q xs) j = q * at0 xs j := by
  unfold at0 sclL
  rw [List.getD_eq_getElem?_getD, List.getElem?_map, List.getD_eq_getElem?_getD, List.getElem?_eq_getElem h]; rfl
theorem at0_mixFrom : ∀ {ps : List (Rat × List Rat)} {acc : List Rat}, (∀ p ∈ ps, p.2.length = acc.length) →
    (mixFrom acc ps).length = acc.length ∧ ∀ j, j < acc.length → at0 (mixFrom acc ps) j = at0 acc j + sumL (ps.map fun p => p.1 * at0 p.2 j)
  | [], acc, _ => ⟨rfl, fun j _ => by show at0 acc j = at0 acc j + 0; grind⟩
  | p :: ps, acc, h => by
    have hp := h p List.mem_cons_self
    have e : (addL acc (sclL p.1 p.2)).length = acc.length := by unfold addL sclL; rw [List.length_zipWith, List.length_map]; omega
    obtain ⟨r1, r2⟩ := at0_mixFrom (ps := ps) (acc := addL acc (sclL p.1 p.2)) fun q hq => by rw [e]; exact h q (List.mem_cons_of_mem _ hq)
    refine ⟨by rw [mixFrom, r1, e], fun j hj => ?_⟩
    rw [mixFrom, r2 j (by omega), List.map_cons, sumL_cons]
    have e2 : at0 (addL acc (sclL p.1 p.2)) j = at0 acc j + p.1 * at0 p.2 j := by
      unfold addL
      rw [at0_zip hj (by unfold sclL; rw [List.length_map]; omega), at0_scl (by omega)]
    rw [e2]; grind
theorem list_ext {xs ys : List Rat} (h : xs.length = ys.length) (e : ∀ i, i < xs.length → at0 xs i = at0 ys i) : xs = ys := by
  refine List.ext_getElem h fun i h1 h2 => ?_
  have := e i h1
  unfold at0 at this
  rwa [List.getD_eq_getElem?_getD, List.getD_eq_getElem?_getD, List.getElem?_eq_getElem h1, List.getElem?_eq_getElem h2] at this
end LP
end

section
set_option Elab.async false
set_option linter.all false
set_option maxRecDepth 100000
set_option maxHeartbeats 2000000
namespace WB
open PySem PySem.Spec PyProof.Rows L2 LamX
/-! ### a caught error that is kept -/
/-- a caught error of the class cls, held at a -/
def ExV (cls : Value) (a : Addr) : HO := .ext fun h => ∃ (oe : Obj) (vs : Array Value), h.get? a = some oe ∧ Zc cls none oe ∧ oe.data = .fields vs
section
variable {X : Cx} {pins : List (Addr × Obj)} {σ : L2.St} {H : Hp} {s : Shared} {a : Addr} {oe : Obj} {cls : Value}
theorem held_inv (I : Inv X pins σ H s) (ha : s.heap.get? a = some oe) (na : H a = none) (n0 : X.s_0.heap.get? a = none) (nL : a ≠ X.env.locals) (np : ∀ p ∈ X.pn ++ pins, p.1 ≠ a)
    (hz : Zc cls none oe) (hd : ∃ vs, oe.data = .fields vs) : Inv X pins σ (upd H a (ExV cls a)) s := by
  obtain ⟨vs, hd⟩ := hd
  have off : ∀ {b o}, X.s_0.heap.get? b = some o → b ≠ a := fun {b o} e z => by rw [z, n0] at e; cases e
  have tra : ∀ {b o}, H b = some o → b ≠ a := fun {b o} e z => by rw [z, na] at e; cases e
  have cel : ∀ {x c}, X.env.cells.lookup x = some c → c ≠ a := fun {x c} e z => by
    obtain ⟨v, o, ho, hv⟩ := I.cell x c e
    rw [z, ha] at ho
    cases ho
    rw [hd] at hv
    cases hv
  have B := I.base
  exact {
    ok := I.ok, os := I.os, bare := I.bare, loc := I.loc, cell := I.cell, len := I.len
    base := {
      keep := B.keep, slot := B.slot, there := B.there
      free := fun b o e n x => (upd_ne (off e)).trans (B.free b o e n x)
      tups := fun b xs e => (upd_ne (tra (B.tups b xs e))).trans (B.tups b xs e)
      frzs := fun b o u e => (upd_ne (tra (B.frzs b o u e))).trans (B.frzs b o u e)
      tbls := fun b ps e => let ⟨m, q⟩ := B.tbls b ps e; ⟨m, (upd_ne (tra q)).trans q⟩ }
    free := (upd_ne (Ne.symm nL)).trans I.free
    freeC := fun x c e => (upd_ne (cel e)).trans (I.freeC x c e)
    pin := fun p hp => let ⟨p1, p2, p3⟩ := I.pin p hp; ⟨p1, (upd_ne (np p hp)).trans p2, p3⟩
    hok := fun b u e => by
      by_cases hb : b = a
      · subst hb
        rw [upd_same] at e
        cases e
        exact ⟨⟨oe, vs, ha, hz, hd⟩, ⟨oe, ha⟩, fun h1 h2 ⟨o, v, q, r⟩ k => ⟨o, v, k o q, r⟩⟩
      · rw [upd_ne hb] at e
        exact (I.hok b u e).stay (fun _ _ _ q => q) (fun c q => (upd_ne (tra q)).trans q) fun c xs q => (upd_ne (tra q)).trans q }
end
/-- what the clause wishes: the error is of the class, its slot is set, behind the suite the error is held -/
def wHeld (K : PySem.W.Frag) (m : Nat) (c : Value) (i : Nat) (ts : Addr → Value → Option Addr → TS) (D : Ends) : WX := fun cls d σ H =>
  σ.length = m → PySem.W.exmOne K cls c = some true ∧ d = none ∧ ∀ a, H a = none → ts a cls d { nx := fun σ' H' => D.nx (σ'.set i none) (upd H' a (ExV cls a)), rt := fun _ _ => False } (σ.set i (some (.ref a))) H
section
variable {X : Cx} {x n : Str} {c : Value} {i : Nat} {body suite : List Stmt} {b₀ : Stmt} {np pos pos' : Pos} {tb : WX → TS} {ts : Addr → Value → Option Addr → TS}
theorem ps_try_held (hs : X.stack = X.env :: X.outer) (hf : X.env.frame = some X.env.locals) (hex : X.ex = []) (hN : X.N.Nodup) (hi : X.N[i]? = some n) (hln : X.env.kindOf n = some .local) (hc : Names X x c)
    (hb : ∀ (W : WX) (pn : List (Addr × Obj)) (xe : Value → Shared → Prop), Takes (X.tr pn xe) W → PassesOwn (model X.prog X.w) X.A X.env xe → PSs (X.tr pn xe) body (tb W))
    (hsu : ∀ (a : Addr) (oe : Obj) (cls : Value) (d : Option Addr) (pn : List (Addr × Obj)), Zc cls d oe → (∃ vs, oe.data = .fields vs) → PSs (X.suite a ((a, oe) :: pn)) (b₀ :: suite) (ts a cls d)) :
    PS X (.Try body [.ExceptHandler (some (.Name x np)) (some n) (b₀ :: suite) pos'] [] [] pos) (fun D σ H => tb (wHeld X.K X.N.length c i ts D) D σ H) := by
  constructor
  intro pins s σ H D I h
  have okX := I.ok
  have frX : X.A.frames = some (X.env :: X.outer) := okX.frames.trans (congrArg some hs)
  refine wpAny_Try_except (wpAny_mono ((hb (wHeld X.K X.N.length c i ts D) (X.pn ++ pins) _ ?land PassesOwn.looking).run [] s σ H D (I.toTry _) h) ?fin fun _ _ z => z)
  case fin =>
    intro fl s1 h1
    cases fl with
    | next => obtain ⟨σ1, H1, J1, q1⟩ := h1; exact wpAny_execs_nil ⟨σ1, H1, J1.ofTry okX, q1⟩
    | brk => obtain ⟨σ1, H1, J1, q1⟩ := h1; exact ⟨σ1, H1, J1.ofTry okX, q1⟩
    | cont => obtain ⟨σ1, H1, J1, q1⟩ := h1; exact ⟨σ1, H1, J1.ofTry okX, q1⟩
    | ret u => obtain ⟨v1, σ1, H1, J1, r1, q1⟩ := h1; exact ⟨v1, σ1, H1, J1.ofTry okX, r1, q1⟩
  case land =>
    rintro u s1 ⟨a, B, sI, pins1, σ1, H1, cls, d, rfl, J1, ground, up, sky, na, hos, hbare, wish⟩
    obtain ⟨hcl, rfl, go⟩ := wish J1.len
    have J := J1.ofTry okX
    replace sky : Sky B (X.env :: X.outer) a (Zc cls none) X.env.locals s1.heap := hs ▸ sky
    refine Sky.land Zc.steady frX hf sky fun h2 fly2 up2 => ?_
    obtain ⟨o2, v2, at2, z2, d2⟩ := fly2.there
    -- the error's place is none of ours
    have outFrames : a ∉ frs (X.env :: X.outer) := fun hm => by
      obtain ⟨_, o', e', no⟩ := fly2.2.2.1.mem hm
      rw [at2] at e'
      cases e'
      exact no _ d2
    have nL : a ≠ X.env.locals := fun z => outFrames (List.mem_filterMap.mpr ⟨X.env, List.mem_cons_self, z ▸ hf⟩)
    have nF : a ∉ X.fs := fun hm => let ⟨e, he, q⟩ := List.mem_filterMap.mp hm; outFrames (List.mem_filterMap.mpr ⟨e, List.mem_cons_of_mem _ he, q⟩)
    have gone : B.get? a = none := fly2.2.1
    have new0 : X.s_0.heap.get? a = none := by
      cases e : X.s_0.heap.get? a with
      | none => rfl
      | some o =>
        obtain ⟨o', e'⟩ := J.base.there a o e (by rw [hex]; exact fun z => nomatch z)
        have := ground a o' e' (by rw [show (X.tr (X.pn ++ pins) _).stack = X.stack from rfl, hs]; exact outFrames)
        rw [gone] at this
        cases this
    have pinOff : ∀ p ∈ X.pn ++ pins, p.1 ≠ a := fun p hp z => by
      obtain ⟨q1, q2, q3, q4, _⟩ := J.pin p hp
      have := ground p.1 p.2 q1 (by rw [show (X.tr (X.pn ++ pins) _).stack = X.stack from rfl, hs, z]; exact outFrames)
      rw [z, gone] at this
      cases this
    have J2 : Inv X pins σ1 H1 { s1 with heap := h2 } := J.landed ground fly2.1 (up.trans up2) hos hbare
    have S2 := J2.suite at2 d2 na nL nF
    refine wpAny_handleBy_cons (codeAny_handlers_test ?_) (by intro q; cases q)
    have look1 : PySem.W.Looks (model X.prog X.w) h2 (typeOf (.ref a)) cls := fun _ _ _ _ k q => wpAny_typeOf_ref (k _ _ at2) (by rw [z2.1]; exact q)
    have look2 := PySem.W.exm_one (M := model X.prog X.w) J2.kIn look1 hcl
    have clause : ∀ {Q E : Value → Shared → Prop}, Q c { s1 with heap := h2 } → wpAny (model X.prog X.w) (X.A.mark (some (.ref a))) (eval (.Name x np) X.env) Q E { s1 with heap := h2 } := fun {Q E} q => by
      obtain ⟨hg, hdb, hm | ⟨hm, hv, hnn⟩⟩ := hc
      · exact ld_glob (X := X.suite a ((a, o2) :: (X.pn ++ pins))) S2 hg hm q hdb
      · exact ld_blt (X := X.suite a ((a, o2) :: (X.pn ++ pins))) S2 hg hm hv q hnn hdb
    refine clause (look2.here (codeAny_handlers_suite_as (HandSPX.lands_againZ fly2 fun h3 fly3 up3 => ?_)))
    obtain ⟨o3, v3, at3, z3, d3⟩ := fly3.there
    have J3 : Inv X pins σ1 H1 { s1 with heap := h3 } := J.landed ground fly3.1 ((up.trans up2).trans up3) hos hbare
    have S3 := J3.suite at3 d3 na nL nF
    refine store_ok (X := X.suite a ((a, o3) :: (X.pn ++ pins))) (v := .ref a) S3 hN hi (.inl hln) rfl (fun s4 S4 => ?_) (.inr hln)
    refine wpAny_mono ((hsu a o3 cls none (X.pn ++ pins) z3 ⟨_, d3⟩).run [] s4 _ H1 _ S4 (go a na)) ?_ fun _ _ z => z.elim
    intro fl s5 h5
    cases fl with
    | brk => obtain ⟨_, _, _, q5⟩ := h5; exact q5.elim
    | cont => obtain ⟨_, _, _, q5⟩ := h5; exact q5.elim
    | ret u => obtain ⟨_, _, _, _, _, q5⟩ := h5; exact q5.elim
    | next =>
      obtain ⟨σ5, H5, S5, q5⟩ := h5
      -- the error stays pinned while its name goes
      have U := S5.unsuite okX
      have more : ∀ p ∈ X.pn ++ (a, o3) :: pins, s5.heap.get? p.1 = some p.2 ∧ H5 p.1 = none ∧ p.1 ≠ X.env.locals ∧ p.1 ∉ X.fs ∧ ∀ v, p.2.data ≠ .cell v := fun p hp => by
        rcases List.mem_append.mp hp with q | q
        · exact U.pin p (List.mem_append_left _ q)
        · rcases List.mem_cons.mp q with rfl | q
          · exact S5.pin _ (List.mem_append_left _ List.mem_cons_self)
          · exact U.pin p (List.mem_append_right _ q)
      have P5 : Inv X ((a, o3) :: pins) σ5 H5 s5 := ⟨U.ok, U.os, U.bare, U.base, U.loc, U.cell, U.free, U.freeC, more, U.hok, U.len⟩
      refine gone_ok P5 hN hi hln fun s6 J6 => ?_
      obtain ⟨at6, na6, _⟩ := J6.pin (a, o3) (List.mem_append_right _ List.mem_cons_self)
      have less : ∀ p ∈ X.pn ++ pins, s6.heap.get? p.1 = some p.2 ∧ H5 p.1 = none ∧ p.1 ≠ X.env.locals ∧ p.1 ∉ X.fs ∧ ∀ v, p.2.data ≠ .cell v := fun p hp => J6.pin p (by
        rcases List.mem_append.mp hp with q | q
        · exact List.mem_append_left _ q
        · exact List.mem_append_right _ (List.mem_cons_of_mem _ q))
      have W6 : Inv X pins (σ5.set i none) H5 s6 := ⟨J6.ok, J6.os, J6.bare, J6.base, J6.loc, J6.cell, J6.free, J6.freeC, less, J6.hok, J6.len⟩
      exact ⟨_, _, held_inv W6 at6 na6 new0 nL pinOff z3 ⟨_, d3⟩, q5⟩
end
/-- isinstance of an error that is held -/
def rIsV (K : PySem.W.Frag) : List V → Hp → VK → Prop := fun xs H Q => ∃ (a D : Addr) (c : V) (cv : Value) (b : Bool), xs = [.ref a, c] ∧ H a = some (ExV (.ref D) a) ∧ ExcC K D ∧ (∀ u, RelV c u → u = cv) ∧ PySem.W.kitOne K (.ref D) cv = some b ∧ Q (.bl b) H
theorem call_isV {X : Cx} : CallR X (.builtin "isinstance") (rIsV X.K) := by
  intro pins s σ H xs us Q I r h
  obtain ⟨a, D, c, cv, b, rfl, hH, C, hcv, e, q⟩ := h
  match us, r with
  | [_, _], .cons rx (.cons rt .nil) =>
    cases rx
    cases hcv _ rt
    obtain ⟨⟨oe, vs, hget, hz, hv⟩, _, _⟩ := I.hok a _ hH
    have J : PySem.W.InstAt s.heap a oe D none := by
      obtain ⟨oc, od, oda, osl⟩ := oe
      obtain ⟨h1, h2⟩ := hz
      dsimp only at h1 h2 hv
      subst h1 h2 hv
      exact ⟨hget, rfl, rfl, trivial⟩
    exact PySem.W.kia_one (PySem.W.handS_kitx_exc C.hg C.hk C.hs C.hd C.ha C.hn C.ht C.hm) I.kIn J e (fun z => nomatch z) fun tk => ⟨.bl b, H, I.kept (t' := tk) fun _ _ z => z, rfl, q⟩
theorem passX0 {X : Cx} : Passes (L2.CX X.prog X.w) X E0 := fun _ _ _ _ _ _ _ ⟨_, _, _, _, _, _, _, _, _, _, _, _, z⟩ => z.elim
end WB
end

section
set_option Elab.async false
set_option linter.all false
set_option maxRecDepth 100000
set_option maxHeartbeats 2000000
set_option exponentiation.threshold 1000000
namespace WB
open PySem PySem.Spec PyProof.Rows L2 LamX LP
variable {P : Program} {w : World} {K : PySem.W.Frag} {mg : Str → Option Value} {base : Heap} {A : LPA} {B : LawA} {T : List (Addr × Str)} {Pc : Addr}

/-! ### own errors: Empty, Endless under PlayError -/
structure ExcA where
  P : Addr
  E : Addr
  D : Addr
abbrev VEb : List Value := [.type "ValueError", .type "Exception", .type "BaseException", .type "object"]
/-- what the written part says of an own error class -/
structure ErrC (K : PySem.W.Frag) (mg : Str → Option Value) (x : Str) (C : Addr) : Prop where
  g : mg x = some (.ref C)
  x : PySem.W.excIn K C VEb "ValueError.__new__" = true
  k : PySem.W.keepIn K (.ref C) = true
  b : PySem.W.subIn K (.ref C) (.type "BaseException") = some true
  t : PySem.W.typeIn K (.ref C) = some (.type "type")
structure ExcT (K : PySem.W.Frag) (mg : Str → Option Value) (Z : ExcA) : Prop where
  gP : mg "PlayError" = some (.ref Z.P)
  e : ErrC K mg "Empty" Z.E
  d : ErrC K mg "Endless" Z.D
  eP : PySem.W.exmOne K (.ref Z.E) (.ref Z.P) = some true
  dP : PySem.W.exmOne K (.ref Z.D) (.ref Z.P) = some true
  ce : ExcC K Z.E
  cd : ExcC K Z.D
  ee : PySem.W.kitOne K (.ref Z.E) (.ref Z.E) = some true
  ed : PySem.W.kitOne K (.ref Z.E) (.ref Z.D) = some false
  de : PySem.W.kitOne K (.ref Z.D) (.ref Z.E) = some false
  dd : PySem.W.kitOne K (.ref Z.D) (.ref Z.D) = some true
section
variable (K Pc)
/-- how least ends -/
def LeastEnd (Z : ExcA) (E : XK) (Q : VK) (H' : Hp) : Ans → Prop
  | .best q _ _ => ∀ v, Dp K H' v (dq q) → Q v H'
  | .empty _ => E (.ref Z.E) none H'
  | .endless _ _ => E (.ref Z.D) none H'
def sp_least (Z : ExcA) : Sp := fun vs H Q E => ∃ x goal lims, vs = [x] ∧ Dp K H x (dprog goal lims) ∧ Tabs (TT1 Pc) H ∧ AnsOk goal lims ∧ ∀ a H', Run lims goal a → Ex (TT1 Pc) No H H' → LeastEnd K Z E Q H' a
end
theorem dp_word {H : Hp} {v : V} {a : Ans} (h : Dp K H v (dans a)) : ∃ t rest, v = .ref t ∧ SqT K H t (.str (wordOf a) :: rest) := by
  cases a with
  | best q xs p => obtain ⟨t, _, _, _, e, hs, _⟩ := dp_best h; exact ⟨t, _, e, hs⟩
  | empty p => obtain ⟨t, _, e, hs, _⟩ := dp_empty h; exact ⟨t, _, e, hs⟩
  | endless xs ys => obtain ⟨t, _, _, e, hs, _⟩ := dp_endless h; exact ⟨t, _, e, hs⟩
theorem ok_least (X : LawTxt K mg A B) (TB : TabB base mg A.code Pc) {Z : ExcA} (Y : ExcT K mg Z) : FnOk P w K mg base (L2.CX P w) 8 B.least.1 B.least.2 ["program"] (sp_least K Pc Z) := by
  refine X.least.fn.okX sc_least (fun vs H Q E h => ?_) (fun cdv A' outer s H vs Q E hr h => ?_)
  · obtain ⟨_, _, _, rfl, _⟩ := h; rfl
  · obtain ⟨x, goal, lims, rfl, hx, hT, ok, k⟩ := h
    have ok_answer : ∀ (X : LPTxt K mg A), FnOk P w K mg base CX0 7 A.answer.1 A.answer.2 ["program"] (sp_answer K Pc) := fun X => ok_answer X TB
    refine ⟨_, (pss_cons (ps_set (i := 1) sc_least.nd rfl (Or.inl rfl) (pe_call (ok_answer X.toLPTxt) (hr.mono (by decide)) rfl X.answer.g X.answer.fn.kp X.answer.b .nil pass0 (pa_cons (pv 0) pa_nil)))
  (pss_cons (ps_if (pt_cmpR op_eq (pe_ix (kix_tup (K := K)) (pv 1) pe_int (fun _ _ => rfl)) pe_str (nomark _)) (pss_one (ps_raise rfl (takes_of rfl rfl rfl rfl) (pmk_own PySem.F.excBase_ValueError Y.e.x Y.e.g Y.e.k (raises_own Y.e.b Y.e.t) (by exact rfl)))) pss_nil)
  (pss_cons (ps_if (pt_cmpR op_eq (pe_ix (kix_tup (K := K)) (pv 1) pe_int (fun _ _ => rfl)) pe_str (nomark _)) (pss_one (ps_raise rfl (takes_of rfl rfl rfl rfl) (pmk_own PySem.F.excBase_ValueError Y.d.x Y.d.g Y.d.k (raises_own Y.d.b Y.d.t) (by exact rfl)))) pss_nil)
  (pss_one (ps_ret (pe_ix (kix_tup (K := K)) (pv 1) pe_int (fun _ _ => rfl))))))), ?_⟩
    refine seq_of (fun σ H1 => ∃ v a, σ = [some x, some v] ∧ Run lims goal a ∧ Ex (TT1 Pc) No H H1 ∧ Dp K H1 v (dans a)) (fun N hN => ?_) ?_
    · exact ⟨_, rfl, x, goal, lims, rfl, hx, hT, ok, fun a v H1 ra ex1 d1 => hN _ _ ⟨v, a, rfl, ra, ex1, d1⟩⟩
    rintro σ H1 ⟨v, a, rfl, ra, ex1, d1⟩
    have kk := k a H1 ra ex1
    cases a with
    | best q xs p =>
      obtain ⟨t, va, vb, vc, rfl, ht, ha, hb, hc⟩ := dp_best d1
      refine ⟨_, rfl, t, _, _, _, rfl, rfl, ht, rfl, rfl, _, rfl, iteNd (by intro z; injection z with z; exact absurd z (by decide)) ?_⟩
      refine ⟨_, rfl, t, _, _, _, rfl, rfl, ht, rfl, rfl, _, rfl, iteNd (by intro z; injection z with z; exact absurd z (by decide)) ?_⟩
      exact ⟨_, rfl, t, _, _, _, rfl, rfl, ht, rfl, kk _ ha⟩
    | empty p =>
      obtain ⟨t, va, rfl, ht, ha⟩ := dp_empty d1
      exact ⟨_, rfl, t, _, _, _, rfl, rfl, ht, rfl, rfl, _, rfl, iteYd rfl kk⟩
    | endless xs ys =>
      obtain ⟨t, va, vb, rfl, ht, ha, hb⟩ := dp_endless d1
      refine ⟨_, rfl, t, _, _, _, rfl, rfl, ht, rfl, rfl, _, rfl, iteNd (by intro z; injection z with z; exact absurd z (by decide)) ?_⟩
      exact ⟨_, rfl, t, _, _, _, rfl, rfl, ht, rfl, rfl, _, rfl, iteYd rfl kk⟩

/-! ### caught: what an action raises -/
theorem sc_caught : FnScope ["action", "found", "error"] ["action"] (defScope s__law_caught) := ⟨rfl, rfl, rfl, by decide +kernel, rfl, by decide +kernel, by decide +kernel⟩
def TTcaught (K : PySem.W.Frag) (CP : Addr) : (XK → Hp → VK → Prop) → Hp → VK → Prop := fun tl H Q =>
  tl (fun cls d H' => PySem.W.exmOne K cls (.ref CP) = some true ∧ d = none ∧ ∀ a, H' a = none → Q (.ref a) (upd H' a (ExV cls a))) H (fun _ H' => ∃ v : V, some (some V.non) = some (some v) ∧ Q v H')
theorem caught_gives {X : Cx} {q : Str} {g CP : Addr} {cdg : Value} (gP : X.mg "PlayError" = some (.ref CP)) :
    GivesTo X ["action", "found", "error"] "_law_caught" (defScope s__law_caught) g cdg (defBody s__law_caught) "action" q (TTcaught X.K CP) := by
  intro f c' s H Q tl act hc h
  refine ⟨_, (pss_cons (ps_set (i := 1) sc_caught.nd rfl (Or.inl rfl) pe_non)
    (pss_cons (ps_try_held (i := 2) (c := .ref CP)
      (tb := fun W D σ H => ∃ Ech : XK, (∀ cls d σ' H', Ech cls d H' → W cls d σ' H') ∧ σ[0]? = some (some (.ref f)) ∧ H c' = some (CodeO c' q) ∧ tl Ech H (fun _ H' => D.nx σ H'))
      rfl rfl rfl sc_caught.nd rfl rfl ⟨rfl, by decide, .inl gP⟩ (fun W pn xe tk _ => ?_) (fun a oe cls d pn _ _ => pss_one (ps_set (i := 1) sc_caught.nd rfl (Or.inl rfl) (pv 2))))
    (pss_one (ps_ret (pv 1))))), ?_⟩
  · constructor
    intro pins s' σ H' D I h'
    obtain ⟨Ech, hW, h1, h2, h3⟩ := h'
    exact (pss_one (ps_expr (act W pn xe Ech _ _ tk hW))).run pins s' σ H' D I ⟨h1, h2, h3⟩
  · refine ⟨_, fun cls d σ' H' hE hl => ⟨hE.1, hE.2.1, fun a na => ?_⟩, rfl, hc, h⟩
    match σ', hl with
    | [_, _, _], _ => exact ⟨_, rfl, _, rfl, hE.2.2 a na⟩
end WB
end

section
set_option Elab.async false
set_option linter.all false
set_option maxRecDepth 100000
set_option maxHeartbeats 2000000
set_option exponentiation.threshold 1000000
namespace WB
open PySem PySem.Spec PyProof.Rows L2 LamX LP
variable {P : Program} {w : World} {K : PySem.W.Frag} {mg : Str → Option Value} {base : Heap} {A : LPA} {B : LawA} {T : List (Addr × Str)} {Pc : Addr}

/-! ### shuffled -/
theorem sh_limL (ls : Lims) : SeqAt.shaped (.list (ls.map dlim)) = true := by
  have h := sh_lims ls
  refine shaped_of ?_ ?_
  · have := SeqAt.canLay_of_shaped h
    simpa [dlims, PyData.canLay0] using this
  · have := SeqAt.depth_of_shaped h
    simpa [dlims, PyData.depth] using this
theorem perm_take {α : Type} {xs : List α} {k : Nat} {y : α} (h : xs[k]? = some y) : (y :: xs.eraseIdx k).Perm xs := by
  induction xs generalizing k with
  | nil => cases h
  | cons x xs ih =>
    cases k with
    | zero => simp at h; subst h; exact .refl _
    | succ k =>
      have := ih (k := k) (by simpa using h)
      rw [List.eraseIdx_cons_succ]
      exact (List.Perm.swap x y _).trans (this.cons x)
section
variable (K T)
def sp_shuffled : Sp := fun vs H Q _ => ∃ d g c k l xs ls, vs = [.ref d, .ref l] ∧ StAt k d g c H ∧ k + ls.length ≤ 2 ^ 40 ∧ SqL K H l xs ∧ DpAll K H xs ((ls : Lims).map dlim) ∧ ls.length ≤ 1000 ∧
  ∀ (L : Addr) (ys : List V) (ls' : Lims) (H' : Hp), ls'.Perm ls → Ex T (SD d g) H H' → StAt (k + ls.length) d g c H' → H' L = some (.lst ys) → DpAll K H' ys (ls'.map dlim) → Nw H L → Q (.ref L) H'
end
theorem dpAll_erase : ∀ {ds : List PyData} {vs : List V} {H : Hp} (k : Nat), DpAll K H vs ds → DpAll K H (vs.eraseIdx k) (ds.eraseIdx k)
  | [], _, _, k, h => by cases h; simp; exact .nil
  | d :: ds, _, _, 0, h => by cases h with | cons h1 h2 => simpa using h2
  | d :: ds, _, _, k + 1, h => by cases h with | cons h1 h2 => rw [List.eraseIdx_cons_succ, List.eraseIdx_cons_succ]; exact .cons h1 (dpAll_erase k h2)
theorem dpAll_app1 {ds : List PyData} {vs : List V} {H : Hp} {d : PyData} {v : V} (h : DpAll K H vs ds) (q : Dp K H v d) : DpAll K H (vs ++ [v]) (ds ++ [d]) := dpAll_app h (.cons q .nil)
theorem map_erase {α β : Type} (f : α → β) : ∀ (xs : List α) (k : Nat), (xs.map f).eraseIdx k = (xs.eraseIdx k).map f
  | [], _ => rfl
  | _ :: _, 0 => rfl
  | x :: xs, k + 1 => by rw [List.map_cons, List.eraseIdx_cons_succ, List.eraseIdx_cons_succ, List.map_cons, map_erase f xs k]
theorem st_neN {k : Nat} {d g c D : Addr} {H : Hp} (h : StAt k d g c H) (n : Nw H D) : d ≠ D ∧ g ≠ D ∧ c ≠ D := by
  obtain ⟨_, _, _, _, S, _⟩ := h
  exact ⟨fun z => n _ (z ▸ S.hd) (fun ps e => by cases e), fun z => n _ (z ▸ S.hg) (fun ps e => by cases e), fun z => n _ (z ▸ S.hc) (fun ps e => by cases e)⟩
theorem ok__law_shuffled (X : LawTxt K mg A B) : FnOk P w K mg base CX0 3 B._law_shuffled.1 B._law_shuffled.2 ["state", "some"] (sp_shuffled K T) := by
  refine X._law_shuffled.fn.ok sc__law_shuffled (fun vs H Q E h => ?_) (fun cdv A' outer s H vs Q E hr h => ?_)
  · obtain ⟨_, _, _, _, _, _, _, rfl, _⟩ := h; rfl
  · obtain ⟨d, g, c, k0, l, xs, ls, rfl, S, hk, hl, hx, hz, k⟩ := h
    have ok__law_draw : ∀ {P : Program} {w : World} {base : Heap} (X : LawTxt K mg A B), FnOk P w K mg base CX0 2 B._law_draw.1 B._law_draw.2 ["state", "room"] (sp_draw T) := fun X => ok__law_draw X
    refine ⟨_, (pss_cons (ps_par (i := 2) (j := 3) rfl sc__law_shuffled.nd rfl rfl (by decide) rfl rfl (pa_cons (pe_callTy (klist (K := K)) (by rfl) X.n_list (by decide +kernel) (pa_cons (pv 1) pa_nil)) (pa_cons (pe_lst pa_nil) pa_nil)) rfl)
  (pss_cons (ps_while PassesOwn.never (pt_cmpR (kneD (K := K) (hu64 hr)) (pv 2) (pe_lst pa_nil) (nomark _)) (pss_one (ps_expr (pe_bm PySem.F.plainAttrs_list PySem.F.slot_list_append PySem.F.type_list_append mt_append (pv 3) (pa_cons (pe_bm PySem.F.plainAttrs_list PySem.F.slot_list_pop PySem.F.type_list_pop mt_popAt (pv 2) (pa_cons (pe_call (ok__law_draw X) (hr.mono (by decide)) rfl X._law_draw.g X._law_draw.fn.kp X._law_draw.b .nil pass0 (pa_cons (pv 0) (pa_cons (pe_callB (klen (K := K)) (by rfl) X.n_len (by decide +kernel) (pa_cons (pv 2) pa_nil)) pa_nil))) pa_nil)) pa_nil)))))
  (pss_one (ps_ret (pv 3))))), ?_⟩
    have nl : (1000 : Nat) ≤ sizeLine := by decide
    have xl : xs.length = ls.length := by have := dpAll_len hx; rwa [List.length_map] at this
    let Pv : Nat → L2.St → Hp → Prop := fun m σ H1 => ∃ (L F : Addr) (rest done : Lims) (ys zs : List V), σ = [some (.ref d), some (.ref l), some (.ref L), some (.ref F)] ∧ Ex T (SD d g) H H1 ∧ StAt (k0 + done.length) d g c H1 ∧ H1 L = some (.lst ys) ∧ H1 F = some (.lst zs) ∧ Nw H L ∧ Nw H F ∧ L ≠ F ∧
      DpAll K H1 ys (rest.map dlim) ∧ DpAll K H1 zs (done.map dlim) ∧ (done ++ rest).Perm ls ∧ m = rest.length
    refine seq_of (fun σ H1 => Pv ls.length σ H1) (fun N hN => ?_) ?_
    · refine ⟨_, rfl, l, xs, rfl, .inl hl, fun L hL => ⟨Nat.zero_le _, fun F hF => ?_⟩⟩
      have ex1 : Ex T No H (upd H L (.lst xs)) := Ex.new hL
      have ex2 : Ex T No (upd H L (.lst xs)) (upd (upd H L (.lst xs)) F (.lst [])) := Ex.new hF
      have exA := ex1.trans ex2
      have ne : L ≠ F := fun z => by rw [← z, upd_same] at hF; cases hF
      exact ⟨_, _, rfl, hN _ _ ⟨L, F, ls, [], xs, [], rfl, exA.of_no, S.no exA, by rw [upd_ne ne]; exact upd_same, upd_same, .of hL, ex1.free hF, ne, dpAll_tu exA.tu (flatAll_dlim _) hx, .nil, .refl _, rfl⟩⟩
    intro σ H1 hP
    refine seq_of (fun σ H1 => Pv 0 σ H1) (fun N hN => ?_) ?_
    · refine ⟨Pv, ⟨_, hP⟩, ?_⟩
      rintro m σ H1 ⟨L, F, rest, done, ys, zs, rfl, ex1, S1, hL, hF, nL, nF, ne, hys, hzs, pm, rfl⟩
      have yl : ys.length = rest.length := by have := dpAll_len hys; rwa [List.length_map] at this
      have pl := pm.length_eq
      rw [List.length_append] at pl
      refine ⟨_, rfl, Nat.zero_le _, fun u hu => ?_⟩
      have exu : Ex T No H1 (upd H1 u (.lst [])) := Ex.new hu
      have hL2 := exu.lst hL id
      have hF2 := exu.lst hF id
      have S2 := S1.no exu
      have hys2 := dpAll_tu exu.tu (flatAll_dlim _) hys
      have hzs2 := dpAll_tu exu.tu (flatAll_dlim _) hzs
      refine ⟨.list (rest.map dlim), .list [], .lst (.inl (.inl hL2)) hys2, .lst (.inl (.inl upd_same)) .nil, sh_limL _, by decide, _, rfl, ?_⟩
      cases rest with
      | nil =>
        refine iteN (by decide) (hN _ _ ⟨L, F, [], done, ys, zs, rfl, ex1.trans exu.of_no, S2, hL2, hF2, nL, nF, ne, hys2, hzs2, pm, rfl⟩)
      | cons r0 rest0 =>
        refine iteY (by rfl) ?_
        have lp : 0 < ys.length := by rw [yl]; exact Nat.succ_pos _
        refine ⟨fun σ H2 => ∃ m2, m2 < (r0 :: rest0).length ∧ Pv m2 σ H2, fun _ _ z => z, ?_⟩
        refine ⟨_, rfl, .inl ⟨rfl, _, .inl (.inl hF2)⟩, _, rfl, .inl ⟨rfl, _, .inl (.inl hL2)⟩, _, rfl, _, rfl, L, _, rfl, .inl (.inl (.inl hL2)), d, g, c, _, _, rfl, S2, by rw [List.length_cons] at pl; omega, by omega, ?_, fun n H3 n0 n1 ex3 S3 => ?_⟩
        · unfold Sm
          rw [Int.natAbs_natCast]
          refine Nat.lt_of_lt_of_le (show ys.length < 2 ^ 10 by omega) (Nat.pow_le_pow_right (by omega) (by omega))
        obtain ⟨kk, rfl⟩ : ∃ kk : Nat, n = (kk : Int) := ⟨n.toNat, by omega⟩
        have hkk : kk < ys.length := by omega
        have hkr : kk < (r0 :: rest0).length := by omega
        have dL := st_neN S nL
        have dF := st_neN S nF
        have hL3 : H3 L = some (.lst ys) := sd_ne ex3 hL2 ⟨dL.1, dL.2.1⟩
        have hF3 : H3 F = some (.lst zs) := sd_ne ex3 hF2 ⟨dF.1, dF.2.1⟩
        have tu3 := ex3.tuSD S2
        have hys3 := dpAll_tu tu3 (flatAll_dlim _) hys2
        have hzs3 := dpAll_tu tu3 (flatAll_dlim _) hzs2
        have gy := List.getElem?_eq_getElem hkk
        obtain ⟨lk, hlk, dlk⟩ := dpAll_mapget hys3 gy
        refine ⟨L, ys, _, kk, _, rfl, rfl, hL3, by omega, by omega, (ixN_seq (ixN_natt hkk)).1, gy, ?_⟩
        have hF4 : upd H3 L (.lst (ys.eraseIdx kk)) F = some (.lst zs) := by rw [upd_ne (Ne.symm ne)]; exact hF3
        have tuL : Tu H3 (upd H3 L (.lst (ys.eraseIdx kk))) := Tu.set hL3 (.lst _)
        have exL : Ex T (· = L) H3 (upd H3 L (.lst (ys.eraseIdx kk))) := Ex.refl.set rfl hL3 (.lst _)
        have zl : zs.length = done.length := by have := dpAll_len hzs; rwa [List.length_map] at this
        refine ⟨F, zs, _, rfl, rfl, hF4, by omega, ?_⟩
        have exF : Ex T (· = F) (upd H3 L (.lst (ys.eraseIdx kk))) (upd (upd H3 L (.lst (ys.eraseIdx kk))) F (.lst (zs ++ [ys[kk]]))) := Ex.refl.set rfl hF4 (.lst _)
        have tuF : Tu (upd H3 L (.lst (ys.eraseIdx kk))) (upd (upd H3 L (.lst (ys.eraseIdx kk))) F (.lst (zs ++ [ys[kk]]))) := Tu.set hF4 (.lst _)
        have tuA := tuL.trans tuF
        have el : ((r0 :: rest0).eraseIdx kk).length = rest0.length := by rw [List.length_eraseIdx, if_pos hkr]; rfl
        refine ⟨rest0.length, Nat.lt_succ_self _, L, F, (r0 :: rest0).eraseIdx kk, done ++ [lk], ys.eraseIdx kk, _, rfl, ?_, ?_, ?_, upd_same, nL, nF, ne, ?_, ?_, ?_, el.symm⟩
        · exact (((ex1.trans exu.of_no).trans ex3).setS nL hL3 (.lst _)).setS nF hF4 (.lst _)
        · refine ((S3.exD exL dL).exD exF dF).mono ?_
          rw [List.length_append]; exact Nat.le_refl _
        · rw [upd_ne ne]; exact upd_same
        · have := dpAll_erase kk (dpAll_tu tuA (flatAll_dlim _) hys3)
          rwa [show (List.map dlim (r0 :: rest0)).eraseIdx kk = ((r0 :: rest0).eraseIdx kk).map dlim from (map_erase ..)] at this
        · rw [List.map_append]
          exact dpAll_app1 (dpAll_tu tuA (flatAll_dlim _) hzs3) (dp_tu tuA (flat_dlim _) dlk)
        · rw [List.append_assoc]
          exact ((perm_take hlk).append_left done).trans pm
    · rintro σ H1 ⟨L, F, rest, done, ys, zs, rfl, ex1, S1, hL, hF, nL, nF, ne, hys, hzs, pm, hr0⟩
      have : rest = [] := List.length_eq_zero_iff.mp hr0.symm
      subst this
      rw [List.append_nil] at pm
      refine ⟨_, rfl, k F zs done H1 pm ex1 ?_ hF hzs nF⟩
      rw [← pm.length_eq]; exact S1
end WB
end

section
set_option Elab.async false
set_option linter.all false
set_option maxRecDepth 100000
set_option maxHeartbeats 2000000
set_option exponentiation.threshold 1000000
namespace WB
open PySem PySem.Spec PyProof.Rows L2 LamX LP
variable {P : Program} {w : World} {K : PySem.W.Frag} {mg : Str → Option Value} {base : Heap} {A : LPA} {B : LawA} {T : List (Addr × Str)} {Pc : Addr}

/-! ### a drawn graph -/
abbrev Arc := Nat × Nat × Rat
def darc (a : Arc) : PyData := .tuple [.int (a.1 : Nat), .int (a.2.1 : Nat), dq a.2.2]
theorem flat_darc (a : Arc) : flatD (darc a) = true := rfl
theorem flatAll_darc (as : List Arc) : flatAll (as.map darc) = true := flatAll_of fun x hx => by obtain ⟨q, _, rfl⟩ := List.mem_map.mp hx; exact flat_darc q
/-- a small ratio -/
def Ln (s d : Nat) (q : Rat) : Prop := q.num.natAbs ≤ s ∧ q.den ≤ d
structure ArcOk (n : Nat) (s d : Nat) (a : Arc) : Prop where
  lt1 : a.1 < n
  lt2 : a.2.1 < n
  ne : a.1 ≠ a.2.1
  l : Ln s d a.2.2
theorem Ln.mono {s d s' d' : Nat} {q : Rat} (h : Ln s d q) (h1 : s ≤ s') (h2 : d ≤ d') : Ln s' d' q := ⟨Nat.le_trans h.1 h1, Nat.le_trans h.2 h2⟩
theorem ArcOk.mono {n s d s' d' : Nat} {a : Arc} (h : ArcOk n s d a) (h1 : s ≤ s') (h2 : d ≤ d') : ArcOk n s' d' a := ⟨h.lt1, h.lt2, h.ne, h.l.mono h1 h2⟩
theorem ln_quo {n d : Int} {s e : Nat} (h : 0 < d) (hn : n.natAbs ≤ s) (hd : d ≤ e) : Ln s e (quo n d) := by
  refine ⟨?_, ?_⟩
  · rw [quo_num h]
    exact Nat.le_trans (Int.natAbs_ediv_le_natAbs _ _) hn
  · have e := quo_den (n := n) h
    have h2 := Int.ediv_le_self (a := d) ((Nat.gcd n.natAbs d.natAbs : Nat) : Int) (by omega)
    omega
theorem ln_bt {s d b c : Nat} {q : Rat} (h : Ln s d q) (h1 : s ≤ 2 ^ b) (h2 : d ≤ 2 ^ c) : Bt c b q := ⟨Nat.le_trans h.2 h2, Nat.le_trans h.1 h1⟩
theorem bt_plus {a b : Rat} {d s d' s' : Nat} (h : Bt d s a) (k : Bt d' s' b) (h1 : s < 400000) (h2 : s' < 400000) (h3 : d < 4500) (h4 : d' < 400000) : PlusOk a b :=
  ⟨bt_fits h (by omega) h1, bt_fits k h4 h2, low_plus (.inl (Nat.lt_of_le_of_lt h.1 (Nat.pow_lt_pow_right (by omega) h3)))⟩
theorem sm_of {i : Int} (h : i.natAbs < 2 ^ 64) : Sm i := Nat.lt_of_lt_of_le h (Nat.pow_le_pow_right (by omega) (by omega))
theorem low_small {n d : Int} (h : 0 < d) (k : d < 2 ^ 64) : LowOk n d := .of_den h (Nat.lt_of_lt_of_le (show d.natAbs < 2 ^ 64 by omega) (Nat.pow_le_pow_right (by omega) (by omega)))
theorem dp_arc {H : Hp} {a : Arc} {v : V} (h : Dp K H v (darc a)) : ∃ p u, v = .ref p ∧ SqT K H p [.int (a.1 : Nat), .int (a.2.1 : Nat), u] ∧ Dp K H u (dq a.2.2) := by
  obtain ⟨p, xs, rfl, hs, ha⟩ := dp_tup h
  cases ha with
  | cons h1 h2 => cases h2 with
    | cons h2 h3 => cases h3 with
      | cons h3 h4 => cases h4; cases h1; cases h2; exact ⟨p, _, rfl, hs, h3⟩
section
variable (K T)
def sp_graph : Sp := fun vs H Q _ => ∃ (d g c : Addr) (k n m : Nat), vs = [.ref d, .int n, .int m] ∧ StAt k d g c H ∧ k + 2000 ≤ 2 ^ 40 ∧ 2 ≤ n ∧ n ≤ 24 ∧ m ≤ 120 ∧
  ∀ (L : Addr) (xs : List V) (as : List Arc) (H' : Hp), as.length = m → (∀ a ∈ as, ArcOk n 1000 12 a) → Ex T (SD d g) H H' → StAt (k + 2000) d g c H' → H' L = some (.lst xs) → DpAll K H' xs (as.map darc) → Nw H L → Q (.ref L) H'
end
theorem ok__law_graph (X : LawTxt K mg A B) : FnOk P w K mg base CX0 3 B._law_graph.1 B._law_graph.2 ["draws", "knots", "arcs"] (sp_graph K T) := by
  refine X._law_graph.fn.ok sc__law_graph (fun vs H Q E h => ?_) (fun cdv A' outer s H vs Q E hr h => ?_)
  · obtain ⟨_, _, _, _, _, _, rfl, _⟩ := h; rfl
  · obtain ⟨d, g, c, k0, n, m, rfl, S, hk, n1, n2, m1, k⟩ := h
    have ok__law_draw : ∀ {P : Program} {w : World} {base : Heap} (X : LawTxt K mg A B), FnOk P w K mg base CX0 2 B._law_draw.1 B._law_draw.2 ["state", "room"] (sp_draw T) := fun X => ok__law_draw X
    have ok__law_q : ∀ {P : Program} {w : World} {base : Heap} (X : LawTxt K mg A B), FnOk P w K mg base CX0 1 B._law_q.1 B._law_q.2 ["n", "d"] (sp_lowest K T) := fun X => ok__law_q X
    have ok__law_plus : ∀ {P : Program} {w : World} {base : Heap} (X : LawTxt K mg A B), FnOk P w K mg base CX0 2 B._law_plus.1 B._law_plus.2 ["one", "other"] (sp_plus K T) := fun X => ok__law_plus X
    have ok__law_minus : ∀ {P : Program} {w : World} {base : Heap} (X : LawTxt K mg A B), FnOk P w K mg base CX0 2 B._law_minus.1 B._law_minus.2 ["one", "other"] (sp_minus K T) := fun X => ok__law_minus X
    refine ⟨_, (pss_cons (ps_par (i := 3) (j := 4) rfl sc__law_graph.nd rfl rfl (by decide) rfl rfl (pa_cons (pe_call (ok__law_draw X) (hr.mono (by decide)) rfl X._law_draw.g X._law_draw.fn.kp X._law_draw.b .nil pass0 (pa_cons (pv 0) (pa_cons pe_int pa_nil))) (pa_cons (pe_lst pa_nil) pa_nil)) rfl)
  (pss_cons (ps_for PassesOwn.never rfl (pi_range1 rfl X.n_range (pa_cons (pv 2) pa_nil)) (pg_name (i := 5) sc__law_graph.nd rfl (Or.inl rfl)) (pss_cons (ps_set (i := 6) sc__law_graph.nd rfl (Or.inl rfl) (pe_call (ok__law_draw X) (hr.mono (by decide)) rfl X._law_draw.g X._law_draw.fn.kp X._law_draw.b .nil pass0 (pa_cons (pv 0) (pa_cons (pv 1) pa_nil))))
  (pss_cons (ps_set (i := 7) sc__law_graph.nd rfl (Or.inl rfl) (pe_op op_mod (pe_callTy call_int1 (by rfl) X.n_int (by decide +kernel) (pa_cons (pe_op op_add (pe_op op_add (pv 6) pe_int) (pe_call (ok__law_draw X) (hr.mono (by decide)) rfl X._law_draw.g X._law_draw.fn.kp X._law_draw.b .nil pass0 (pa_cons (pv 0) (pa_cons (pe_op op_sub (pv 1) pe_int) pa_nil)))) pa_nil)) (pv 1)))
  (pss_cons (ps_set (i := 8) sc__law_graph.nd rfl (Or.inl rfl) (pe_call (ok__law_q X) (hr.mono (by decide)) rfl X._law_q.g X._law_q.fn.kp X._law_q.b .nil pass0 (pa_cons (pe_call (ok__law_draw X) (hr.mono (by decide)) rfl X._law_draw.g X._law_draw.fn.kp X._law_draw.b .nil pass0 (pa_cons (pv 0) (pa_cons pe_int pa_nil))) (pa_cons (pe_op op_add pe_int (pe_call (ok__law_draw X) (hr.mono (by decide)) rfl X._law_draw.g X._law_draw.fn.kp X._law_draw.b .nil pass0 (pa_cons (pv 0) (pa_cons pe_int pa_nil)))) pa_nil))))
  (pss_cons (ps_if (PW.pt (pw_and (pt_cmpR op_eq (pv 3) pe_int (nomark _)) (pw_and1 (pt_cmpR op_eq (pe_call (ok__law_draw X) (hr.mono (by decide)) rfl X._law_draw.g X._law_draw.fn.kp X._law_draw.b .nil pass0 (pa_cons (pv 0) (pa_cons pe_int pa_nil))) pe_int (nomark _))))) (pss_one (ps_set (i := 8) sc__law_graph.nd rfl (Or.inl rfl) (pe_tup (pa_cons (pe_op op_sub pe_int (pe_call (ok__law_draw X) (hr.mono (by decide)) rfl X._law_draw.g X._law_draw.fn.kp X._law_draw.b .nil pass0 (pa_cons (pv 0) (pa_cons pe_int pa_nil)))) (pa_cons pe_int pa_nil))))) pss_nil)
  (pss_cons (ps_if (pt_cmpR op_eq (pv 3) pe_int (nomark _)) (pss_one (ps_set (i := 8) sc__law_graph.nd rfl (Or.inl rfl) (pe_call (ok__law_q X) (hr.mono (by decide)) rfl X._law_q.g X._law_q.fn.kp X._law_q.b .nil pass0 (pa_cons (pe_call (ok__law_draw X) (hr.mono (by decide)) rfl X._law_draw.g X._law_draw.fn.kp X._law_draw.b .nil pass0 (pa_cons (pv 0) (pa_cons pe_int pa_nil))) (pa_cons pe_int pa_nil))))) pss_nil)
  (pss_one (ps_expr (pe_bm PySem.F.plainAttrs_list PySem.F.slot_list_append PySem.F.type_list_append mt_append (pv 4) (pa_cons (pe_tup (pa_cons (pv 6) (pa_cons (pv 7) (pa_cons (pv 8) pa_nil)))) pa_nil))))))))))
  (pss_cons (ps_if (pt_cmpR op_eq (pv 3) pe_int (nomark _)) (pss_cons (ps_set (i := 9) sc__law_graph.nd rfl (Or.inr rfl) (pe_lc (own := [("own", 10)]) (tt := tYes) rfl sc__law_graph.nd  (pi_range1 rfl X.n_range (pa_cons (pv 1) pa_nil)) (blkOk_by (N := ["draws", "knots", "arcs", "way", "found", "arc", "one", "other", "length", "heights", "own"]) (sc := defScope s__law_graph) (by decide +kernel)) (fun _ _ _ _ _ => (pg_name (i := 10) sc__law_graph.nd rfl (Or.inl rfl))) (fun _ _ _ _ _ => pts_nil) (fun _ _ _ _ _ => (pe_call (ok__law_q X) (hr.mono (by decide)) rfl X._law_q.g X._law_q.fn.kp X._law_q.b .nil pass0 (pa_cons (pe_op op_sub (pe_call (ok__law_draw X) (hr.mono (by decide)) rfl X._law_draw.g X._law_draw.fn.kp X._law_draw.b .nil pass0 (pa_cons (pv 0) (pa_cons pe_int pa_nil))) pe_int) (pa_cons (pe_op op_add pe_int (pe_call (ok__law_draw X) (hr.mono (by decide)) rfl X._law_draw.g X._law_draw.fn.kp X._law_draw.b .nil pass0 (pa_cons (pv 0) (pa_cons pe_int pa_nil)))) pa_nil))))))
  (pss_one (ps_setLc (i := 4) (own := [("one", 6), ("other", 7), ("length", 8)]) (tt := tYes) rfl sc__law_graph.nd rfl rfl (sw_true rfl rfl rfl (by decide +kernel)) (kpi_list (K := K) (pv 4)) (blkOk_by (N := ["draws", "knots", "arcs", "way", "found", "arc", "one", "other", "length", "heights", "own"]) (sc := defScope s__law_graph) (by decide +kernel)) (fun _ _ _ _ _ => (kpg_tup (K := K) (n := 3) rfl (pgs_cons (pg_name (i := 6) sc__law_graph.nd rfl (Or.inl rfl)) (pgs_cons (pg_name (i := 7) sc__law_graph.nd rfl (Or.inl rfl)) (pgs_cons (pg_name (i := 8) sc__law_graph.nd rfl (Or.inl rfl)) pgs_nil))))) (fun _ _ _ _ _ => pts_nil) (fun _ _ _ _ _ => (pe_tup (pa_cons (pv 6) (pa_cons (pv 7) (pa_cons (pe_call (ok__law_plus X) (hr.mono (by decide)) rfl X._law_plus.g X._law_plus.fn.kp X._law_plus.b .nil pass0 (pa_cons (pv 8) (pa_cons (pe_call (ok__law_minus X) (hr.mono (by decide)) rfl X._law_minus.g X._law_minus.fn.kp X._law_minus.b .nil pass0 (pa_cons (pe_ix (kix_list (K := K)) (pv 9) (pv 7) (fun _ _ => rfl)) (pa_cons (pe_ix (kix_list (K := K)) (pv 9) (pv 6) (fun _ _ => rfl)) pa_nil))) pa_nil))) pa_nil)))))))) pss_nil)
  (pss_one (ps_ret (pv 4)))))), ?_⟩
    have nl : (1000 : Nat) ≤ sizeLine := by decide
    refine seq_of (fun σ H1 => ∃ (way : Int) (L : Addr), σ = [some (.ref d), some (.int n), some (.int m), some (.int way), some (.ref L), none, none, none, none, none, none] ∧ Ex T (SD d g) H H1 ∧ StAt (k0 + 1) d g c H1 ∧ H1 L = some (.lst []) ∧ Nw H L) (fun N hN => ?_) ?_
    · refine ⟨_, rfl, d, g, c, k0, 4, rfl, S, by omega, by omega, sm_of (by decide), fun way H1 _ _ ex1 S1 => ⟨Nat.zero_le _, fun L hL => ?_⟩⟩
      exact ⟨_, _, rfl, hN _ _ ⟨way, L, rfl, ex1.trans (Ex.new hL), S1.no (Ex.new (T := T) hL), upd_same, ex1.free hL⟩⟩
    rintro σ H1 ⟨way, L, rfl, ex1, S1, hL, nL⟩
    have dL := st_neN S nL
    -- the arcs
    refine seq_of (fun σ H2 => ∃ e5 e6 e7 e8 xs as, σ = [some (.ref d), some (.int n), some (.int m), some (.int way), some (.ref L), e5, e6, e7, e8, none, none] ∧ Ex T (SD d g) H H2 ∧ StAt (k0 + 1000) d g c H2 ∧ H2 L = some (.lst xs) ∧ DpAll K H2 xs ((as : List Arc).map darc) ∧ as.length = m ∧ ∀ a ∈ as, ArcOk n 30 3 a) (fun N hN => ?_) ?_
    · refine ⟨_, rfl, _, rfl, by omega, by omega, for_src (src_range (lo := 0) (n := m)) (fun i σ H2 => ∃ e5 e6 e7 e8 xs as, σ = [some (.ref d), some (.int n), some (.int m), some (.int way), some (.ref L), e5, e6, e7, e8, none, none] ∧ Ex T (SD d g) H H2 ∧ StAt (k0 + 1 + 8 * i) d g c H2 ∧ H2 L = some (.lst xs) ∧ DpAll K H2 xs ((as : List Arc).map darc) ∧ as.length = i ∧ ∀ a ∈ as, ArcOk n 30 3 a)
        ⟨_, _, _, _, [], [], rfl, ex1, S1, hL, .nil, rfl, fun a ha => by cases ha⟩ (fun _ _ _ _ _ => trivial) ?_ (fun σ H2 ⟨e5, e6, e7, e8, xs, as, h1, h2, h3, h4⟩ => hN _ _ ⟨e5, e6, e7, e8, xs, as, h1, h2, h3.mono (by omega), h4⟩)⟩
      rintro i v σ H0 H2 hi ⟨e5, e6, e7, e8, xs, as, rfl, ex2, S2, hL2, hxs, asl, aso⟩ ⟨rfl, rfl⟩
      -- one
      refine seq_of (fun σ H3 => ∃ (o : Nat), o < n ∧ σ = [some (.ref d), some (.int n), some (.int m), some (.int way), some (.ref L), some (.int (0 + (i : Nat))), some (.int o), e7, e8, none, none] ∧ Ex T (SD d g) H2 H3 ∧ StAt (k0 + 2 + 8 * i) d g c H3) (fun N hN => ?_) ?_
      · refine ⟨_, rfl, _, rfl, d, g, c, _, _, rfl, S2, by omega, by omega, sm_of (by omega), fun o H3 o0 o1 ex3 S3 => hN _ _ ⟨o.toNat, by omega, ?_, ex3, S3.mono (by omega)⟩⟩
        rw [show ((o.toNat : Nat) : Int) = o by omega]; rfl
      rintro σ H3 ⟨o, ho, rfl, ex3, S3⟩
      -- other
      refine seq_of (fun σ H4 => ∃ (u : Nat), u < n ∧ o ≠ u ∧ σ = [some (.ref d), some (.int n), some (.int m), some (.int way), some (.ref L), some (.int (0 + (i : Nat))), some (.int o), some (.int u), e8, none, none] ∧ Ex T (SD d g) H2 H4 ∧ StAt (k0 + 3 + 8 * i) d g c H4) (fun N hN => ?_) ?_
      · refine ⟨_, rfl, _, _, rfl, rfl, _, rfl, _, rfl, _, _, rfl, rfl, d, g, c, _, _, rfl, S3, by omega, by omega, sm_of (by omega), fun t H4 t0 t1 ex4 S4 => ?_⟩
        refine ⟨_, _, rfl, rfl, .inl ⟨_, rfl, _, rfl, _, _, rfl, rfl, by omega, ?_⟩⟩
        have m0 : 0 ≤ ((o : Int) + 1 + t) % (n : Int) := Int.emod_nonneg _ (by omega)
        have m1' : ((o : Int) + 1 + t) % (n : Int) < n := Int.emod_lt_of_pos _ (by omega)
        refine hN _ _ ⟨(((o : Int) + 1 + t) % (n : Int)).toNat, by omega, ?_, ?_, ex3.trans ex4, S4.mono (by omega)⟩
        · have e : ((o : Int) + 1 + t) % (n : Int) = if (o : Int) + 1 + t < n then (o : Int) + 1 + t else (o : Int) + 1 + t - n := by
            split
            · exact Int.emod_eq_of_lt (by omega) (by omega)
            · rw [← Int.sub_emod_right]; exact Int.emod_eq_of_lt (by omega) (by omega)
          rw [e]; split <;> omega
        · rw [show (((((o : Int) + 1 + t) % (n : Int)).toNat : Nat) : Int) = ((o : Int) + 1 + t) % (n : Int) by omega]; rfl
      rintro σ H4 ⟨u, hu, ou, rfl, ex4, S4⟩
      -- length
      refine seq_of (fun σ H5 => ∃ q v8, Ln 30 3 q ∧ σ = [some (.ref d), some (.int n), some (.int m), some (.int way), some (.ref L), some (.int (0 + (i : Nat))), some (.int o), some (.int u), some v8, none, none] ∧ Ex T (SD d g) H2 H5 ∧ StAt (k0 + 5 + 8 * i) d g c H5 ∧ Dp K H5 v8 (dq q)) (fun N hN => ?_) ?_
      · refine ⟨_, rfl, d, g, c, _, 30, rfl, S4, by omega, by omega, sm_of (by decide), fun a H5 a0 a1 ex5 S5 => ?_⟩
        refine ⟨_, rfl, d, g, c, _, 3, rfl, S5, by omega, by omega, sm_of (by decide), fun b H6 b0 b1 ex6 S6 => ⟨_, _, rfl, rfl, a, 1 + b, rfl, low_small (by omega) (by omega), fun v H7 ex7 d7 => ?_⟩⟩
        exact hN _ _ ⟨_, v, ln_quo (s := 30) (e := 3) (by omega) (by omega) (by omega), rfl, ex4.trans (ex5.trans (ex6.trans ex7.of_no)), (S6.no ex7).mono (by omega), d7⟩
      rintro σ H5 ⟨q5, v5, l5, rfl, ex5, S5, d5⟩
      refine seq_of (fun σ H6 => ∃ q v8, Ln 30 3 q ∧ σ = [some (.ref d), some (.int n), some (.int m), some (.int way), some (.ref L), some (.int (0 + (i : Nat))), some (.int o), some (.int u), some v8, none, none] ∧ Ex T (SD d g) H2 H6 ∧ StAt (k0 + 7 + 8 * i) d g c H6 ∧ Dp K H6 v8 (dq q)) (fun N hN => ?_) ?_
      · refine ⟨_, rfl, rfl, _, rfl, ite2 (fun z => ?_) (fun z => ?_)⟩
        · refine ⟨_, rfl, d, g, c, _, 6, rfl, S5, by omega, by omega, sm_of (by decide), fun a H6 a0 a1 ex6 S6 => ⟨rfl, _, rfl, ite2 (fun z2 => ?_) (fun z2 => ?_)⟩⟩
          · refine ⟨_, rfl, d, g, c, _, 6, rfl, S6, by omega, by omega, sm_of (by decide), fun b H7 b0 b1 ex7 S7 => ⟨_, _, rfl, rfl, two_line, fun p hp => ?_⟩⟩
            have exp : Ex T No H7 (upd H7 p (.tup [.int (0 - b), .int 1])) := Ex.new hp
            exact hN _ _ ⟨((0 - b : Int) : Rat), .ref p, ⟨by show (0 - b).natAbs ≤ 30; omega, by show 1 ≤ 3; omega⟩, rfl, ex5.trans (ex6.trans (ex7.trans exp.of_no)), (S7.no exp).mono (by omega), dp_q_of (.inl (.inl upd_same))⟩
          · exact hN _ _ ⟨q5, v5, l5, rfl, ex5.trans ex6, S6.mono (by omega), dp_tu (ex6.tuSD S5) rfl d5⟩
        · exact hN _ _ ⟨q5, v5, l5, rfl, ex5, S5.mono (by omega), d5⟩
      rintro σ H6 ⟨q6, v6, l6, rfl, ex6, S6, d6⟩
      refine seq_of (fun σ H7 => ∃ q v8, Ln 30 3 q ∧ σ = [some (.ref d), some (.int n), some (.int m), some (.int way), some (.ref L), some (.int (0 + (i : Nat))), some (.int o), some (.int u), some v8, none, none] ∧ Ex T (SD d g) H2 H7 ∧ StAt (k0 + 8 + 8 * i) d g c H7 ∧ Dp K H7 v8 (dq q)) (fun N hN => ?_) ?_
      · refine ⟨_, rfl, rfl, _, rfl, ite2 (fun z => ?_) (fun z => ?_)⟩
        · refine ⟨_, rfl, d, g, c, _, 3, rfl, S6, by omega, by omega, sm_of (by decide), fun a H7 a0 a1 ex7 S7 => ⟨a, 1, rfl, low_small (by omega) (by omega), fun v H8 ex8 d8 => ?_⟩⟩
          exact hN _ _ ⟨_, v, ln_quo (s := 30) (e := 3) (by omega) (by omega) (by omega), rfl, ex6.trans (ex7.trans ex8.of_no), (S7.no ex8).mono (by omega), d8⟩
        · exact hN _ _ ⟨q6, v6, l6, rfl, ex6, S6.mono (by omega), d6⟩
      rintro σ H7 ⟨q7, v7, l7, rfl, ex7, S7, d7⟩
      -- append
      have hL7 := sd_ne ex7 hL2 ⟨dL.1, dL.2.1⟩
      refine ⟨_, rfl, .inl ⟨rfl, _, .inl (.inl hL7)⟩, _, rfl, _, rfl, _, rfl, by show 3 ≤ sizeLine; decide, fun p hp => ?_⟩
      have exp : Ex T No H7 (upd H7 p (.tup [.int o, .int u, v7])) := Ex.new hp
      have hL8 := exp.lst hL7 id
      have xl : xs.length = as.length := by have := dpAll_len hxs; rwa [List.length_map] at this
      refine ⟨L, _, _, rfl, rfl, hL8, by omega, ?_⟩
      have tuL : Tu (upd H7 p (.tup [.int o, .int u, v7])) (upd (upd H7 p (.tup [.int o, .int u, v7])) L (.lst (xs ++ [.ref p]))) := Tu.set hL8 (.lst _)
      have exL : Ex T (· = L) (upd H7 p (.tup [.int o, .int u, v7])) (upd (upd H7 p (.tup [.int o, .int u, v7])) L (.lst (xs ++ [.ref p]))) := Ex.refl.set rfl hL8 (.lst _)
      refine ⟨_, _, _, _, _, as ++ [(o, u, q7)], rfl, ?_, ?_, upd_same, ?_, by rw [List.length_append, asl]; rfl, fun a ha => ?_⟩
      · exact (ex2.trans (ex7.trans exp.of_no)).setS nL hL8 (.lst _)
      · exact ((S7.no exp).exD exL dL).mono (by omega)
      · rw [List.map_append]
        refine dpAll_app (dpAll_tu ((ex7.tuSD S2).trans (exp.tu.trans tuL)) (flatAll_darc _) hxs) (.cons (.tup (tuL.sqT (.inl (.inl upd_same))) (.cons (.int _) (.cons (.int _) (.cons (dp_tu (exp.tu.trans tuL) rfl d7) .nil)))) .nil)
      · rcases List.mem_append.mp ha with z | z
        · exact aso a z
        · rw [List.mem_singleton.mp z]; exact ⟨ho, hu, ou, l7⟩
    rintro σ H2 ⟨e5, e6, e7, e8, xs, as, rfl, ex2, S2, hL2, hxs, asl, aso⟩
    have xl : xs.length = as.length := by have := dpAll_len hxs; rwa [List.length_map] at this
    refine seq_of (fun σ H3 => ∃ e5 e6 e7 e8 e9 e10 L2 xs as, σ = [some (.ref d), some (.int n), some (.int m), some (.int way), some (.ref L2), e5, e6, e7, e8, e9, e10] ∧ Ex T (SD d g) H H3 ∧ StAt (k0 + 2000) d g c H3 ∧ H3 L2 = some (.lst xs) ∧ DpAll K H3 xs ((as : List Arc).map darc) ∧ as.length = m ∧ (∀ a ∈ as, ArcOk n 1000 12 a) ∧ Nw H L2) (fun N hN => ?_) ?_
    · refine ⟨_, rfl, rfl, _, rfl, ite2 (fun z => ?_) (fun z => ?_)⟩
      · -- heights
        refine seq_of (fun σ H3 => ∃ e10 D ys hs, σ = [some (.ref d), some (.int n), some (.int m), some (.int way), some (.ref L), e5, e6, e7, e8, some (.ref D), e10] ∧ Ex T (SD d g) H2 H3 ∧ StAt (k0 + 1500) d g c H3 ∧ H3 D = some (.lst ys) ∧ DpAll K H3 ys ((hs : List Rat).map dq) ∧ hs.length = n ∧ (∀ q ∈ hs, Ln 20 2 q) ∧ Nw H D) (fun N hN => ?_) ?_
        · refine ⟨_, rfl, _, rfl, by omega, by omega, lc_inv (src_range (lo := 0) (n := n)) (by omega) (I := fun D i ys H1 => i ≤ n ∧ (d ≠ D ∧ g ≠ D ∧ c ≠ D) ∧ Ex T (SD d g) H2 H1 ∧ StAt (k0 + 1000 + 2 * i) d g c H1 ∧ ∃ qs : List Rat, qs.length = i ∧ (∀ q ∈ qs, Ln 20 2 q) ∧ DpAll K H1 ys (qs.map dq))
            (fun D hD => ⟨Nat.zero_le _, S2.ne hD, Ex.new hD, S2.no (Ex.new (T := T) hD), [], rfl, fun q hq => absurd hq (by simp), .nil⟩) (fun _ _ _ _ _ => trivial) (fun D i ys x H1 H3 R hD hi hys hI hY h1 h2 => ?_) (fun D ys H1 hD hys hI => ?_)⟩
          · obtain ⟨hin, nD, ex3, S3, qs, ql, qn, qd⟩ := hI
            obtain ⟨rfl, rfl⟩ := hY
            refine ⟨rfl, _, rfl, d, g, c, _, 41, rfl, S3, by omega, by omega, sm_of (by decide), fun a H4 a0 a1 ex4 S4 => ⟨_, _, rfl, rfl, ?_⟩⟩
            refine ⟨_, rfl, d, g, c, _, 2, rfl, S4, by omega, by omega, sm_of (by decide), fun b H5 b0 b1 ex5 S5 => ⟨_, _, rfl, rfl, a - 20, 1 + b, rfl, low_small (by omega) (by omega), fun v H6 ex6 d6 => ?_⟩⟩
            have exA : Ex T (SD d g) H3 H6 := ex4.trans (ex5.trans ex6.of_no)
            have h6 := sd_ne exA hys ⟨nD.1, nD.2.1⟩
            have tuW : Tu H6 (upd H6 D (.lst (ys ++ [v]))) := Tu.set h6 (.lst _)
            have exW : Ex T (· = D) H6 (upd H6 D (.lst (ys ++ [v]))) := Ex.refl.set rfl h6 (.lst _)
            refine h1 v H6 h6 ⟨by omega, nD, ?_, ((S5.no ex6).exD exW nD).mono (by omega), qs ++ [quo (a - 20) (1 + b)], by rw [List.length_append, ql]; rfl, fun r hr => ?_, ?_⟩
            · exact (ex3.trans exA).setS (Nw.of hD) h6 (.lst _)
            · rcases List.mem_append.mp hr with z | z
              · exact qn r z
              · rw [List.mem_singleton.mp z]; exact ln_quo (s := 20) (e := 2) (by omega) (by omega) (by omega)
            · rw [List.map_append]
              exact dpAll_app (dpAll_tu ((exA.tuSD S3).trans tuW) (flatAll_q _) qd) (.cons (dp_tu tuW rfl d6) .nil)
          · obtain ⟨_, nD, ex3, S3, qs, ql, qn, qd⟩ := hI
            exact hN _ _ ⟨_, D, ys, qs, rfl, ex3, S3.mono (by omega), hys, qd, ql, qn, ex2.freeN (Nw.of hD)⟩
        rintro σ H3 ⟨e10, D, ys, hs, rfl, ex3, S3, hD, hys, hsl, hsn, nD⟩
        have yl : ys.length = hs.length := by have := dpAll_len hys; rwa [List.length_map] at this
        have hL3 := sd_ne ex3 hL2 ⟨dL.1, dL.2.1⟩
        have hxs3 := dpAll_tu (ex3.tuSD S2) (flatAll_darc _) hxs
        -- the arcs moved
        have hat : ∀ i, Ln 20 2 (at0 hs i) := fun i => by
          unfold at0
          rw [List.getD_eq_getElem?_getD]
          cases e : hs[i]? with
          | none => exact ⟨by decide, by decide⟩
          | some q => exact hsn q (List.mem_of_getElem? e)
        have lnm : ∀ a ∈ as, PlusOk (at0 hs a.2.1) (- at0 hs a.1) ∧ PlusOk a.2.2 (at0 hs a.2.1 - at0 hs a.1) ∧ Ln 1000 12 (a.2.2 + (at0 hs a.2.1 - at0 hs a.1)) := fun a ha => by
          have l1 := hat a.2.1
          have l2 := hat a.1
          have l3 := (aso a ha).l
          have l2' : Ln 20 2 (- at0 hs a.1) := ⟨by rw [rat_nn, Int.natAbs_neg]; exact l2.1, l2.2⟩
          have p1 : PlusOk (at0 hs a.2.1) (- at0 hs a.1) := bt_plus (ln_bt (b := 10) (c := 10) l1 (by omega) (by omega)) (ln_bt (b := 10) (c := 10) l2' (by omega) (by omega)) (by omega) (by omega) (by omega) (by omega)
          have e4 : at0 hs a.2.1 - at0 hs a.1 = at0 hs a.2.1 + - at0 hs a.1 := by grind
          have l4 : Ln 80 4 (at0 hs a.2.1 - at0 hs a.1) := by
            rw [e4]
            refine ⟨Nat.le_trans (add_num_le _ _) ?_, Nat.le_trans (add_den_le _ _) (Nat.mul_le_mul l1.2 l2'.2)⟩
            exact Nat.add_le_add (Nat.mul_le_mul l1.1 l2'.2) (Nat.mul_le_mul l2'.1 l1.2)
          refine ⟨p1, bt_plus (ln_bt (b := 10) (c := 10) l3 (by omega) (by omega)) (ln_bt (b := 10) (c := 10) l4 (by omega) (by omega)) (by omega) (by omega) (by omega) (by omega), ?_, Nat.le_trans (add_den_le _ _) (Nat.mul_le_mul l3.2 l4.2)⟩
          refine Nat.le_trans (add_num_le _ _) ?_
          have := Nat.add_le_add (Nat.mul_le_mul l3.1 l4.2) (Nat.mul_le_mul l4.1 l3.2)
          omega
        refine ⟨_, rfl, L, rfl, ⟨_, .inl (.inl hL3)⟩, lc_src (T := T) (src_list (K := K) (a := L) (xs := xs)) (by omega) (P := fun D j y H5 => ∃ a, as[j]? = some a ∧ Dp K H5 y (darc (a.1, a.2.1, a.2.2 + (at0 hs a.2.1 - at0 hs a.1)))) (keep := fun _ => true) (fun D H5 hD ex => .inl (.inl (ex.lst hL3 (ne_of_none hL3 hD)))) (fun D j y H5 H6 hD hacc ex ⟨a, h1, h2⟩ => ⟨a, h1, stab_D _ rfl hacc ex h2⟩)
            (fun E j x2 H5 H6 R hE hacc hj ex hY h1 h2 => ?_) (fun E zs H5 hE ex5 hzs hl2 hP => ?_)⟩
        · obtain ⟨e1, rfl⟩ := hY
          obtain ⟨a, ha, da⟩ := dpAll_mapget hxs3 e1
          have ma := List.mem_of_getElem? ha
          have ao := aso a ma
          obtain ⟨p1, p2, p3⟩ := lnm a ma
          have tuE := ex.tuD hE
          obtain ⟨pa, u, rfl, hpa, hu⟩ := dp_arc (dp_tu tuE (flat_darc a) da)
          have hD6 : H6 D = some (.lst ys) := ex.lst hD (ne_of_none hD hE)
          have hys6 := dpAll_tu tuE (flatAll_q _) hys
          have g1 := List.getElem?_eq_getElem (show a.2.1 < ys.length by rw [yl, hsl]; exact ao.lt2)
          have g2 := List.getElem?_eq_getElem (show a.1 < ys.length by rw [yl, hsl]; exact ao.lt1)
          obtain ⟨r1, hr1, dr1⟩ := dpAll_mapget hys6 g1
          obtain ⟨r2, hr2, dr2⟩ := dpAll_mapget hys6 g2
          have er1 : r1 = at0 hs a.2.1 := (at0_get hr1).symm
          have er2 : r2 = at0 hs a.1 := (at0_get hr2).symm
          subst er1 er2
          refine ⟨pa, _, rfl, hpa, rfl, _, _, rfl, _, _, rfl, _, _, rfl, rfl, ?_⟩
          refine ⟨rfl, _, rfl, _, rfl, _, rfl, _, rfl, _, rfl, D, _, _, _, rfl, rfl, .inl (.inl hD6), atI_nat g1, ?_⟩
          refine ⟨_, rfl, _, rfl, D, _, _, _, rfl, rfl, .inl (.inl hD6), atI_nat g2, ?_⟩
          refine ⟨_, _, _, _, rfl, dr1, dr2, p1, fun v7 H7 ex7 d7 => ?_⟩
          refine ⟨_, _, _, _, rfl, dp_tu ex7.tu rfl hu, d7, p2, fun v8 H8 ex8 d8 => ⟨by show 3 ≤ sizeLine; decide, fun p hp => ?_⟩⟩
          exact h1 rfl _ _ (ex7.trans (ex8.trans (Ex.new hp))) ⟨a, ha, .tup (.inl (.inl upd_same)) (.cons (.int _) (.cons (.int _) (.cons (dp_tu (Tu.new hp) rfl d8) .nil)))⟩
        · have hz : DpAll K H5 zs ((as.map fun a : Arc => (a.1, a.2.1, a.2.2 + (at0 hs a.2.1 - at0 hs a.1))).map darc) := datas_of hl2 (by rw [List.length_map, List.length_map, xl]) fun j y k e1 e2 => by
            obtain ⟨a, h1, h2⟩ := hP j y k e1 e2
            exact ⟨_, by rw [List.getElem?_map, List.getElem?_map, h1]; rfl, h2⟩
          refine hN _ _ ⟨_, _, _, _, _, _, E, zs, _, rfl, ex2.trans (ex3.trans ex5.of_no), (S3.no ex5).mono (by omega), hzs, hz, by rw [List.length_map, asl], fun b hb => ?_, (ex2.trans ex3).freeN (Nw.of hE)⟩
          obtain ⟨a, ha, rfl⟩ := List.mem_map.mp hb
          have ao := aso a ha
          exact ⟨ao.lt1, ao.lt2, ao.ne, (lnm a ha).2.2⟩
      · exact hN _ _ ⟨_, _, _, _, _, _, L, xs, as, rfl, ex2, S2.mono (by omega), hL2, hxs, asl, fun a ha => (aso a ha).mono (by omega) (by omega), nL⟩
    rintro σ H3 ⟨e5, e6, e7, e8, e9, e10, L2, xs, as, rfl, ex3, S3, hL3, hxs3, asl3, aso3, nL3⟩
    exact ⟨_, rfl, k L2 xs as H3 asl3 aso3 ex3 S3 hL3 hxs3 nL3⟩
end WB
end

section
set_option Elab.async false
set_option linter.all false
set_option maxRecDepth 100000
set_option maxHeartbeats 2000000
set_option exponentiation.threshold 1000000
namespace WB
open PySem PySem.Spec PyProof.Rows L2 LamX LP
variable {P : Program} {w : World} {K : PySem.W.Frag} {mg : Str → Option Value} {base : Heap} {A : LPA} {B : LawA} {T : List (Addr × Str)} {Pc : Addr}

/-! ### shortest ways, walked -/
def dopt : Option Rat → PyData
  | none => .none
  | some q => dq q
theorem flat_dopt : ∀ o : Option Rat, flatD (dopt o) = true
  | none => rfl
  | some _ => rfl
theorem flatAll_dopt (ds : Dst) : flatAll (ds.map dopt) = true := flatAll_of fun x hx => by obtain ⟨q, _, rfl⟩ := List.mem_map.mp hx; exact flat_dopt q
theorem dpAll_at {H : Hp} {ys : List V} {ds : Dst} {i : Nat} (h : DpAll K H ys (ds.map dopt)) (hi : i < ds.length) : ∃ v, ys[i]? = some v ∧ Dp K H v (dopt (dat ds i)) := by
  have yl := dpAll_len h
  rw [List.length_map] at yl
  have e := List.getElem?_eq_getElem (show i < ys.length by omega)
  obtain ⟨d, hd, dd⟩ := dpAll_get h e
  refine ⟨_, e, ?_⟩
  rw [List.getElem?_map, List.getElem?_eq_getElem hi] at hd
  cases hd
  unfold dat
  rw [List.getD_eq_getElem?_getD, List.getElem?_eq_getElem hi]
  exact dd
theorem sqL_exD {H H' : Hp} {D p : Addr} {xs : List V} (e : Ex T (· = D) H H') (hD : H D = none) (h : SqL K H p xs) : SqL K H' p xs := by
  have ne : ∀ {o}, H p = some o → ¬ (p = D) := fun h z => by rw [z, hD] at h; cases h
  rcases h with (h | ⟨o, h⟩) | h
  · exact .inl (.inl (e.e p _ (ne h) h (fun ps z => by cases z)))
  · exact .inl (.inr ⟨o, e.e p _ (ne h) h (fun ps z => by cases z)⟩)
  · exact .inr h
theorem inV_ints {i : Nat} {st : List Nat} : inV (.int (i : Nat)) (st.map fun k => V.int (k : Nat)) = decide (i ∈ st) := by
  unfold inV
  rw [List.any_map]
  rw [Bool.eq_iff_iff, List.any_eq_true]
  constructor
  · rintro ⟨k, hk, e⟩
    refine decide_eq_true ?_
    have : (k : Int) = (i : Int) := by simpa [eqV] using e
    have : k = i := by exact_mod_cast this
    rw [← this]; exact hk
  · intro h
    refine ⟨i, of_decide_eq_true h, ?_⟩
    simp [eqV]
section
variable (K T)
def sp_ways : Sp := fun vs H Q _ => ∃ (n : Nat) (La Lb : Addr) (xs : List V) (as : List Arc) (st : List Nat), vs = [.int n, .ref La, .ref Lb] ∧ H La = some (.lst xs) ∧ DpAll K H xs (as.map darc) ∧ SqL K H Lb (st.map fun k => V.int (k : Nat)) ∧ n ≤ 24 ∧ as.length ≤ 120 ∧ (∀ a ∈ as, ArcOk n 1000 12 a) ∧
  ∀ (t F : Addr) (ys : List V) (H' : Hp), Ex T No H H' → SqT K H' t [.ref F, .bl (waysK as (n + 1) (initW n st)).2] → H' F = some (.lst ys) → DpAll K H' ys ((waysK as (n + 1) (initW n st)).1.map dopt) → Q (.ref t) H'
end
theorem ln_ma {q : Rat} (h : Ln 1000 12 q) : MA 27720 1000 q := by
  refine ⟨mu_of ?_, ab_num h.1⟩
  have h1 := h.2
  have h0 := q.den_pos
  generalize q.den = d at *
  have : d = 1 ∨ d = 2 ∨ d = 3 ∨ d = 4 ∨ d = 5 ∨ d = 6 ∨ d = 7 ∨ d = 8 ∨ d = 9 ∨ d = 10 ∨ d = 11 ∨ d = 12 := by omega
  rcases this with rfl | rfl | rfl | rfl | rfl | rfl | rfl | rfl | rfl | rfl | rfl | rfl <;> decide
theorem ok__law_ways (X : LawTxt K mg A B) : FnOk P w K mg base CX0 3 B._law_ways.1 B._law_ways.2 ["knots", "arcs", "begun_at"] (sp_ways K T) := by
  refine X._law_ways.fn.ok sc__law_ways (fun vs H Q E h => ?_) (fun cdv A' outer s H vs Q E hr h => ?_)
  · obtain ⟨_, _, _, _, _, _, rfl, _⟩ := h; rfl
  · obtain ⟨n, La, Lb, xs, as, st, rfl, hLa, hxs, hLb, n2, asl, aso, k⟩ := h
    have ok__law_plus : ∀ {P : Program} {w : World} {base : Heap} (X : LawTxt K mg A B), FnOk P w K mg base CX0 2 B._law_plus.1 B._law_plus.2 ["one", "other"] (sp_plus K T) := fun X => ok__law_plus X
    have ok__law_less : ∀ {P : Program} {w : World} {base : Heap} (X : LawTxt K mg A B), FnOk P w K mg base CX0 1 B._law_less.1 B._law_less.2 ["one", "other"] (sp_is_less K T) := fun X => ok__law_less X
    refine ⟨_, (pss_cons (ps_setLc (i := 3) (own := [("own", 4)]) (tt := tYes) rfl sc__law_ways.nd rfl rfl (sw_true rfl rfl rfl (by decide +kernel)) (pi_range1 rfl X.n_range (pa_cons (pv 0) pa_nil)) (blkOk_by (N := ["knots", "arcs", "begun_at", "found", "own", "falls", "lap", "one", "other", "length", "later"]) (sc := defScope s__law_ways) (by decide +kernel)) (fun _ _ _ _ _ => (pg_name (i := 4) sc__law_ways.nd rfl (Or.inl rfl))) (fun _ _ _ _ _ => pts_nil) (fun _ _ _ _ _ => (pe_ifExp (pt_cmpR (kinS (K := K)) (pv 4) (pv 2) rfl) (pe_tup (pa_cons pe_int (pa_cons pe_int pa_nil))) pe_non)))
  (pss_cons (ps_set (i := 5) sc__law_ways.nd rfl (Or.inl rfl) pe_bl)
  (pss_cons (ps_for PassesOwn.never rfl (pi_range1 rfl X.n_range (pa_cons (pe_op op_add (pv 0) pe_int) pa_nil)) (pg_name (i := 6) sc__law_ways.nd rfl (Or.inl rfl)) (pss_cons (ps_set (i := 5) sc__law_ways.nd rfl (Or.inl rfl) pe_bl)
  (pss_one (ps_for PassesOwn.never rfl (kpi_list (K := K) (pv 1)) (kpg_tup (K := K) (n := 3) rfl (pgs_cons (pg_name (i := 7) sc__law_ways.nd rfl (Or.inl rfl)) (pgs_cons (pg_name (i := 8) sc__law_ways.nd rfl (Or.inl rfl)) (pgs_cons (pg_name (i := 9) sc__law_ways.nd rfl (Or.inl rfl)) pgs_nil)))) (pss_one (ps_if (pt_cmpR op_notN (pe_ix (kix_list (K := K)) (pv 3) (pv 7) (fun _ _ => rfl)) pe_non (nomark _)) (pss_cons (ps_set (i := 10) sc__law_ways.nd rfl (Or.inl rfl) (pe_call (ok__law_plus X) (hr.mono (by decide)) rfl X._law_plus.g X._law_plus.fn.kp X._law_plus.b .nil pass0 (pa_cons (pe_ix (kix_list (K := K)) (pv 3) (pv 7) (fun _ _ => rfl)) (pa_cons (pv 9) pa_nil))))
  (pss_one (ps_if (PW.pt (pw_or (pt_cmpR op_isN (pe_ix (kix_list (K := K)) (pv 3) (pv 8) (fun _ _ => rfl)) pe_non (nomark _)) (pw_or1 (pt_val (pe_call (ok__law_less X) (hr.mono (by decide)) rfl X._law_less.g X._law_less.fn.kp X._law_less.b .nil pass0 (pa_cons (pv 10) (pa_cons (pe_ix (kix_list (K := K)) (pv 3) (pv 8) (fun _ _ => rfl)) pa_nil))))))) (pss_cons (ps_asg (pv 10) (pg_sub (pv 3) (pv 8) set_list (fun _ => rfl)))
  (pss_one (ps_set (i := 5) sc__law_ways.nd rfl (Or.inl rfl) pe_bl))) pss_nil))) pss_nil))))))
  (pss_one (ps_ret (pe_tup (pa_cons (pv 3) (pa_cons (pv 5) pa_nil)))))))), ?_⟩
    have nl : (1000 : Nat) ≤ sizeLine := by decide
    have xl : xs.length = as.length := by have := dpAll_len hxs; rwa [List.length_map] at this
    -- what stands at first
    refine seq_of (fun σ H1 => ∃ F ys, σ = [some (.int n), some (.ref La), some (.ref Lb), some (.ref F), none, none, none, none, none, none, none] ∧ Ex T No H H1 ∧ H1 F = some (.lst ys) ∧ DpAll K H1 ys ((initW n st).map dopt) ∧ Nw H F) (fun N hN => ?_) ?_
    · refine ⟨_, rfl, _, rfl, by omega, by omega, lc_src (T := T) (src_range (lo := 0) (n := n)) (by omega) (P := fun D j y H5 => Dp K H5 y (dopt (if j ∈ st then some 0 else none))) (keep := fun _ => true) (fun _ _ _ _ => trivial) (fun D j y H5 H6 hD hacc ex h2 => stab_D _ (flat_dopt _) hacc ex h2)
            (fun D j x2 H5 H6 R hD hacc hj ex hY h1 h2 => ?_) (fun D zs H5 hD ex5 hzs hl2 hP => ?_)⟩
      · obtain ⟨rfl, rfl⟩ := hY
        have e0 : (0 : Int) + ((j : Nat) : Int) = ((j : Nat) : Int) := by omega
        rw [e0]
        refine ⟨rfl, _, rfl, _, rfl, Lb, _, rfl, .inl (sqL_exD ex hD hLb), rfl, ?_, ?_⟩
        · rw [List.all_eq_true]; intro v hv; obtain ⟨k, _, rfl⟩ := List.mem_map.mp hv; rfl
        · rw [if_neg Bool.false_ne_true, inV_ints]
          refine ⟨_, rfl, ite2 (fun z => ?_) (fun z => ?_)⟩
          · refine ⟨two_line, fun p hp => h1 rfl _ _ (Ex.new hp) ?_⟩
            rw [if_pos (of_decide_eq_true z)]
            exact dp_q_of (q := 0) (.inl (.inl upd_same))
          · refine h1 rfl _ _ Ex.refl ?_
            rw [if_neg (fun q => z (decide_eq_true q))]
            exact .non
      · have hz : DpAll K H5 zs ((initW n st).map dopt) := datas_of hl2 (by rw [List.length_map, init_len]) fun j y k e1 e2 => by
          have h := hP j y k e1 e2
          rw [kept_all] at e2
          obtain ⟨hj, ek⟩ := List.getElem?_eq_some_iff.mp e2
          rw [List.getElem_range] at ek
          rw [List.length_range] at hj
          refine ⟨_, ?_, h⟩
          unfold initW
          rw [List.getElem?_map, List.getElem?_map, List.getElem?_range (by omega)]; rfl
        exact hN _ _ ⟨D, zs, rfl, ex5, hzs, hz, .of hD⟩
    rintro σ H1 ⟨F, ys, rfl, ex1, hF, hys, nF⟩
    refine seq_of (fun σ H2 => σ = [some (.int n), some (.ref La), some (.ref Lb), some (.ref F), none, some (.bl true), none, none, none, none, none] ∧ H1 = H2) (fun N hN => hN _ _ ⟨rfl, rfl⟩) ?_
    rintro σ _ ⟨rfl, rfl⟩
    have neF : ∀ {p o}, H p = some o → NT o → p ≠ F := fun h t z => nF _ (z ▸ h) t
    refine seq_of (fun σ H2 => ∃ e6 e7 e8 e9 e10 ys, σ = [some (.int n), some (.ref La), some (.ref Lb), some (.ref F), none, some (.bl (waysK as (n + 1) (initW n st)).2), e6, e7, e8, e9, e10] ∧ Ex T No H H2 ∧ H2 F = some (.lst ys) ∧ DpAll K H2 ys ((waysK as (n + 1) (initW n st)).1.map dopt)) (fun N hN => ?_) ?_
    · refine ⟨_, rfl, _, _, rfl, rfl, ((n + 1 : Nat) : Int), congrArg (fun i => [V.int i]) (by omega), by omega, by omega, for_src (src_range (lo := 0) (n := n + 1)) (fun i σ H2 => i ≤ n + 1 ∧ SzD 27720 1000 (120 * i) (waysK as i (initW n st)).1 ∧ ∃ e6 e7 e8 e9 e10 ys, σ = [some (.int n), some (.ref La), some (.ref Lb), some (.ref F), none, some (.bl (waysK as i (initW n st)).2), e6, e7, e8, e9, e10] ∧ Ex T No H H2 ∧ H2 F = some (.lst ys) ∧ DpAll K H2 ys ((waysK as i (initW n st)).1.map dopt))
        ⟨Nat.zero_le _, init_sz _ _ _ _, _, _, _, _, _, ys, rfl, ex1, hF, hys⟩ (fun _ _ _ _ _ => trivial) ?_ (fun σ H2 ⟨_, _, h⟩ => hN _ _ h)⟩
      rintro i v σ H0 H2 hi ⟨hin, sz, e6, e7, e8, e9, e10, ys, rfl, ex2, hF2, hys2⟩ ⟨rfl, rfl⟩
      generalize hds : (waysK as i (initW n st)).1 = ds at *
      have dl : ds.length = n := by rw [← hds, ways_len, init_len]
      refine seq_of (fun σ H3 => σ = [some (.int n), some (.ref La), some (.ref Lb), some (.ref F), none, some (.bl false), some (.int (0 + (i : Nat))), e7, e8, e9, e10] ∧ H2 = H3) (fun N hN => hN _ _ ⟨rfl, rfl⟩) ?_
      rintro σ _ ⟨rfl, rfl⟩
      have hLa2 := ex2.lst hLa id
      refine ⟨_, rfl, La, rfl, ⟨_, .inl (.inl hLa2)⟩, for_src (src_list (K := K) (a := La) (xs := xs)) (fun j σ H3 => ∃ e7 e8 e9 e10 ys, σ = [some (.int n), some (.ref La), some (.ref Lb), some (.ref F), none, some (.bl ((as.take j).foldl relax (ds, false)).2), some (.int (0 + (i : Nat))), e7, e8, e9, e10] ∧ Ex T No H H3 ∧ H3 F = some (.lst ys) ∧ DpAll K H3 ys (((as.take j).foldl relax (ds, false)).1.map dopt) ∧ SzD 27720 1000 (120 * i + j) ((as.take j).foldl relax (ds, false)).1)
        ⟨_, _, _, _, ys, rfl, ex2, hF2, hys2, sz⟩ (fun j σ H3 _ ⟨_, _, _, _, _, _, e, _⟩ => .inl (.inl (e.lst hLa id))) ?_ (fun σ H3 ⟨e7, e8, e9, e10, ys3, h1, h2, h3, h4, h5⟩ => ?_)⟩
      · rintro j v σ H0 H3 hj ⟨e7, e8, e9, e10, ys3, rfl, ex3, hF3, hys3, sz3⟩ ⟨ev, rfl⟩
        obtain ⟨a, ha, da⟩ := dpAll_mapget hxs ev
        have ao := aso a (List.mem_of_getElem? ha)
        have es : (as.take (j + 1)).foldl relax (ds, false) = relax ((as.take j).foldl relax (ds, false)) a := by rw [List.take_add_one, ha, List.foldl_append]; rfl
        have sl : ((as.take j).foldl relax (ds, false)).1.length = n := by rw [fold_len]; exact dl
        rw [es]
        generalize hs : (as.take j).foldl relax (ds, false) = s at *
        have j120 : j < 120 := by omega
        obtain ⟨pa, u, rfl, hpa, hu⟩ := dp_arc (dp_tu ex3.tu (flat_darc a) da)
        refine ⟨pa, _, rfl, hpa, rfl, _, _, rfl, _, _, rfl, _, _, rfl, rfl, ?_⟩
        obtain ⟨vo, gvo, dvo⟩ := dpAll_at hys3 (show a.1 < s.1.length by rw [sl]; exact ao.lt1)
        obtain ⟨vt, gvt, dvt⟩ := dpAll_at hys3 (show a.2.1 < s.1.length by rw [sl]; exact ao.lt2)
        have y3l : ys3.length = n := by have := dpAll_len hys3; rwa [List.length_map, sl] at this
        refine ⟨_, rfl, _, rfl, F, _, _, _, rfl, rfl, .inl (.inl hF3), atI_nat gvo, rfl, _, rfl, ?_⟩
        cases e1 : dat s.1 a.1 with
        | none =>
          rw [e1] at dvo
          cases dvo
          have er : relax s a = s := by unfold relax; rw [e1]
          rw [er]
          exact iteN (by decide) ⟨_, _, _, _, ys3, rfl, ex3, hF3, hys3, sz3.mono (by omega)⟩
        | some x =>
          rw [e1] at dvo
          obtain ⟨po, rfl, hpo⟩ := dp_q dvo
          refine iteY (by simp) ?_
          have mx := sz3 _ _ e1
          have ml := ln_ma ao.l
          have bound : 1000 * (120 * i + j) ≤ 2 ^ 30 := by
            have : (2 : Nat) ^ 30 = 1073741824 := by decide
            omega
          have pk : PlusOk x a.2.2 := ma_plus (b := 20) (c := 30) mx ml (by omega) (by decide) bound (by decide) (by omega) (by omega)
          have msum : MA 27720 (1000 * (120 * i + j) + 1000) (x + a.2.2) := ma_add mx ml
          have bound2 : 1000 * (120 * i + j) + 1000 ≤ 2 ^ 31 := by
            have : (2 : Nat) ^ 31 = 2147483648 := by decide
            omega
          -- later
          refine seq_of (fun σ H4 => ∃ vl, σ = [some (.int n), some (.ref La), some (.ref Lb), some (.ref F), none, some (.bl s.2), some (.int (0 + (i : Nat))), some (.int (a.1 : Nat)), some (.int (a.2.1 : Nat)), some u, some vl] ∧ Ex T No H3 H4 ∧ Dp K H4 vl (dq (x + a.2.2))) (fun N hN => ?_) ?_
          · refine ⟨_, rfl, _, rfl, F, _, _, _, rfl, rfl, .inl (.inl hF3), atI_nat gvo, _, rfl, _, _, x, a.2.2, rfl, dvo, hu, pk, fun v H4 ex4 d4 => ?_⟩
            exact hN _ _ ⟨v, rfl, ex4, d4⟩
          rintro σ H4 ⟨vl, rfl, ex4, dl4⟩
          have hF4 := ex4.lst hF3 id
          have dvt4 := dp_tu ex4.tu (flat_dopt _) dvt
          have ex34 := ex3.trans ex4
          -- what a fall leaves
          have fall : ∀ H5, Ex T No H4 H5 → relax s a = (s.1.set a.2.1 (some (x + a.2.2)), true) → ∃ e7 e8 e9 e10 ys, [some (V.int n), some (.ref La), some (.ref Lb), some (.ref F), none, some (.bl true), some (.int (0 + (i : Nat))), some (.int (a.1 : Nat)), some (.int (a.2.1 : Nat)), some u, some vl] = [some (.int n), some (.ref La), some (.ref Lb), some (.ref F), none, some (.bl (relax s a).2), some (.int (0 + (i : Nat))), e7, e8, e9, e10] ∧ Ex T No H (upd H5 F (.lst (ys3.set a.2.1 vl))) ∧ (upd H5 F (.lst (ys3.set a.2.1 vl))) F = some (.lst ys) ∧ DpAll K (upd H5 F (.lst (ys3.set a.2.1 vl))) ys ((relax s a).1.map dopt) ∧ SzD 27720 1000 (120 * i + (j + 1)) (relax s a).1 := fun H5 ex5 er => by
            have hF5 := ex5.lst hF4 id
            have tuF : Tu H5 (upd H5 F (.lst (ys3.set a.2.1 vl))) := Tu.set hF5 (.lst _)
            have szr := relax_sz (a := a) sz3 ml (by rw [sl]; exact ao.lt2)
            rw [er] at szr ⊢
            refine ⟨_, _, _, _, _, rfl, (ex34.trans ex5).setS nF hF5 (.lst _), upd_same, ?_, szr⟩
            show DpAll K _ _ ((s.1.set a.2.1 (some (x + a.2.2))).map dopt)
            rw [List.map_set]
            exact dpAll_set (dpAll_tu ((ex4.trans ex5).tu.trans tuF) (flatAll_dopt _) hys3) (dp_tu (ex5.tu.trans tuF) rfl dl4)
          refine ⟨_, rfl, _, rfl, F, _, _, _, rfl, rfl, .inl (.inl hF4), atI_nat gvt, rfl, _, rfl, ?_⟩
          cases e2 : dat s.1 a.2.1 with
          | none =>
            rw [e2] at dvt4
            cases dvt4
            refine iteY (by decide) ?_
            have er : relax s a = (s.1.set a.2.1 (some (x + a.2.2)), true) := by unfold relax; rw [e1, e2]
            refine ⟨_, rfl, _, rfl, _, rfl, F, _, _, a.2.1, rfl, rfl, hF4, ixN_natt (by rw [y3l]; exact ao.lt2), ?_⟩
            exact fall H4 Ex.refl er
          | some y =>
            rw [e2] at dvt4
            obtain ⟨pt, rfl, hpt⟩ := dp_q dvt4
            refine iteNd (by intro z; cases z) ?_
            have my := sz3 _ _ e2
            have fx : Fits (x + a.2.2) := ma_fits (b := 20) (c := 31) msum (by omega) (by decide) bound2 (by omega)
            have fy : Fits y := ma_fits (b := 20) (c := 31) my (by omega) (by decide) (by omega) (by omega)
            refine ⟨_, rfl, _, rfl, _, rfl, F, _, _, _, rfl, rfl, .inl (.inl hF4), atI_nat gvt, _, _, x + a.2.2, y, rfl, dl4, dvt4, fx, fy, fun H5 ex5 => ?_⟩
            refine ⟨_, rfl, ite2 (fun z => ?_) (fun z => ?_)⟩
            · have hlt : x + a.2.2 < y := of_decide_eq_true z
              have er : relax s a = (s.1.set a.2.1 (some (x + a.2.2)), true) := by unfold relax; rw [e1, e2]; simp only [hlt, if_true]
              refine ⟨_, rfl, _, rfl, _, rfl, F, _, _, a.2.1, rfl, rfl, ex5.lst hF4 id, ixN_natt (by rw [y3l]; exact ao.lt2), ?_⟩
              exact fall H5 ex5 er
            · have hlt : ¬ x + a.2.2 < y := fun q => z (decide_eq_true q)
              have er : relax s a = s := by unfold relax; rw [e1, e2]; simp only [hlt, if_false]
              rw [er]
              exact ⟨_, _, _, _, ys3, rfl, ex34.trans ex5, ex5.lst hF4 id, dpAll_tu (ex4.trans ex5).tu (flatAll_dopt _) hys3, sz3.mono (by omega)⟩
      · have e : waysK as (i + 1) (initW n st) = (as.take xs.length).foldl relax (ds, false) := by rw [waysK, hds, lapW, xl, List.take_length]
        rw [← e] at h1 h4 h5
        exact ⟨by omega, h5.mono (by omega), _, e7, e8, e9, e10, ys3, h1, h2, h3, h4⟩
    rintro σ H2 ⟨e6, e7, e8, e9, e10, ys2, rfl, ex2, hF2, hys2⟩
    refine ⟨_, rfl, _, rfl, two_line, fun t ht => ?_⟩
    have ext : Ex T No H2 (upd H2 t (.tup [.ref F, .bl (waysK as (n + 1) (initW n st)).2])) := Ex.new ht
    exact k t F ys2 _ (ex2.trans ext) (.inl (.inl upd_same)) (ext.lst hF2 id) (dpAll_tu ext.tu (flatAll_dopt _) hys2)
end WB
end

section
set_option Elab.async false
set_option linter.all false
set_option maxRecDepth 100000
set_option maxHeartbeats 2000000
set_option exponentiation.threshold 1000000
namespace WB
open PySem PySem.Spec PyProof.Rows L2 LamX LP
variable {P : Program} {w : World} {K : PySem.W.Frag} {mg : Str → Option Value} {base : Heap} {A : LPA} {B : LawA} {T : List (Addr × Str)} {Pc : Addr}

/-! ### the program of heights -/
def arcRow (n : Nat) (a : Arc) : List Rat := ((List.replicate n (0 : Rat)).set a.1 1).set a.2.1 ((-1 : Int) : Rat)
def arcLim (n : Nat) (a : Arc) : List Rat × Rat := (arcRow n a, - a.2.2)
def oneRow (n i : Nat) (s : Int) : List Rat := (List.range n).map fun k => if k = i then (s : Rat) else 0
def heightsL (n : Nat) (as : List Arc) (f : Nat) : Lims := as.map (arcLim n) ++ [(oneRow n f 1, 0), (oneRow n f (-1), 0)]
def heightsG (n l : Nat) : List Rat := oneRow n l (-1)
section
variable (K T)
def sp_lprogram : Sp := fun vs H Q _ => ∃ (d g c La : Addr) (k n f l : Nat) (xs : List V) (as : List Arc), vs = [.ref d, .int n, .ref La, .int f, .int l] ∧ StAt k d g c H ∧ k + 200 ≤ 2 ^ 40 ∧ H La = some (.lst xs) ∧ DpAll K H xs (as.map darc) ∧ 2 ≤ n ∧ n ≤ 24 ∧ as.length ≤ 120 ∧ (∀ a ∈ as, ArcOk n 1000 12 a) ∧
  ∀ v (lims : Lims) H', lims.Perm (heightsL n as f) → Ex T (SD d g) H H' → StAt (k + 200) d g c H' → Dp K H' v (dprog (heightsG n l) lims) → Q v H'
end
theorem dp_int1 {H : Hp} {p : Addr} {i : Int} (h : SqT K H p [.int i, .int 1]) : Dp K H (.ref p) (dq (i : Rat)) := dp_q_of h
/-- a row of one part, made by a comprehension -/
theorem row_data {H : Hp} {zs : List V} {n i : Nat} {s : Int} (hl : zs.length = (kept (fun _ => true) n).length) (hP : ∀ (j : Nat) (y : V) (k : Nat), zs[j]? = some y → (kept (fun _ => true) n)[j]? = some k → Dp K H y (dq (if k = i then (s : Rat) else 0))) : DpAll K H zs ((oneRow n i s).map dq) := by
  refine datas_of hl (by unfold oneRow; rw [List.length_map, List.length_map, List.length_range]) fun j y k e1 e2 => ?_
  have h := hP j y k e1 e2
  rw [kept_all] at e2
  obtain ⟨hj, ek⟩ := List.getElem?_eq_some_iff.mp e2
  rw [List.getElem_range] at ek
  rw [List.length_range] at hj
  refine ⟨_, ?_, h⟩
  unfold oneRow
  rw [List.getElem?_map, List.getElem?_map, List.getElem?_range (by omega)]; rfl
theorem ok__law_program (X : LawTxt K mg A B) : FnOk P w K mg base CX0 4 B._law_program.1 B._law_program.2 ["draws", "knots", "arcs", "first", "last"] (sp_lprogram K T) := by
  refine X._law_program.fn.ok sc__law_program (fun vs H Q E h => ?_) (fun cdv A' outer s H vs Q E hr h => ?_)
  · obtain ⟨_, _, _, _, _, _, _, _, _, _, rfl, _⟩ := h; rfl
  · obtain ⟨d, g, c, La, k0, n, f, l, xs, as, rfl, S, hk, hLa, hxs, n1, n2, asl, aso, k⟩ := h
    have ok__law_hw_neg : ∀ {P : Program} {w : World} {base : Heap} (X : LawTxt K mg A B), FnOk P w K mg base CX0 1 B._law_hw_neg.1 B._law_hw_neg.2 ["part"] (sp_neg K T) := fun X => ok__law_hw_neg X
    have ok__law_shuffled : ∀ {P : Program} {w : World} {base : Heap} (X : LawTxt K mg A B), FnOk P w K mg base CX0 3 B._law_shuffled.1 B._law_shuffled.2 ["state", "some"] (sp_shuffled K T) := fun X => ok__law_shuffled X
    refine ⟨_, (pss_cons (ps_set (i := 5) sc__law_program.nd rfl (Or.inl rfl) (pe_lst pa_nil))
  (pss_cons (ps_for PassesOwn.never rfl (kpi_list (K := K) (pv 2)) (kpg_tup (K := K) (n := 3) rfl (pgs_cons (pg_name (i := 6) sc__law_program.nd rfl (Or.inl rfl)) (pgs_cons (pg_name (i := 7) sc__law_program.nd rfl (Or.inl rfl)) (pgs_cons (pg_name (i := 8) sc__law_program.nd rfl (Or.inl rfl)) pgs_nil)))) (pss_cons (ps_set (i := 9) sc__law_program.nd rfl (Or.inl rfl) (pe_op op_rep (pe_lst (pa_cons (pe_tup (pa_cons pe_int (pa_cons pe_int pa_nil))) pa_nil)) (pv 1)))
  (pss_cons (ps_asg (pe_tup (pa_cons pe_int (pa_cons pe_int pa_nil))) (pg_sub (pv 9) (pv 6) set_list (fun _ => rfl)))
  (pss_cons (ps_asg (pe_tup (pa_cons (pe_un un_neg pe_int) (pa_cons pe_int pa_nil))) (pg_sub (pv 9) (pv 7) set_list (fun _ => rfl)))
  (pss_one (ps_expr (pe_bm PySem.F.plainAttrs_list PySem.F.slot_list_append PySem.F.type_list_append mt_append (pv 5) (pa_cons (pe_tup (pa_cons (pe_callTy (ktuple (K := K)) (by rfl) X.n_tuple (by decide +kernel) (pa_cons (pv 9) pa_nil)) (pa_cons (pe_call (ok__law_hw_neg X) (hr.mono (by decide)) rfl X._law_hw_neg.g X._law_hw_neg.fn.kp X._law_hw_neg.b .nil pass0 (pa_cons (pv 8) pa_nil)) pa_nil))) pa_nil))))))))
  (pss_cons (ps_for PassesOwn.never rfl (kpi_list (K := K) (pe_lst (pa_cons pe_int (pa_cons (pe_un un_neg pe_int) pa_nil)))) (pg_name (i := 10) sc__law_program.nd rfl (Or.inr rfl)) (pss_one (ps_expr (pe_bm PySem.F.plainAttrs_list PySem.F.slot_list_append PySem.F.type_list_append mt_append (pv 5) (pa_cons (pe_tup (pa_cons (pe_callTy (ktuple (K := K)) (by rfl) X.n_tuple (by decide +kernel) (pa_cons (pe_lc (own := [("at", 11)]) (tt := tYes) rfl sc__law_program.nd  (pi_range1 rfl X.n_range (pa_cons (pv 1) pa_nil)) (blkOk_by (N := ["draws", "knots", "arcs", "first", "last", "limits", "one", "other", "length", "line", "sign", "at", "goal"]) (sc := defScope s__law_program) (by decide +kernel)) (fun _ _ _ _ _ => (pg_name (i := 11) sc__law_program.nd rfl (Or.inl rfl))) (fun _ _ _ _ _ => pts_nil) (fun _ _ _ _ _ => (pe_ifExp (pt_cmpR op_eq (pv 11) (pv 3) (nomark _)) (pe_tup (pa_cons (pv 10) (pa_cons pe_int pa_nil))) (pe_tup (pa_cons pe_int (pa_cons pe_int pa_nil)))))) pa_nil)) (pa_cons (pe_tup (pa_cons pe_int (pa_cons pe_int pa_nil))) pa_nil))) pa_nil)))))
  (pss_cons (ps_set (i := 12) sc__law_program.nd rfl (Or.inl rfl) (pe_callTy (ktuple (K := K)) (by rfl) X.n_tuple (by decide +kernel) (pa_cons (pe_lc (own := [("at", 11)]) (tt := tYes) rfl sc__law_program.nd  (pi_range1 rfl X.n_range (pa_cons (pv 1) pa_nil)) (blkOk_by (N := ["draws", "knots", "arcs", "first", "last", "limits", "one", "other", "length", "line", "sign", "at", "goal"]) (sc := defScope s__law_program) (by decide +kernel)) (fun _ _ _ _ _ => (pg_name (i := 11) sc__law_program.nd rfl (Or.inl rfl))) (fun _ _ _ _ _ => pts_nil) (fun _ _ _ _ _ => (pe_ifExp (pt_cmpR op_eq (pv 11) (pv 4) (nomark _)) (pe_tup (pa_cons (pe_un un_neg pe_int) (pa_cons pe_int pa_nil))) (pe_tup (pa_cons pe_int (pa_cons pe_int pa_nil)))))) pa_nil)))
  (pss_one (ps_ret (pe_tup (pa_cons pe_str (pa_cons (pv 12) (pa_cons (pe_callTy (ktuple (K := K)) (by rfl) X.n_tuple (by decide +kernel) (pa_cons (pe_call (ok__law_shuffled X) (hr.mono (by decide)) rfl X._law_shuffled.g X._law_shuffled.fn.kp X._law_shuffled.b .nil pass0 (pa_cons (pv 0) (pa_cons (pv 5) pa_nil))) pa_nil)) pa_nil)))))))))), ?_⟩
    have nl : (1000 : Nat) ≤ sizeLine := by decide
    have xl : xs.length = as.length := by have := dpAll_len hxs; rwa [List.length_map] at this
    refine seq_of (fun σ H1 => ∃ F, σ = [some (.ref d), some (.int n), some (.ref La), some (.int f), some (.int l), some (.ref F), none, none, none, none, none, none, none] ∧ Ex T No H H1 ∧ H1 F = some (.lst []) ∧ Nw H F) (fun N hN => ?_) ?_
    · exact ⟨Nat.zero_le _, fun F hF => hN _ _ ⟨F, rfl, Ex.new hF, upd_same, .of hF⟩⟩
    rintro σ H1 ⟨F, rfl, ex1, hF, nF⟩
    -- the arcs' limits
    refine seq_of (fun σ H2 => ∃ e6 e7 e8 e9 ys, σ = [some (.ref d), some (.int n), some (.ref La), some (.int f), some (.int l), some (.ref F), e6, e7, e8, e9, none, none, none] ∧ Ex T No H H2 ∧ H2 F = some (.lst ys) ∧ DpAll K H2 ys ((as.map (arcLim n)).map dlim)) (fun N hN => ?_) ?_
    · refine ⟨_, rfl, La, rfl, ⟨_, .inl (.inl (ex1.lst hLa id))⟩, for_src (src_list (K := K) (a := La) (xs := xs)) (fun i σ H2 => ∃ e6 e7 e8 e9 ys, σ = [some (.ref d), some (.int n), some (.ref La), some (.int f), some (.int l), some (.ref F), e6, e7, e8, e9, none, none, none] ∧ Ex T No H H2 ∧ H2 F = some (.lst ys) ∧ DpAll K H2 ys (((as.take i).map (arcLim n)).map dlim))
        ⟨_, _, _, _, [], rfl, ex1, hF, .nil⟩ (fun i σ H2 _ ⟨_, _, _, _, _, _, e, _⟩ => .inl (.inl (e.lst hLa id))) ?_ (fun σ H2 ⟨e6, e7, e8, e9, ys, h1, h2, h3, h4⟩ => hN _ _ ⟨e6, e7, e8, e9, ys, h1, h2, h3, by rwa [xl, List.take_length] at h4⟩)⟩
      rintro i v σ H0 H2 hi ⟨e6, e7, e8, e9, ys, rfl, ex2, hF2, hys⟩ ⟨ev, rfl⟩
      obtain ⟨a, ha, da⟩ := dpAll_mapget hxs ev
      have ao := aso a (List.mem_of_getElem? ha)
      have es : as.take (i + 1) = as.take i ++ [a] := by rw [List.take_add_one, ha]; rfl
      have yl : ys.length ≤ 120 := by
        have := dpAll_len hys
        rw [List.length_map, List.length_map, List.length_take] at this
        omega
      obtain ⟨pa, u, rfl, hpa, hu⟩ := dp_arc (dp_tu ex2.tu (flat_darc a) da)
      refine ⟨pa, _, rfl, hpa, rfl, _, _, rfl, _, _, rfl, _, _, rfl, rfl, ?_⟩
      -- line
      refine seq_of (fun σ H3 => ∃ D zs, σ = [some (.ref d), some (.int n), some (.ref La), some (.int f), some (.int l), some (.ref F), some (.int (a.1 : Nat)), some (.int (a.2.1 : Nat)), some u, some (.ref D), none, none, none] ∧ Ex T No H2 H3 ∧ H3 D = some (.lst zs) ∧ DpAll K H3 zs ((List.replicate n (0 : Rat)).map dq) ∧ Nw H2 D) (fun N hN => ?_) ?_
      · refine ⟨two_line, fun p0 hp0 => ⟨by show 1 ≤ sizeLine; decide, fun l0 hl0 => ?_⟩⟩
        have ep0 : Ex T No H2 (upd H2 p0 (.tup [.int 0, .int 1])) := Ex.new hp0
        have el0 : Ex T No (upd H2 p0 (.tup [.int 0, .int 1])) (upd (upd H2 p0 (.tup [.int 0, .int 1])) l0 (.lst [.ref p0])) := Ex.new hl0
        refine ⟨_, rfl, l0, _, _, rfl, rfl, upd_same, by omega, by omega, ?_, fun D hD => ?_⟩
        · show 1 * (n : Int).toNat ≤ sizeLine
          omega
        · have eD := Ex.new (T := T) (S := No) (o := .lst (List.replicate (n : Int).toNat [V.ref p0]).flatten) hD
          refine hN _ _ ⟨D, _, rfl, ep0.trans (el0.trans eD), upd_same, ?_, (ep0.trans el0).freeN (Nw.of hD)⟩
          have erep : (List.replicate (n : Int).toNat [V.ref p0]).flatten = List.replicate n (V.ref p0) := by rw [rep_flat]; rfl
          have hx := dpAll_rep (K := K) (dp_q_of (q := 0) ((el0.trans eD).sqT (.inl (.inl upd_same)))) n
          rw [rep_q]
          exact (congrArg (fun z => DpAll K (upd (upd (upd H2 p0 (.tup [.int 0, .int 1])) l0 (.lst [.ref p0])) D (.lst (List.replicate (n : Int).toNat [V.ref p0]).flatten)) z (List.replicate n (dq 0))) erep).mpr hx
      rintro σ H3 ⟨D, zs, rfl, ex3, hD, hzs, nD⟩
      have zl : zs.length = n := by have := dpAll_len hzs; rwa [List.length_map, List.length_replicate] at this
      refine seq_of (fun σ H4 => ∃ zs, σ = [some (.ref d), some (.int n), some (.ref La), some (.int f), some (.int l), some (.ref F), some (.int (a.1 : Nat)), some (.int (a.2.1 : Nat)), some u, some (.ref D), none, none, none] ∧ Ex T No H2 H4 ∧ H4 D = some (.lst zs) ∧ DpAll K H4 zs (((List.replicate n (0 : Rat)).set a.1 1).map dq)) (fun N hN => ?_) ?_
      · refine ⟨two_line, fun p hp => ?_⟩
        have exp : Ex T No H3 (upd H3 p (.tup [.int 1, .int 1])) := Ex.new hp
        have hD2 := exp.lst hD id
        refine ⟨_, rfl, _, rfl, D, _, _, a.1, rfl, rfl, hD2, ixN_natt (by rw [zl]; exact ao.lt1), ?_⟩
        have tuD : Tu (upd H3 p (.tup [.int 1, .int 1])) (upd (upd H3 p (.tup [.int 1, .int 1])) D (.lst (zs.set a.1 (.ref p)))) := Tu.set hD2 (.lst _)
        refine hN _ _ ⟨_, rfl, (ex3.trans exp).setS nD hD2 (.lst _), upd_same, ?_⟩
        rw [List.map_set]
        exact dpAll_set (dpAll_tu (exp.tu.trans tuD) (flatAll_q _) hzs) (dp_tu tuD rfl (dp_q_of (q := 1) (.inl (.inl upd_same))))
      rintro σ H4 ⟨zs4, rfl, ex4, hD4, hzs4⟩
      have zl4 : zs4.length = n := by have := dpAll_len hzs4; rwa [List.length_map, List.length_set, List.length_replicate] at this
      refine seq_of (fun σ H5 => ∃ zs, σ = [some (.ref d), some (.int n), some (.ref La), some (.int f), some (.int l), some (.ref F), some (.int (a.1 : Nat)), some (.int (a.2.1 : Nat)), some u, some (.ref D), none, none, none] ∧ Ex T No H2 H5 ∧ H5 D = some (.lst zs) ∧ DpAll K H5 zs ((arcRow n a).map dq)) (fun N hN => ?_) ?_
      · refine ⟨_, rfl, two_line, fun p hp => ?_⟩
        have exp : Ex T No H4 (upd H4 p (.tup [.int (-1), .int 1])) := Ex.new hp
        have hD2 := exp.lst hD4 id
        refine ⟨_, rfl, _, rfl, D, _, _, a.2.1, rfl, rfl, hD2, ixN_natt (by rw [zl4]; exact ao.lt2), ?_⟩
        have tuD : Tu (upd H4 p (.tup [.int (-1), .int 1])) (upd (upd H4 p (.tup [.int (-1), .int 1])) D (.lst (zs4.set a.2.1 (.ref p)))) := Tu.set hD2 (.lst _)
        refine hN _ _ ⟨_, rfl, (ex4.trans exp).setS nD hD2 (.lst _), upd_same, ?_⟩
        unfold arcRow
        rw [List.map_set]
        exact dpAll_set (dpAll_tu (exp.tu.trans tuD) (flatAll_q _) hzs4) (dp_tu tuD rfl (dp_int1 (.inl (.inl upd_same))))
      rintro σ H5 ⟨zs5, rfl, ex5, hD5, hzs5⟩
      -- limits.append((tuple(line), -length))
      have hF5 := ex5.lst hF2 id
      refine ⟨_, rfl, .inl ⟨rfl, _, .inl (.inl hF5)⟩, _, rfl, D, _, rfl, .inl ⟨.inl (.inl hD5), fun t ht => ?_⟩⟩
      have ext : Ex T No H5 (upd H5 t (.tup zs5)) := Ex.new ht
      refine ⟨_, rfl, u, a.2.2, rfl, dp_tu (ex5.trans ext).tu rfl hu, fun v6 H6 ex6 d6 => ⟨two_line, fun p hp => ?_⟩⟩
      have exp : Ex T No H6 (upd H6 p (.tup [.ref t, v6])) := Ex.new hp
      have exA := ext.trans (ex6.trans exp)
      have hF6 := exA.lst hF5 id
      refine ⟨F, _, _, rfl, rfl, hF6, by omega, ?_⟩
      have tuF : Tu (upd H6 p (.tup [.ref t, v6])) (upd (upd H6 p (.tup [.ref t, v6])) F (.lst (ys ++ [.ref p]))) := Tu.set hF6 (.lst _)
      refine ⟨_, _, _, _, _, rfl, (ex2.trans (ex5.trans exA)).setS nF hF6 (.lst _), upd_same, ?_⟩
      rw [es, List.map_append, List.map_append]
      refine dpAll_app (dpAll_tu ((ex5.trans exA).tu.trans tuF) (flatAll_dlim _) hys) (.cons (.tup (tuF.sqT (.inl (.inl upd_same))) (.cons ?_ (.cons (dp_tu (exp.tu.trans tuF) rfl d6) .nil))) .nil)
      exact .tup ((((ex6.trans exp).tu.trans tuF)).sqT (.inl (.inl upd_same))) (dpAll_tu (exA.tu.trans tuF) (flatAll_q _) hzs5)
    rintro σ H2 ⟨e6, e7, e8, e9, ys, rfl, ex2, hF2, hys⟩
    have yl : ys.length = as.length := by have := dpAll_len hys; rwa [List.length_map, List.length_map] at this
    -- the two limits of the first one
    refine seq_of (fun σ H3 => ∃ e10 ys, σ = [some (.ref d), some (.int n), some (.ref La), some (.int f), some (.int l), some (.ref F), e6, e7, e8, e9, e10, none, none] ∧ Ex T No H H3 ∧ H3 F = some (.lst ys) ∧ DpAll K H3 ys ((heightsL n as f).map dlim)) (fun N hN => ?_) ?_
    · refine ⟨_, rfl, by show 2 ≤ sizeLine; decide, fun G hG => ?_⟩
      have exG : Ex T No H2 (upd H2 G (.lst [.int 1, .int (-1)])) := Ex.new hG
      let rest : Nat → Lims := fun i => ([(oneRow n f 1, 0), (oneRow n f (-1), 0)] : Lims).take i
      refine ⟨G, rfl, ⟨_, .inl (.inl upd_same)⟩, for_src (src_list (K := K) (a := G) (xs := [.int 1, .int (-1)])) (fun i σ H3 => ∃ e10 ys, σ = [some (.ref d), some (.int n), some (.ref La), some (.int f), some (.int l), some (.ref F), e6, e7, e8, e9, e10, none, none] ∧ Ex T No H H3 ∧ H3 G = some (.lst [.int 1, .int (-1)]) ∧ H3 F = some (.lst ys) ∧ DpAll K H3 ys ((as.map (arcLim n) ++ rest i).map dlim))
        ⟨_, ys, rfl, ex2.trans exG, upd_same, exG.lst hF2 id, by rw [show rest 0 = [] from rfl, List.append_nil]; exact dpAll_tu exG.tu (flatAll_dlim _) hys⟩ (fun i σ H3 _ ⟨_, _, _, _, hG3, _⟩ => .inl (.inl hG3)) ?_ (fun σ H3 ⟨e10, ys, h1, h2, h3, h4, h5⟩ => hN _ _ ⟨e10, ys, h1, h2, h4, h5⟩)⟩
      rintro i v σ H0 H3 hi ⟨e10, ys3, rfl, ex3, hG3, hF3, hys3⟩ ⟨ev, rfl⟩
      have hi2 : i < 2 := hi
      obtain ⟨sg, rfl, esg⟩ : ∃ sg : Int, v = .int sg ∧ rest (i + 1) = rest i ++ [(oneRow n f sg, 0)] := by
        have : i = 0 ∨ i = 1 := by omega
        rcases this with rfl | rfl
        · exact ⟨1, (Option.some.inj ev).symm, rfl⟩
        · exact ⟨-1, (Option.some.inj ev).symm, rfl⟩
      have y3l : ys3.length ≤ 122 := by
        have h := dpAll_len hys3
        have h2 : (rest i).length ≤ 2 := by show (List.take _ _).length ≤ 2; rw [List.length_take]; exact Nat.min_le_right _ _
        rw [List.length_map, List.length_append, List.length_map] at h
        omega
      refine ⟨_, rfl, .inl ⟨rfl, _, .inl (.inl hF3)⟩, _, rfl, _, rfl, by omega, by omega, lc_src (T := T) (src_range (lo := 0) (n := n)) (by omega) (P := fun D j y H5 => Dp K H5 y (dq (if j = f then (sg : Rat) else 0))) (keep := fun _ => true) (fun _ _ _ _ => trivial) (fun D j y H5 H6 hD hacc ex h2 => stab_D (dq _) rfl hacc ex h2)
            (fun D j x2 H5 H6 R hD hacc hj ex hY h1 h2 => ?_) (fun D zs H5 hD ex5 hzs hl2 hP => ?_)⟩
      · obtain ⟨rfl, rfl⟩ := hY
        have e0 : (0 : Int) + ((j : Nat) : Int) = ((j : Nat) : Int) := by omega
        rw [e0]
        refine ⟨rfl, _, rfl, _, rfl, rfl, _, rfl, ite2 (fun z => ?_) (fun z => ?_)⟩
        · have e : j = f := by have := of_decide_eq_true z; injection this with this; omega
          refine ⟨_, rfl, two_line, fun p hp => h1 rfl _ _ (Ex.new hp) ?_⟩
          rw [if_pos e]
          exact dp_int1 (.inl (.inl upd_same))
        · have e : ¬ j = f := fun q => z (decide_eq_true (by rw [q]))
          refine ⟨two_line, fun p hp => h1 rfl _ _ (Ex.new hp) ?_⟩
          rw [if_neg e]
          exact dp_q_of (q := 0) (.inl (.inl upd_same))
      · have hz := row_data (K := K) hl2 hP
        refine ⟨D, _, rfl, .inl ⟨.inl (.inl hzs), fun t ht => ?_⟩⟩
        have ext : Ex T No H5 (upd H5 t (.tup zs)) := Ex.new ht
        refine ⟨two_line, fun p0 hp0 => ⟨two_line, fun p hp => ?_⟩⟩
        have ep0 : Ex T No (upd H5 t (.tup zs)) (upd (upd H5 t (.tup zs)) p0 (.tup [.int 0, .int 1])) := Ex.new hp0
        have exp : Ex T No (upd (upd H5 t (.tup zs)) p0 (.tup [.int 0, .int 1])) (upd (upd (upd H5 t (.tup zs)) p0 (.tup [.int 0, .int 1])) p (.tup [.ref t, .ref p0])) := Ex.new hp
        have exA := ext.trans (ep0.trans exp)
        have exB := ex5.trans exA
        have hF6 := exB.lst hF3 id
        refine ⟨F, _, _, rfl, rfl, hF6, by omega, ?_⟩
        have tuF : Tu (upd (upd (upd H5 t (.tup zs)) p0 (.tup [.int 0, .int 1])) p (.tup [.ref t, .ref p0])) (upd (upd (upd (upd H5 t (.tup zs)) p0 (.tup [.int 0, .int 1])) p (.tup [.ref t, .ref p0])) F (.lst (ys3 ++ [.ref p]))) := Tu.set hF6 (.lst _)
        refine ⟨_, _, rfl, (ex3.trans exB).setS nF hF6 (.lst _), ?_, upd_same, ?_⟩
        · rw [upd_ne]
          · exact exB.lst hG3 id
          · exact ne_of_none hF2 hG |> Ne.symm
        · rw [esg, ← List.append_assoc, List.map_append]
          refine dpAll_app (dpAll_tu (exB.tu.trans tuF) (flatAll_dlim _) hys3) (.cons (.tup (tuF.sqT (.inl (.inl upd_same))) (.cons ?_ (.cons (dp_q_of (q := 0) (tuF.sqT (exp.sqT (.inl (.inl upd_same))))) .nil))) .nil)
          exact .tup (tuF.sqT ((ep0.trans exp).sqT (.inl (.inl upd_same)))) (dpAll_tu (exA.tu.trans tuF) (flatAll_q _) hz)
    rintro σ H3 ⟨e10, ys3, rfl, ex3, hF3, hys3⟩
    -- goal
    refine seq_of (fun σ H4 => ∃ vg, σ = [some (.ref d), some (.int n), some (.ref La), some (.int f), some (.int l), some (.ref F), e6, e7, e8, e9, e10, none, some vg] ∧ Ex T No H3 H4 ∧ Dp K H4 vg (dv (heightsG n l))) (fun N hN => ?_) ?_
    · refine ⟨_, rfl, _, rfl, by omega, by omega, lc_src (T := T) (src_range (lo := 0) (n := n)) (by omega) (P := fun D j y H5 => Dp K H5 y (dq (if j = l then ((-1 : Int) : Rat) else 0))) (keep := fun _ => true) (fun _ _ _ _ => trivial) (fun D j y H5 H6 hD hacc ex h2 => stab_D (dq _) rfl hacc ex h2)
            (fun D j x2 H5 H6 R hD hacc hj ex hY h1 h2 => ?_) (fun D zs H5 hD ex5 hzs hl2 hP => ?_)⟩
      · obtain ⟨rfl, rfl⟩ := hY
        have e0 : (0 : Int) + ((j : Nat) : Int) = ((j : Nat) : Int) := by omega
        rw [e0]
        refine ⟨rfl, _, rfl, _, rfl, rfl, _, rfl, ite2 (fun z => ?_) (fun z => ?_)⟩
        · have e : j = l := by have := of_decide_eq_true z; injection this with this; omega
          refine ⟨_, rfl, two_line, fun p hp => h1 rfl _ _ (Ex.new hp) ?_⟩
          rw [if_pos e]
          exact dp_int1 (.inl (.inl upd_same))
        · have e : ¬ j = l := fun q => z (decide_eq_true (by rw [q]))
          refine ⟨two_line, fun p hp => h1 rfl _ _ (Ex.new hp) ?_⟩
          rw [if_neg e]
          exact dp_q_of (q := 0) (.inl (.inl upd_same))
      · have hz := row_data (K := K) hl2 hP
        refine ⟨D, _, rfl, .inl ⟨.inl (.inl hzs), fun t ht => ?_⟩⟩
        have ext : Ex T No H5 (upd H5 t (.tup zs)) := Ex.new ht
        exact hN _ _ ⟨.ref t, rfl, ex5.trans ext, .tup (.inl (.inl upd_same)) (dpAll_tu ext.tu (flatAll_q _) hz)⟩
    rintro σ H4 ⟨vg, rfl, ex4, dg⟩
    have hF4 := ex4.lst hF3 id
    have hys4 := dpAll_tu ex4.tu (flatAll_dlim _) hys3
    have exA := ex3.trans ex4
    have ll : (heightsL n as f).length = as.length + 2 := by unfold heightsL; rw [List.length_append, List.length_map]; rfl
    refine ⟨_, rfl, _, rfl, _, rfl, d, g, c, k0, F, ys3, heightsL n as f, rfl, S.no exA, by omega, .inl (.inl hF4), hys4, by omega, fun L zs ls' H5 pm ex5 S5 hL5 hzs nL => ?_⟩
    refine ⟨L, _, rfl, .inl ⟨.inl (.inl hL5), fun t ht => ⟨by show 3 ≤ sizeLine; decide, fun p hp => ?_⟩⟩⟩
    have ext : Ex T No H5 (upd H5 t (.tup zs)) := Ex.new ht
    have exp : Ex T No (upd H5 t (.tup zs)) (upd (upd H5 t (.tup zs)) p (.tup [.str "program", vg, .ref t])) := Ex.new hp
    have exB := ext.trans exp
    refine k _ ls' _ pm (exA.of_no.trans (ex5.trans exB.of_no)) ((S5.no exB).mono (by omega)) (.tup (.inl (.inl upd_same)) (.cons (.str _) (.cons (dp_tu ((ex5.tuSD (S.no exA)).trans exB.tu) (flat_dv _) dg) (.cons (.tup (exp.sqT (.inl (.inl upd_same))) (dpAll_tu exB.tu (flatAll_dlim _) hzs)) .nil))))
end WB
end

section
set_option Elab.async false
set_option linter.all false
set_option maxRecDepth 100000
set_option maxHeartbeats 2000000
set_option exponentiation.threshold 1000000
namespace WB
open PySem PySem.Spec PyProof.Rows L2 LamX LP
variable {P : Program} {w : World} {K : PySem.W.Frag} {mg : Str → Option Value} {base : Heap} {A : LPA} {B : LawA} {T : List (Addr × Str)} {Pc : Addr}

/-! ### one graph -/
theorem kisV {X : Cx} (h : X.K = K := by rfl) : CallR X (.builtin "isinstance") (rIsV K) := h ▸ call_isV
abbrev goesLam : Str := ("_law_goes" : Str) ++ ".<locals>." ++ "<lambda>"
def KindOk (below : Bool) (len : Option Rat) : Ans → Prop
  | .best q _ _ => below = false ∧ ∃ x, len = some x ∧ q = -x
  | .empty _ => below = true
  | .endless _ _ => below = false ∧ len = none
structure WaysOk (n : Nat) (as : List Arc) (f l : Nat) (lims : Lims) : Prop where
  ans : AnsOk (heightsG n l) lims
  one : ∀ a, Run lims (heightsG n l) a → IsAns (heightsG n l) lims a ∧ MixLaw (heightsG n l) lims a
  kind : ∀ a, Run lims (heightsG n l) a → KindOk (waysK as (n + 1) (initW n (List.range n))).2 (dat (waysK as (n + 1) (initW n [f])).1 l) a
section
variable (K Pc)
def sp_wgoes : Sp := fun vs H Q _ => ∃ (d g c : Addr) (k n m : Nat), vs = [.ref d, .int n, .int m] ∧ StAt k d g c H ∧ k + 3000 ≤ 2 ^ 40 ∧ 2 ≤ n ∧ n ≤ 24 ∧ 1 ≤ m ∧ m ≤ 120 ∧ Tabs (TT1 Pc) H ∧
  ∀ H', Ex (TT1 Pc) (SD d g) H H' → StAt (k + 3000) d g c H' → Q (.bl true) H'
end
theorem rg_ints (n : Nat) : rgV 0 (n : Int) = (List.range n).map fun k => V.int (k : Nat) := by
  unfold rgV
  rw [show ((n : Int) - 0).toNat = n by omega]
  exact List.map_congr_left fun i _ => by rw [Int.zero_add]
/-- what the law caught of the action that asks the least -/
def Caught (Z : ExcA) (H : Hp) (v : V) : Ans → Prop
  | .best _ _ _ => v = .non
  | .empty _ => ∃ p, v = .ref p ∧ H p = some (ExV (.ref Z.E) p)
  | .endless _ _ => ∃ p, v = .ref p ∧ H p = some (ExV (.ref Z.D) p)
theorem extV_keep {H H' : Hp} {p : Addr} {cls : Value} (e : Ex T No H H') (h : H p = some (ExV cls p)) : H' p = some (ExV cls p) := e.e p _ id h (fun ps z => by unfold ExV at z; cases z)
theorem ok__law_goes (X : LawTxt K mg A B) (TB : TabB base mg A.code Pc) {Z : ExcA} (Y : ExcT K mg Z) {cg Pg : Addr} (FC : FunC K "_law_goes" "_law_goes" s__law_goes B._law_goes cg) (TB2 : TabB base mg cg Pg) (hm2 : (Pg, goesLam) ∈ TT1 Pc) (hu2 : ∀ p ∈ TT1 Pc, p.1 = Pg → p.2 = goesLam)
    (G : ∀ (n : Nat) (as : List Arc) (f l : Nat) (lims : Lims), 2 ≤ n → n ≤ 24 → as.length ≤ 120 → (∀ a ∈ as, ArcOk n 1000 12 a) → f < n → l < n → f ≠ l → lims.Perm (heightsL n as f) → WaysOk n as f l lims) :
    FnOk P w K mg base CX0 11 B._law_goes.1 B._law_goes.2 ["draws", "knots", "many"] (sp_wgoes Pc) := by
  obtain ⟨oc, od, kV, doc, pm, an, ct, osl, hfd, lk, hcd⟩ := FC.ex
  obtain ⟨oc1, od1, kV1, doc1, pm1, an1, cdv1, ct1, osl1, hfd1, lk1, hcd1⟩ := X._law_caught.fn.ex
  have b1 := X._law_caught.b
  rw [hfd1] at b1 lk1
  rw [hfd] at lk ⊢
  refine fn_of lk hcd sc__law_goes (fun vs H Q E h => ?_) (fun A' outer s H vs Q E hr h => ?_)
  · obtain ⟨_, _, _, _, _, _, rfl, _⟩ := h; rfl
  · obtain ⟨d, g, c, k0, n, m, rfl, S, hk, n1, n2, m1, m2, hT, k⟩ := h
    have key : ∃ t, PSs (cxOf CX0 P w K mg base ["draws", "knots", "many", "arcs", "first", "last", "program", "told", "is_below", "caught", "length"] "_law_goes" (defScope s__law_goes) B._law_goes.1 (.ref cg) A' outer s H E).nox (defBody s__law_goes) t ∧ t { nx := fun _ H' => Q .non H', rt := Q } (L2.start ["draws", "knots", "many", "arcs", "first", "last", "program", "told", "is_below", "caught", "length"] [.ref d, .int n, .int m]) H := by
      have ok__law_graph : ∀ {P : Program} {w : World} {base : Heap} (X : LawTxt K mg A B), FnOk P w K mg base CX0 3 B._law_graph.1 B._law_graph.2 ["draws", "knots", "arcs"] (sp_graph K (TT1 Pc)) := fun X => ok__law_graph X
      have ok__law_draw : ∀ {P : Program} {w : World} {base : Heap} (X : LawTxt K mg A B), FnOk P w K mg base CX0 2 B._law_draw.1 B._law_draw.2 ["state", "room"] (sp_draw (TT1 Pc)) := fun X => ok__law_draw X
      have ok__law_program : ∀ {P : Program} {w : World} {base : Heap} (X : LawTxt K mg A B), FnOk P w K mg base CX0 4 B._law_program.1 B._law_program.2 ["draws", "knots", "arcs", "first", "last"] (sp_lprogram K (TT1 Pc)) := fun X => ok__law_program X
      have ok__law_ways : ∀ {P : Program} {w : World} {base : Heap} (X : LawTxt K mg A B), FnOk P w K mg base CX0 3 B._law_ways.1 B._law_ways.2 ["knots", "arcs", "begun_at"] (sp_ways K (TT1 Pc)) := fun X => ok__law_ways X
      have ok_answer : ∀ (X : LPTxt K mg A), FnOk P w K mg base CX0 7 A.answer.1 A.answer.2 ["program"] (sp_answer K Pc) := fun X => ok_answer X TB
      have ok_is_program : ∀ {P : Program} {w : World} {base : Heap} (X : LPTxt K mg A), FnOk P w K mg base CX0 5 A.is_program.1 A.is_program.2 ["value"] (sp_is_program K (TT1 Pc)) := fun X => ok_is_program X
      have ok_is_answer : ∀ {P : Program} {w : World} {base : Heap} (X : LPTxt K mg A), FnOk P w K mg base CX0 7 A.is_answer.1 A.is_answer.2 ["program", "value"] (sp_is_answer K (TT1 Pc)) := fun X => ok_is_answer X
      have ok__law_is_answer : ∀ {P : Program} {w : World} {base : Heap} (X : LawTxt K mg A B), FnOk P w K mg base CX0 5 B._law_is_answer.1 B._law_is_answer.2 ["program", "value"] (sp_lis K (TT1 Pc)) := fun X => ok__law_is_answer X
      have ok__law_hw_neg : ∀ {P : Program} {w : World} {base : Heap} (X : LawTxt K mg A B), FnOk P w K mg base CX0 1 B._law_hw_neg.1 B._law_hw_neg.2 ["part"] (sp_neg K (TT1 Pc)) := fun X => ok__law_hw_neg X
      have okl : FnOk P w K mg base (L2.CX P w) 8 B.least.1 B.least.2 ["program"] (sp_least K Pc Z) := ok_least X TB Y
      refine ⟨_, (pss_cons (ps_set (i := 3) sc__law_goes.nd rfl (Or.inl rfl) (pe_call (ok__law_graph X) (hr.mono (by decide)) rfl X._law_graph.g X._law_graph.fn.kp X._law_graph.b .nil pass0 (pa_cons (pv 0) (pa_cons (pv 1) (pa_cons (pv 2) pa_nil)))))
  (pss_cons (ps_set (i := 4) sc__law_goes.nd rfl (Or.inl rfl) (pe_call (ok__law_draw X) (hr.mono (by decide)) rfl X._law_draw.g X._law_draw.fn.kp X._law_draw.b .nil pass0 (pa_cons (pv 0) (pa_cons (pv 1) pa_nil))))
  (pss_cons (ps_set (i := 5) sc__law_goes.nd rfl (Or.inl rfl) (pe_op op_mod (pe_callTy call_int1 (by rfl) X.n_int (by decide +kernel) (pa_cons (pe_op op_add (pe_op op_add (pv 4) pe_int) (pe_call (ok__law_draw X) (hr.mono (by decide)) rfl X._law_draw.g X._law_draw.fn.kp X._law_draw.b .nil pass0 (pa_cons (pv 0) (pa_cons (pe_op op_sub (pv 1) pe_int) pa_nil)))) pa_nil)) (pv 1)))
  (pss_cons (ps_set (i := 6) sc__law_goes.nd rfl (Or.inr rfl) (pe_call (ok__law_program X) (hr.mono (by decide)) rfl X._law_program.g X._law_program.fn.kp X._law_program.b .nil pass0 (pa_cons (pv 0) (pa_cons (pv 1) (pa_cons (pv 3) (pa_cons (pv 4) (pa_cons (pv 5) pa_nil)))))))
  (pss_cons (ps_par (i := 7) (j := 8) rfl sc__law_goes.nd rfl rfl (by decide) rfl rfl (pa_cons (pe_call (ok_answer X.toLPTxt) (hr.mono (by decide)) rfl X.answer.g X.answer.fn.kp X.answer.b .nil pass0 (pa_cons (pv 6) pa_nil)) (pa_cons (pe_ix (kix_tup (K := K)) (pe_call (ok__law_ways X) (hr.mono (by decide)) rfl X._law_ways.g X._law_ways.fn.kp X._law_ways.b .nil pass0 (pa_cons (pv 1) (pa_cons (pv 3) (pa_cons (pe_listRg rfl rfl X.n_list (prg_1 rfl X.n_range (pv 1))) pa_nil)))) pe_int (fun _ _ => rfl)) pa_nil)) rfl)
  (pss_cons (ps_if (PW.pt (pw_or (pt_cmpR op_notBl (pe_call (ok_is_program X.toLPTxt) (hr.mono (by decide)) rfl X.is_program.g X.is_program.fn.kp X.is_program.b .nil pass0 (pa_cons (pv 6) pa_nil)) pe_bl (nomark _)) (pw_or (pt_cmpR op_notBl (pe_call (ok_is_answer X.toLPTxt) (hr.mono (by decide)) rfl X.is_answer.g X.is_answer.fn.kp X.is_answer.b .nil pass0 (pa_cons (pv 6) (pa_cons (pv 7) pa_nil))) pe_bl (nomark _)) (pw_or1 (pt_not (pt_val (pe_call (ok__law_is_answer X) (hr.mono (by decide)) rfl X._law_is_answer.g X._law_is_answer.fn.kp X._law_is_answer.b .nil pass0 (pa_cons (pv 6) (pa_cons (pv 7) pa_nil))))))))) (pss_one (ps_ret pe_bl)) pss_nil)
  (pss_cons (ps_set (i := 9) sc__law_goes.nd rfl (Or.inl rfl) (pe_lamcall (T := TT1 Pc) (P := Pg) (c := cg) (k := 8) (t := fun E => tCall (sp_least K Pc Z) [] E (tCons (tVar 6) tNil)) rfl X._law_caught.g X._law_caught.fn.kp lk1 hcd1 b1 sc_caught rfl (Or.inl rfl) (caught_gives Y.gP) TB2 rfl hm2 hu2 hr (lamS_by (by rfl)) rfl (fun _ _ _ _ _ => rfl) (fun A outer s H E f c' hr2 => pe_call okl hr2 rfl X.least.g X.least.fn.kp X.least.b .nil (passes_call (takes_of rfl rfl rfl rfl) (fun _ _ _ _ h => h)) (pa_cons (pv 6) pa_nil))))
  (pss_cons (ps_if (pt_val (pv 8)) (pss_one (ps_ret (pe_and (pe_cmpR op_eq (pe_ix (kix_tup (K := K)) (pv 7) pe_int (fun _ _ => rfl)) pe_str (nomark _)) (pe_and (pe_callB (kisV (K := K)) (by rfl) X.n_isinstance (by decide +kernel) (pa_cons (pv 9) (pa_cons (pe_glob (v := V.ref Z.E) rfl Y.e.g rfl) pa_nil))) (pe_one (pe_not (pe_callB (kisV (K := K)) (by rfl) X.n_isinstance (by decide +kernel) (pa_cons (pv 9) (pa_cons (pe_glob (v := V.ref Z.D) rfl Y.d.g rfl) pa_nil))))))))) pss_nil)
  (pss_cons (ps_set (i := 10) sc__law_goes.nd rfl (Or.inl rfl) (pe_ix (kix_list (K := K)) (pe_ix (kix_tup (K := K)) (pe_call (ok__law_ways X) (hr.mono (by decide)) rfl X._law_ways.g X._law_ways.fn.kp X._law_ways.b .nil pass0 (pa_cons (pv 1) (pa_cons (pv 3) (pa_cons (pe_lst (pa_cons (pv 4) pa_nil)) pa_nil)))) pe_int (fun _ _ => rfl)) (pv 5) (fun _ _ => rfl)))
  (pss_cons (ps_if (pt_cmpR op_isN (pv 10) pe_non (nomark _)) (pss_one (ps_ret (pe_and (pe_cmpR op_eq (pe_ix (kix_tup (K := K)) (pv 7) pe_int (fun _ _ => rfl)) pe_str (nomark _)) (pe_and (pe_callB (kisV (K := K)) (by rfl) X.n_isinstance (by decide +kernel) (pa_cons (pv 9) (pa_cons (pe_glob (v := V.ref Z.D) rfl Y.d.g rfl) pa_nil))) (pe_one (pe_not (pe_callB (kisV (K := K)) (by rfl) X.n_isinstance (by decide +kernel) (pa_cons (pv 9) (pa_cons (pe_glob (v := V.ref Z.E) rfl Y.e.g rfl) pa_nil))))))))) pss_nil)
  (pss_one (ps_ret (pe_and (pe_cmpR op_eq (pe_ix (kix_tup (K := K)) (pv 7) pe_int (fun _ _ => rfl)) pe_str (nomark _)) (pe_and (pe_cmpR op_isN (pv 9) pe_non (nomark _)) (pe_and (pe_cmpR (keqD (K := K) (hu64 hr)) (pe_ix (kix_tup (K := K)) (pv 7) pe_int (fun _ _ => rfl)) (pe_call (ok__law_hw_neg X) (hr.mono (by decide)) rfl X._law_hw_neg.g X._law_hw_neg.fn.kp X._law_hw_neg.b .nil pass0 (pa_cons (pv 10) pa_nil)) (nomark _)) (pe_one (pe_cmpR (keqD (K := K) (hu64 hr)) (pe_call okl (hr.mono (by decide)) rfl X.least.g X.least.fn.kp X.least.b .nil passX0 (pa_cons (pv 6) pa_nil)) (pe_ix (kix_tup (K := K)) (pv 7) pe_int (fun _ _ => rfl)) (nomark _)))))))))))))))))), ?_⟩
      have nl : (1000 : Nat) ≤ sizeLine := by decide
      -- the graph
      refine seq_of (fun σ H1 => ∃ L xs as, σ = [some (.ref d), some (.int n), some (.int m), some (.ref L), none, none, none, none, none, none, none] ∧ Ex (TT1 Pc) (SD d g) H H1 ∧ StAt (k0 + 2000) d g c H1 ∧ H1 L = some (.lst xs) ∧ DpAll K H1 xs ((as : List Arc).map darc) ∧ Nw H L ∧ as.length = m ∧ ∀ a ∈ as, ArcOk n 1000 12 a) (fun N hN => ?_) ?_
      · exact ⟨_, rfl, _, rfl, _, rfl, d, g, c, k0, n, m, rfl, S, by omega, n1, n2, m2, fun L xs as H1 al ao ex1 S1 hL hxs nL => hN _ _ ⟨L, xs, as, rfl, ex1, S1, hL, hxs, nL, al, ao⟩⟩
      rintro σ H1 ⟨L, xs, as, rfl, ex1, S1, hL, hxs, nL, asl, aso⟩
      have dL := st_neN S nL
      -- first
      refine seq_of (fun σ H2 => ∃ f : Nat, f < n ∧ σ = [some (.ref d), some (.int n), some (.int m), some (.ref L), some (.int f), none, none, none, none, none, none] ∧ Ex (TT1 Pc) (SD d g) H1 H2 ∧ StAt (k0 + 2001) d g c H2) (fun N hN => ?_) ?_
      · refine ⟨_, rfl, _, rfl, d, g, c, _, _, rfl, S1, by omega, by omega, sm_of (by omega), fun o H2 o0 o1 ex2 S2 => hN _ _ ⟨o.toNat, by omega, ?_, ex2, S2.mono (by omega)⟩⟩
        rw [show ((o.toNat : Nat) : Int) = o by omega]; rfl
      rintro σ H2 ⟨f, hf, rfl, ex2, S2⟩
      -- last
      refine seq_of (fun σ H3 => ∃ l : Nat, l < n ∧ f ≠ l ∧ σ = [some (.ref d), some (.int n), some (.int m), some (.ref L), some (.int f), some (.int l), none, none, none, none, none] ∧ Ex (TT1 Pc) (SD d g) H1 H3 ∧ StAt (k0 + 2002) d g c H3) (fun N hN => ?_) ?_
      · refine ⟨_, rfl, _, _, rfl, rfl, _, rfl, _, rfl, _, _, rfl, rfl, d, g, c, _, _, rfl, S2, by omega, by omega, sm_of (by omega), fun t H3 t0 t1 ex3 S3 => ?_⟩
        refine ⟨_, _, rfl, rfl, .inl ⟨_, rfl, _, rfl, _, _, rfl, rfl, by omega, ?_⟩⟩
        have m0 : 0 ≤ ((f : Int) + 1 + t) % (n : Int) := Int.emod_nonneg _ (by omega)
        have m1' : ((f : Int) + 1 + t) % (n : Int) < n := Int.emod_lt_of_pos _ (by omega)
        refine hN _ _ ⟨(((f : Int) + 1 + t) % (n : Int)).toNat, by omega, ?_, ?_, ex2.trans ex3, S3.mono (by omega)⟩
        · have e : ((f : Int) + 1 + t) % (n : Int) = if (f : Int) + 1 + t < n then (f : Int) + 1 + t else (f : Int) + 1 + t - n := by
            split
            · exact Int.emod_eq_of_lt (by omega) (by omega)
            · rw [← Int.sub_emod_right]; exact Int.emod_eq_of_lt (by omega) (by omega)
          rw [e]; split <;> omega
        · rw [show (((((f : Int) + 1 + t) % (n : Int)).toNat : Nat) : Int) = ((f : Int) + 1 + t) % (n : Int) by omega]; rfl
      rintro σ H3 ⟨l, hl, fl, rfl, ex3, S3⟩
      have hL3 := sd_ne ex3 hL ⟨dL.1, dL.2.1⟩
      have hxs3 := dpAll_tu (ex3.tuSD S1) (flatAll_darc _) hxs
      -- program
      refine seq_of (fun σ H4 => ∃ vp lims, σ = [some (.ref d), some (.int n), some (.int m), some (.ref L), some (.int f), some (.int l), some vp, none, none, none, none] ∧ lims.Perm (heightsL n as f) ∧ Ex (TT1 Pc) (SD d g) H H4 ∧ StAt (k0 + 3000) d g c H4 ∧ H4 L = some (.lst xs) ∧ DpAll K H4 xs (as.map darc) ∧ Dp K H4 vp (dprog (heightsG n l) lims)) (fun N hN => ?_) ?_
      · refine ⟨_, rfl, _, rfl, _, rfl, _, rfl, _, rfl, d, g, c, L, _, n, f, l, xs, as, rfl, S3, by omega, hL3, hxs3, n1, n2, by omega, aso, fun v lims H4 pm ex4 S4 d4 => ?_⟩
        exact hN _ _ ⟨v, lims, rfl, pm, ex1.trans (ex3.trans ex4), S4.mono (by omega), sd_ne ex4 hL3 ⟨dL.1, dL.2.1⟩, dpAll_tu (ex4.tuSD S3) (flatAll_darc _) hxs3, d4⟩
      rintro σ H4 ⟨vp, lims, rfl, pm, ex4, S4, hL4, hxs4, dp4⟩
      have W := G n as f l lims n1 n2 (by omega) aso hf hl fl pm
      have hT4 := ex4.t hT
      -- told, is_below
      refine seq_of (fun σ H5 => ∃ vt a, σ = [some (.ref d), some (.int n), some (.int m), some (.ref L), some (.int f), some (.int l), some vp, some vt, some (.bl (waysK as (n + 1) (initW n (List.range n))).2), none, none] ∧ Run lims (heightsG n l) a ∧ Ex (TT1 Pc) No H4 H5 ∧ Dp K H5 vt (dans a)) (fun N hN => ?_) ?_
      · refine ⟨_, rfl, vp, _, lims, rfl, dp4, hT4, W.ans, fun a vt H5 ra ex5 d5 => ?_⟩
        have hL5 := ex5.lst hL4 id
        refine ⟨_, rfl, _, rfl, _, rfl, _, rfl, RgOk.of_le (by omega) (by omega) (by omega) (by omega), fun R hR => ?_⟩
        have exR : Ex (TT1 Pc) No H5 (upd H5 R (.lst (rgV 0 (n : Int)))) := Ex.new hR
        refine ⟨n, L, R, xs, as, List.range n, rfl, exR.lst hL5 id, dpAll_tu (ex5.trans exR).tu (flatAll_darc _) hxs4, by rw [← rg_ints]; exact .inl (.inl upd_same), n2, by omega, aso, fun t F ys H6 ex6 ht hF hys => ?_⟩
        refine ⟨t, _, _, _, rfl, rfl, ht, rfl, _, _, rfl, ?_⟩
        exact hN _ _ ⟨vt, a, rfl, ra, ex5.trans (exR.trans ex6), dp_tu (exR.trans ex6).tu (flat_dans _) d5⟩
      rintro σ H5 ⟨vt, a, rfl, ra, ex5, dt⟩
      obtain ⟨is1, mx1⟩ := W.one a ra
      have kd := W.kind a ra
      have dp5 := dp_tu ex5.tu (flat_dprog _ _) dp4
      -- the answer holds
      refine seq_of (fun σ H6 => σ = [some (.ref d), some (.int n), some (.int m), some (.ref L), some (.int f), some (.int l), some vp, some vt, some (.bl (waysK as (n + 1) (initW n (List.range n))).2), none, none] ∧ Ex (TT1 Pc) No H5 H6) (fun N hN => ?_) ?_
      · refine ⟨_, rfl, vp, _, _, rfl, dp5, W.ans.prog, fun H6 ex6 => ⟨true, true, rfl, rfl, _, rfl, iteN (by decide) ?_⟩⟩
        refine ⟨_, rfl, _, rfl, vp, vt, _, lims, a, rfl, dp_tu ex6.tu (flat_dprog _ _) dp5, dp_tu ex6.tu (flat_dans _) dt, is1, fun H7 ex7 => ⟨true, true, rfl, rfl, _, rfl, iteN (by decide) ?_⟩⟩
        have exA := ex6.trans ex7
        exact ⟨_, rfl, _, rfl, vp, vt, _, lims, a, rfl, dp_tu exA.tu (flat_dprog _ _) dp5, dp_tu exA.tu (flat_dans _) dt, is1, mx1, fun H8 ex8 => ⟨_, rfl, iteN (by decide) (hN _ _ ⟨rfl, exA.trans ex8⟩)⟩⟩
      rintro σ H6 ⟨rfl, ex6⟩
      have ex56 := ex5.trans ex6
      -- caught
      refine seq_of (fun σ H7 => ∃ vc a', σ = [some (.ref d), some (.int n), some (.int m), some (.ref L), some (.int f), some (.int l), some vp, some vt, some (.bl (waysK as (n + 1) (initW n (List.range n))).2), some vc, none] ∧ Run lims (heightsG n l) a' ∧ Ex (TT1 Pc) No H6 H7 ∧ Caught Z H7 vc a') (fun N hN => ?_) ?_
      · refine ⟨ex56.t hT4, fun H7 eN T7 => ?_⟩
        have ex7 : Ex (TT1 Pc) No H6 H7 := extN_ex eN T7
        refine ⟨_, rfl, vp, _, lims, rfl, dp_tu (ex6.trans ex7).tu (flat_dprog _ _) dp5, T7, W.ans, fun a' H8 ra' ex8 => ?_⟩
        have exA := ex7.trans ex8
        cases a' with
        | best q xs p => exact fun v dv => ⟨_, rfl, hN _ _ ⟨.non, _, rfl, ra', exA, rfl⟩⟩
        | empty p => exact ⟨Y.eP, rfl, fun e ne => hN _ _ ⟨.ref e, _, rfl, ra', exA.trans (Ex.new ne), e, rfl, upd_same⟩⟩
        | endless xs ys => exact ⟨Y.dP, rfl, fun e ne => hN _ _ ⟨.ref e, _, rfl, ra', exA.trans (Ex.new ne), e, rfl, upd_same⟩⟩
      rintro σ H7 ⟨vc, a', rfl, ra', ex7, cc⟩
      have kd' := W.kind a' ra'
      have dt7 := dp_tu (ex6.trans ex7).tu (flat_dans _) dt
      have ex57 := ex56.trans ex7
      have fin : ∀ H8, Ex (TT1 Pc) No H7 H8 → Q (.bl true) H8 := fun H8 ex8 => k H8 (ex4.trans (ex57.trans ex8).of_no) (S4.no (ex57.trans ex8))
      cases hb : (waysK as (n + 1) (initW n (List.range n))).2 with
      | true =>
        rw [hb] at kd kd'
        cases a with
        | best q xs p => exact absurd kd.1 (by decide)
        | endless xs ys => exact absurd kd.1 (by decide)
        | empty p =>
          cases a' with
          | best q xs p => exact absurd kd'.1 (by decide)
          | endless xs ys => exact absurd kd'.1 (by decide)
          | empty p' =>
            obtain ⟨e, rfl, he⟩ := cc
            obtain ⟨t, va, rfl, ht, ha⟩ := dp_empty dt7
            refine ⟨_, rfl, _, rfl, iteY (by decide) ?_⟩
            refine ⟨_, rfl, t, _, _, _, rfl, rfl, ht, at0_cons, rfl, _, rfl, iteYd rfl ?_⟩
            refine ⟨_, rfl, e, Z.E, _, _, _, rfl, he, Y.ce, fun u hu => hu, Y.ee, _, rfl, iteT ?_⟩
            exact ⟨_, rfl, e, Z.E, _, _, _, rfl, he, Y.ce, fun u hu => hu, Y.ed, _, rfl, fin _ Ex.refl⟩
      | false =>
        rw [hb] at kd kd'
        refine seq_of (fun σ H8 => σ = [some (.ref d), some (.int n), some (.int m), some (.ref L), some (.int f), some (.int l), some vp, some vt, some (.bl false), some vc, none] ∧ H7 = H8) (fun N hN => ⟨_, rfl, _, rfl, iteN (by decide) (hN _ _ ⟨rfl, rfl⟩)⟩) ?_
        rintro σ _ ⟨rfl, rfl⟩
        have exF := ex57
        have hL7 := ex57.lst hL4 id
        have hxs7 := dpAll_tu ex57.tu (flatAll_darc _) hxs4
        -- length
        refine seq_of (fun σ H8 => ∃ vl, σ = [some (.ref d), some (.int n), some (.int m), some (.ref L), some (.int f), some (.int l), some vp, some vt, some (.bl false), some vc, some vl] ∧ Ex (TT1 Pc) No H7 H8 ∧ Dp K H8 vl (dopt (dat (waysK as (n + 1) (initW n [f])).1 l))) (fun N hN => ?_) ?_
        · refine ⟨_, rfl, _, rfl, _, rfl, by show 1 ≤ sizeLine; decide, fun R hR => ?_⟩
          have exR : Ex (TT1 Pc) No H7 (upd H7 R (.lst [.int (f : Nat)])) := Ex.new hR
          refine ⟨n, L, R, xs, as, [f], rfl, exR.lst hL7 id, dpAll_tu exR.tu (flatAll_darc _) hxs7, .inl (.inl upd_same), n2, by omega, aso, fun t F ys H8 ex8 ht hF hys => ?_⟩
          obtain ⟨vl, gvl, dvl⟩ := dpAll_at hys (show l < (waysK as (n + 1) (initW n [f])).1.length by rw [ways_len, init_len]; exact hl)
          refine ⟨t, _, _, _, rfl, rfl, ht, at0_cons, _, rfl, F, _, _, _, rfl, rfl, .inl (.inl hF), atI_nat gvl, ?_⟩
          exact hN _ _ ⟨vl, rfl, exR.trans ex8, dvl⟩
        rintro σ H8 ⟨vl, rfl, ex8, dvl⟩
        have dt8 := dp_tu ex8.tu (flat_dans _) dt7
        refine ⟨_, rfl, rfl, _, rfl, ?_⟩
        cases hl2 : dat (waysK as (n + 1) (initW n [f])).1 l with
        | none =>
          rw [hl2] at dvl kd kd'
          cases dvl
          refine iteYd rfl ?_
          cases a with
          | best q xs p => obtain ⟨_, _, z, _⟩ := kd; cases z
          | empty p => exact absurd kd (by intro z; cases z)
          | endless xs ys =>
            cases a' with
            | best q xs p => obtain ⟨_, _, z, _⟩ := kd'; cases z
            | empty p => exact absurd kd' (by intro z; cases z)
            | endless xs' ys' =>
              obtain ⟨e, rfl, he⟩ := cc
              have he8 := extV_keep ex8 he
              obtain ⟨t, va, vb, rfl, ht, ha, hbb⟩ := dp_endless dt8
              refine ⟨_, rfl, t, _, _, _, rfl, rfl, ht, at0_cons, rfl, _, rfl, iteYd rfl ?_⟩
              refine ⟨_, rfl, e, Z.D, _, _, _, rfl, he8, Y.cd, fun u hu => hu, Y.dd, _, rfl, iteT ?_⟩
              exact ⟨_, rfl, e, Z.D, _, _, _, rfl, he8, Y.cd, fun u hu => hu, Y.de, _, rfl, fin _ ex8⟩
        | some x =>
          rw [hl2] at dvl kd kd'
          obtain ⟨pl, rfl, hpl⟩ := dp_q dvl
          refine iteNd (by intro z; cases z) ?_
          cases a with
          | empty p => exact absurd kd (by intro z; cases z)
          | endless xs ys => obtain ⟨_, z⟩ := kd; cases z
          | best q xs p =>
            obtain ⟨_, x1, e1, rfl⟩ := kd
            cases e1
            cases a' with
            | empty p => exact absurd kd' (by intro z; cases z)
            | endless xs ys => obtain ⟨_, z⟩ := kd'; cases z
            | best q2 xs2 p2 =>
              obtain rfl : vc = .non := cc
              obtain ⟨t, va, vb, vcc, rfl, ht, ha, hbb, hcc⟩ := dp_best dt8
              refine ⟨_, rfl, t, _, _, _, rfl, rfl, ht, at0_cons, rfl, _, rfl, iteYd rfl ?_⟩
              refine ⟨_, rfl, rfl, _, rfl, iteYd rfl ?_⟩
              refine ⟨_, rfl, t, _, _, _, rfl, rfl, ht, rfl, _, rfl, .ref pl, x, rfl, dvl, fun v9 H9 ex9 d9 => ?_⟩
              refine ⟨_, _, dp_tu ex9.tu rfl ha, d9, sh_q _, sh_q _, ?_⟩
              rw [eqv_refl (flat_dq (-x))]
              refine ⟨_, rfl, iteT ?_⟩
              have ex79 := ex8.trans ex9
              have ex49 := ex57.trans ex79
              refine ⟨_, rfl, vp, _, lims, rfl, dp_tu ((ex6.trans ex7).trans ex79).tu (flat_dprog _ _) dp5, ex49.t hT4, W.ans, fun a3 H10 ra3 ex10 => ?_⟩
              have kd3 := W.kind a3 ra3
              rw [hb, hl2] at kd3
              cases a3 with
              | empty p => exact absurd kd3 (by intro z; cases z)
              | endless xs ys => obtain ⟨_, z⟩ := kd3; cases z
              | best q3 xs3 p3 =>
                obtain ⟨_, x1, e1, rfl⟩ := kd3
                cases e1
                intro v11 d11
                refine ⟨_, rfl, t, _, _, _, rfl, rfl, (ex9.trans ex10).sqT ht, rfl, _, _, d11, dp_tu (ex9.trans ex10).tu rfl ha, sh_q _, sh_q _, ?_⟩
                rw [eqv_refl (flat_dq (-x))]
                exact fin _ (ex79.trans ex10)
    obtain ⟨t, ht, q⟩ := key
    exact ⟨t, ht.nox, q⟩
end WB
end

section
set_option Elab.async false
set_option linter.all false
set_option maxRecDepth 100000
set_option maxHeartbeats 2000000
set_option exponentiation.threshold 1000000
namespace WB
open PySem PySem.Spec PyProof.Rows L2 LamX LP
variable {P : Program} {w : World} {K : PySem.W.Frag} {mg : Str → Option Value} {base : Heap} {A : LPA} {B : LawA} {T : List (Addr × Str)} {Pc : Addr}
section
variable (K Pc)
def sp_law : Sp := fun vs H Q _ => ∃ a ns, vs = [.ref a] ∧ SqL K H a ((ns : List Int).map V.int) ∧ ns.length ≤ sizeLine ∧ Tabs (TT1 Pc) H ∧ ∀ H', Q (.bl true) H'
end
theorem ok_law (X : LawTxt K mg A B) (TB : TabB base mg A.code Pc) {Z : ExcA} (Y : ExcT K mg Z) {cg Pg : Addr} (FC : FunC K "_law_goes" "_law_goes" s__law_goes B._law_goes cg) (TB2 : TabB base mg cg Pg) (hm2 : (Pg, goesLam) ∈ TT1 Pc) (hu2 : ∀ p ∈ TT1 Pc, p.1 = Pg → p.2 = goesLam)
    (G : ∀ (n : Nat) (as : List Arc) (f l : Nat) (lims : Lims), 2 ≤ n → n ≤ 24 → as.length ≤ 120 → (∀ a ∈ as, ArcOk n 1000 12 a) → f < n → l < n → f ≠ l → lims.Perm (heightsL n as f) → WaysOk n as f l lims) :
    FnOk P w K mg base CX0 12 B.law.1 B.law.2 ["script"] (sp_law K Pc) := by
  refine X.law.fn.ok sc_law (fun vs H Q E h => ?_) (fun cdv A' outer s H vs Q E hr h => ?_)
  · obtain ⟨_, _, rfl, _⟩ := h; rfl
  · obtain ⟨a, ns, rfl, ha, hn, hT, k⟩ := h
    have ok__law_begun : ∀ {P : Program} {w : World} {base : Heap} (X : LawTxt K mg A B), FnOk P w K mg base CX0 1 B._law_begun.1 B._law_begun.2 ["script"] (sp_begun K (TT1 Pc)) := fun X => ok__law_begun X
    have ok__law_draw : ∀ {P : Program} {w : World} {base : Heap} (X : LawTxt K mg A B), FnOk P w K mg base CX0 2 B._law_draw.1 B._law_draw.2 ["state", "room"] (sp_draw (TT1 Pc)) := fun X => ok__law_draw X
    have ok__law_goes : ∀ (X : LawTxt K mg A B), FnOk P w K mg base CX0 11 B._law_goes.1 B._law_goes.2 ["draws", "knots", "many"] (sp_wgoes Pc) := fun X => ok__law_goes X TB Y FC TB2 hm2 hu2 G
    refine ⟨_, (pss_cons (ps_set (i := 1) sc_law.nd rfl (Or.inl rfl) (pe_call (ok__law_begun X) (hr.mono (by decide)) rfl X._law_begun.g X._law_begun.fn.kp X._law_begun.b .nil pass0 (pa_cons (pv 0) pa_nil)))
  (pss_cons (ps_for PassesOwn.never rfl (pi_range1 rfl X.n_range (pa_cons (pe_op op_add pe_int (pe_callB (call_min2 rfl) (by rfl) X.n_min (by decide +kernel) (pa_cons (pe_callB (klen (K := K)) (by rfl) X.n_len (by decide +kernel) (pa_cons (pv 0) pa_nil)) (pa_cons pe_int pa_nil)))) pa_nil)) (pg_name (i := 2) sc_law.nd rfl (Or.inl rfl)) (pss_cons (ps_set (i := 3) sc_law.nd rfl (Or.inl rfl) (pe_op op_add pe_int (pe_call (ok__law_draw X) (hr.mono (by decide)) rfl X._law_draw.g X._law_draw.fn.kp X._law_draw.b .nil pass0 (pa_cons (pv 1) (pa_cons pe_int pa_nil)))))
  (pss_one (ps_if (pt_not (pt_val (pe_call (ok__law_goes X) (hr.mono (by decide)) rfl X._law_goes.g X._law_goes.fn.kp X._law_goes.b .nil pass0 (pa_cons (pv 1) (pa_cons (pv 3) (pa_cons (pe_op op_add pe_int (pe_call (ok__law_draw X) (hr.mono (by decide)) rfl X._law_draw.g X._law_draw.fn.kp X._law_draw.b .nil pass0 (pa_cons (pv 1) (pa_cons (pe_op op_mul pe_int (pv 3)) pa_nil)))) pa_nil)))))) (pss_one (ps_ret pe_bl)) pss_nil))))
  (pss_one (ps_ret (pe_or (pe_cmpR op_gt (pe_call (ok__law_draw X) (hr.mono (by decide)) rfl X._law_draw.g X._law_draw.fn.kp X._law_draw.b .nil pass0 (pa_cons (pv 1) (pa_cons pe_int pa_nil))) pe_int (nomark _)) (pe_one (pe_call (ok__law_goes X) (hr.mono (by decide)) rfl X._law_goes.g X._law_goes.fn.kp X._law_goes.b .nil pass0 (pa_cons (pv 1) (pa_cons pe_int (pa_cons (pe_op op_add pe_int (pe_call (ok__law_draw X) (hr.mono (by decide)) rfl X._law_draw.g X._law_draw.fn.kp X._law_draw.b .nil pass0 (pa_cons (pv 1) (pa_cons pe_int pa_nil)))) pa_nil)))))))))), ?_⟩
    have nl : (1000 : Nat) ≤ sizeLine := by decide
    refine seq_of (fun σ H1 => ∃ d g c, σ = [some (.ref a), some (.ref d), none, none] ∧ Ex (TT1 Pc) No H H1 ∧ StAt 0 d g c H1) (fun N hN => ?_) ?_
    · exact ⟨_, rfl, a, ns, rfl, ha, hn, fun d g c H1 ex1 S1 _ _ => hN _ _ ⟨d, g, c, rfl, ex1, S1⟩⟩
    rintro σ H1 ⟨d, g, c, rfl, ex1, S1⟩
    refine seq_of (fun σ H2 => ∃ e2 e3, σ = [some (.ref a), some (.ref d), e2, e3] ∧ Tabs (TT1 Pc) H2 ∧ StAt 30000 d g c H2) (fun N hN => ?_) ?_
    · refine ⟨_, rfl, a, _, rfl, .inl (ex1.sqL ha), _, _, rfl, _, _, rfl, rfl, ?_⟩
      obtain ⟨m, hm, hm7⟩ : ∃ m : Nat, (2 + (if (4 : Int) < (((ns.map V.int).length : Nat) : Int) then (4 : Int) else (((ns.map V.int).length : Nat) : Int))) = ((m : Nat) : Int) ∧ m ≤ 6 := by
        split
        · exact ⟨6, rfl, by omega⟩
        · exact ⟨2 + (ns.map V.int).length, by omega, by omega⟩
      refine ⟨((m : Nat) : Int), congrArg (fun i => [V.int i]) hm, by omega, by omega, for_src (src_range (lo := 0) (n := m)) (fun i σ H2 => ∃ e2 e3, σ = [some (.ref a), some (.ref d), e2, e3] ∧ Tabs (TT1 Pc) H2 ∧ StAt (3002 * i) d g c H2) ⟨_, _, rfl, ex1.t hT, S1⟩ (fun _ _ _ _ _ => trivial) ?_ (fun σ H2 ⟨e2, e3, h1, h2, h3⟩ => hN _ _ ⟨e2, e3, h1, h2, h3.mono (by omega)⟩)⟩
      rintro i v σ H0 H2 hi ⟨e2, e3, rfl, hT2, S2⟩ ⟨rfl, rfl⟩
      refine seq_of (fun σ H3 => ∃ n : Nat, 2 ≤ n ∧ n ≤ 10 ∧ σ = [some (.ref a), some (.ref d), some (.int (0 + (i : Nat))), some (.int n)] ∧ Tabs (TT1 Pc) H3 ∧ StAt (3002 * i + 1) d g c H3) (fun N hN => ?_) ?_
      · refine ⟨_, rfl, d, g, c, _, 9, rfl, S2, by omega, by omega, sm_of (by decide), fun o H3 o0 o1 ex3 S3 => ⟨_, _, rfl, rfl, hN _ _ ⟨(2 + o).toNat, by omega, by omega, ?_, ex3.t hT2, S3⟩⟩⟩
        rw [show (((2 + o).toNat : Nat) : Int) = 2 + o by omega]; rfl
      rintro σ H3 ⟨n, n1, n2, rfl, hT3, S3⟩
      refine ⟨_, rfl, _, rfl, _, rfl, _, rfl, _, _, rfl, rfl, .inl ⟨by decide, by decide⟩, d, g, c, _, _, rfl, S3, by omega, by omega, sm_of (by omega), fun o H4 o0 o1 ex4 S4 => ?_⟩
      refine ⟨_, _, rfl, rfl, d, g, c, _, n, (1 + o).toNat, ?_, S4, by omega, n1, by omega, by omega, by omega, ex4.t hT3, fun H5 ex5 S5 => ?_⟩
      · rw [show (((1 + o).toNat : Nat) : Int) = 1 + o by omega]; rfl
      · exact ⟨_, rfl, iteN (by decide) ⟨_, _, rfl, ex5.t (ex4.t hT3), S5.mono (by omega)⟩⟩
    rintro σ H2 ⟨e2, e3, rfl, hT2, S2⟩
    refine ⟨_, rfl, d, g, c, _, 4, rfl, S2, by omega, by omega, sm_of (by decide), fun o H3 o0 o1 ex3 S3 => ?_⟩
    refine ⟨_, _, rfl, rfl, _, rfl, ite2 (fun z => k _) (fun z => ?_)⟩
    refine ⟨_, rfl, _, rfl, d, g, c, _, 61, rfl, S3, by omega, by omega, sm_of (by decide), fun o2 H4 p0 p1 ex4 S4 => ?_⟩
    refine ⟨_, _, rfl, rfl, d, g, c, _, 24, (60 + o2).toNat, ?_, S4, by omega, by omega, by omega, by omega, by omega, ex4.t (ex3.t hT2), fun H5 ex5 S5 => k _⟩
    rw [show (((60 + o2).toNat : Nat) : Int) = 60 + o2 by omega]; rfl
end WB
end

section
set_option autoImplicit false
set_option exponentiation.threshold 1000000
namespace LP
open WB PySem PySem.Spec PyProof.Rows L2 LamX
/-! ### from valid answers to what the program asks, by multiples and magnitudes -/
theorem rows_get {lims : Lims} {k : Nat} {l : List Rat × Rat} (e : lims[k]? = some l) (r : Nat) : rowsA lims k r = at0 l.1 r ∧ bdsB lims k = l.2 := by
  unfold rowsA bdsB; rw [List.getD_eq_getElem?_getD, e]; exact ⟨rfl, rfl⟩
theorem row_sum' {lims : Lims} {x : List Rat} {n : Nat} {l : List Rat × Rat} {k : Nat} (wl : l.1.length = n) (xl : x.length = n) (e : lims[k]? = some l) :
    sumL (dotP l.1 x) = sumQ n (fun r => rowsA lims k r * at0 x r) := by
  rw [sum_dot wl xl]
  exact sumQ_congr2 fun r _ => by rw [(rows_get e r).1]
theorem nn_of {p : List Rat} (h : ∀ k, 0 ≤ at0 p k) : ∀ r ∈ p, 0 ≤ r := fun r hr => by
  obtain ⟨k, hk, rfl⟩ := List.getElem_of_mem hr
  have := h k
  unfold at0 at this
  rwa [List.getD_eq_getElem?_getD, List.getElem?_eq_getElem hk] at this
theorem at0_bds {lims : Lims} {k : Nat} : at0 (lims.map (·.2)) k = bdsB lims k := by
  unfold at0 bdsB
  rw [List.getD_eq_getElem?_getD, List.getElem?_map, List.getD_eq_getElem?_getD]
  cases lims[k]? <;> rfl
theorem bd_sum {p : List Rat} {lims : Lims} (pl : p.length = lims.length) : bdOf p lims = sumQ lims.length fun k => at0 p k * bdsB lims k := by
  show sumL (dotP p (lims.map (·.2))) = _
  rw [sum_dot pl (List.length_map ..)]
  exact sumQ_congr2 fun k _ => by rw [at0_bds]
theorem mix_len {p : List Rat} {goal : List Rat} {lims : Lims} (h : ∀ l ∈ lims, l.1.length = goal.length) :
    (mixOf p lims goal.length).length = goal.length ∧ ∀ j, j < goal.length → at0 (mixOf p lims goal.length) j = 0 + sumL ((p.zip (lims.map (·.1))).map fun q => q.1 * at0 q.2 j) := by
  obtain ⟨r1, r2⟩ := at0_mixFrom (ps := p.zip (lims.map (·.1))) (acc := List.replicate goal.length 0) fun q hq => by
    have : q.2 ∈ lims.map (·.1) := (List.of_mem_zip (show (q.1, q.2) ∈ _ from hq)).2
    obtain ⟨l, hl, e⟩ := List.mem_map.mp this
    rw [← e, List.length_replicate]
    exact h l hl
  rw [List.length_replicate] at r1 r2
  refine ⟨r1, fun j hj => ?_⟩
  rw [r2 j hj, at0_rep]
theorem mix_at {p : List Rat} {goal : List Rat} {lims : Lims} (h : ∀ l ∈ lims, l.1.length = goal.length) (pl : p.length = lims.length) {j : Nat} (hj : j < goal.length) :
    at0 (mixOf p lims goal.length) j = sumQ lims.length fun k => at0 p k * rowsA lims k j := by
  rw [(mix_len h).2 j hj]
  have e : (p.zip (lims.map (·.1))).map (fun q => q.1 * at0 q.2 j) = colP p (rowsOf lims) j := by
    unfold colP rowsOf List.zip
    rw [List.map_zipWith]
  rw [e, sumL_sumQ]
  have el : (colP p (rowsOf lims) j).length = lims.length := by unfold colP rowsOf; rw [List.length_zipWith, List.length_map]; omega
  rw [el, sumQ_congr2 fun k hk => at0_col pl hk]
  grind
theorem mixC_len {p : List Rat} {rows : List (List Rat)} {n : Nat} : (mixC p rows n).length = n := by unfold mixC; rw [List.length_map, List.length_range]
/-- the multiples and magnitudes of a program -/
structure Num2 (goal : List Rat) (lims : Lims) (Ua Va Ub Vb Ug Vg : Nat) : Prop where
  n1 : 1 ≤ goal.length
  n2 : goal.length ≤ 40
  N1 : 1 ≤ lims.length
  N2 : lims.length ≤ 200
  w : ∀ l ∈ lims, l.1.length = goal.length
  a : ∀ l ∈ lims, ∀ q ∈ l.1, MA Ua Va q
  b : ∀ l ∈ lims, MA Ub Vb l.2
  g : ∀ q ∈ goal, MA Ug Vg q
  pa : 0 < Ua
  pb : 0 < Ub
  pg : 0 < Ug
  ba : Ua ≤ 2 ^ 200
  bb : Ub ≤ 2 ^ 200
  bg : Ug ≤ 2 ^ 200
  ca : Va ≤ 2 ^ 200
  cb : Vb ≤ 2 ^ 200
  cg : Vg ≤ 2 ^ 200
/-- a vector's multiple and magnitude -/
structure Vec2 (p : List Rat) : Prop where
  ex : ∃ U V, 0 < U ∧ U ≤ 2 ^ 3500 ∧ V ≤ 2 ^ 9000 ∧ ∀ q ∈ p, MA U V q
section
variable {goal : List Rat} {lims : Lims} {Ua Va Ub Vb Ug Vg : Nat}
theorem Num2.prog (h : Num2 goal lims Ua Va Ub Vb Ug Vg) : ProgOk goal lims := ⟨h.n1, h.n2, h.N2, h.w⟩
theorem mix_ma {U Ua V Va : Nat} (hU : 0 < U) (hUa : 0 < Ua) (bU : U ≤ 2 ^ 3500) (bUa : Ua ≤ 2 ^ 200) (bV : V ≤ 2 ^ 9000) (bVa : Va ≤ 2 ^ 200) : ∀ {ps : List (Rat × List Rat)} {acc : List Rat} {k : Nat}, (∀ p ∈ ps, p.2.length = acc.length ∧ MA U V p.1 ∧ ∀ q ∈ p.2, MA Ua Va q) → (∀ q ∈ acc, MA (U * Ua) (k * (V * Va)) q) → k + ps.length ≤ 200 → MixOk acc ps
  | [], _, _, _, _, _ => trivial
  | p :: ps, acc, k, h, ha, hk => by
    obtain ⟨hp, b1, b2⟩ := h p List.mem_cons_self
    rw [List.length_cons] at hk
    have uu : U * Ua ≤ 2 ^ 3700 := by rw [show (3700 : Nat) = 3500 + 200 from rfl, Nat.pow_add]; exact Nat.mul_le_mul bU bUa
    have vv : V * Va ≤ 2 ^ 9200 := by rw [show (9200 : Nat) = 9000 + 200 from rfl, Nat.pow_add]; exact Nat.mul_le_mul bV bVa
    have kv : ∀ {j : Nat}, j ≤ 200 → j * (V * Va) ≤ 2 ^ 9208 := fun {j} hj => by
      rw [show (9208 : Nat) = 8 + 9200 from rfl, Nat.pow_add]
      exact Nat.mul_le_mul (by omega) vv
    have tm : ∀ j, j < acc.length → MA (U * Ua) (V * Va) (at0 (sclL p.1 p.2) j) := fun j hj => by
      rw [at0_scl (by omega)]
      exact ma_mul b1 (ma_at b2 j)
    have e : (addL acc (sclL p.1 p.2)).length = acc.length := by unfold addL sclL; rw [List.length_zipWith, List.length_map]; omega
    refine ⟨fun i hi => ma_times b1 (ma_at b2 i) hU hUa bU bUa bV bVa (by omega) (by omega) (by omega), fun i hi _ => ma_plus (ma_at ha i) (tm i hi) (Nat.mul_pos hU hUa) uu (kv (by omega)) (Nat.le_trans vv (two_le (by omega))) (by omega) (by omega), hp, ?_⟩
    refine mix_ma hU hUa bU bUa bV bVa (k := k + 1) (fun q hq => ?_) (fun q hq => ?_) (by omega)
    · rw [e]; exact h q (List.mem_cons_of_mem _ hq)
    · obtain ⟨i, hi, rfl⟩ := List.getElem_of_mem hq
      have hi' : i < acc.length := by omega
      have := ma_add (ma_at ha i) (tm i hi')
      rw [← Nat.succ_mul] at this
      have e2 : at0 (addL acc (sclL p.1 p.2)) i = at0 acc i + at0 (sclL p.1 p.2) i := by
        unfold addL
        exact at0_zip hi' (by unfold sclL; rw [List.length_map]; omega)
      rw [← e2] at this
      unfold at0 at this
      rwa [List.getD_eq_getElem?_getD, List.getElem?_eq_getElem hi] at this
theorem Num2.sum {p : List Rat} (h : Num2 goal lims Ua Va Ub Vb Ug Vg) (pl : p.length = lims.length) (hp : Vec2 p) : SumOk p lims goal.length := by
  obtain ⟨U, V, u0, u1, v1, hq⟩ := hp
  have n1 := h.n1; have n2 := h.n2; have N1 := h.N1; have N2 := h.N2
  refine ⟨pl, fun z => by rw [z] at N1; simp at N1, Nat.le_trans (show lims.length ≤ 1000 by omega) (by decide), h.w, n1, by omega, ?_, ?_⟩
  · refine mix_ma (k := 0) u0 h.pa u1 h.ba v1 h.ca (fun q hq' => ?_) (fun q hq' => ?_) ?_
    · obtain ⟨i, hi, rfl⟩ := List.getElem_of_mem hq'
      rw [List.getElem_zip]
      have hi2 : i < lims.length := by rw [List.length_zip, List.length_map] at hi; omega
      have hm := List.getElem_mem (l := lims) hi2
      refine ⟨?_, hq _ (List.getElem_mem _), ?_⟩
      · rw [List.getElem_map, List.length_replicate]; exact h.w _ hm
      · rw [List.getElem_map]; exact h.a _ hm
    · rw [List.eq_of_mem_replicate hq']; exact ma_zero _ _
    · rw [List.length_zip, List.length_map]; omega
  · exact (dot_ma u0 h.pb u1 h.bb v1 h.cb (by omega) (by omega) (by omega) hq (fun q hq' => by obtain ⟨l, hl, rfl⟩ := List.mem_map.mp hq'; exact h.b l hl)).1
theorem Num2.within {x : List Rat} (h : Num2 goal lims Ua Va Ub Vb Ug Vg) (xl : x.length = goal.length) (hx : Vec2 x) (f : ∀ k, k < lims.length → bdsB lims k ≤ sumQ goal.length fun r => rowsA lims k r * at0 x r) : WithinOk lims x := by
  obtain ⟨U, V, u0, u1, v1, hq⟩ := hx
  have n2 := h.n2; have N2 := h.N2
  have line : (1000 : Nat) ≤ sizeLine := by decide
  have dd := fun l hl => dot_ma h.pa u0 h.ba u1 h.ca v1 (show (List.length (Prod.fst l)) ≤ 2 ^ 8 by rw [h.w l hl]; omega) (by omega) (by omega) (h.a l hl) hq
  refine ⟨fun l hl => by rw [h.w l hl, xl], by omega, by omega, fun l hl => (dd l hl).1, fun l hl => ⟨?_, ma_fits (h.b l hl) h.pb h.bb h.cb (by omega)⟩, fun l hl => ?_⟩
  · refine ma_fits (b := 3700) (c := 9208) (dd l hl).2 (Nat.mul_pos h.pa u0) ?_ ?_ (by omega)
    · rw [show (3700 : Nat) = 200 + 3500 from rfl, Nat.pow_add]; exact Nat.mul_le_mul h.ba u1
    · rw [show (9208 : Nat) = 8 + (200 + 9000) from rfl, Nat.pow_add 2 8, Nat.pow_add 2 200]; exact Nat.mul_le_mul_left _ (Nat.mul_le_mul h.ca v1)
  · obtain ⟨k, hk, e⟩ := List.getElem_of_mem hl
    have e2 : lims[k]? = some l := by rw [List.getElem?_eq_getElem hk, e]
    rw [row_sum' (h.w l hl) xl e2, ← (rows_get e2 0).2]
    exact f k hk
theorem Num2.mixc {p : List Rat} (h : Num2 goal lims Ua Va Ub Vb Ug Vg) (hp : Vec2 p) : MixCOk p (rowsOf lims) goal.length := by
  obtain ⟨U, V, u0, u1, v1, hq⟩ := hp
  have N2 := h.N2
  have uu : U * Ua ≤ 2 ^ 3700 := by rw [show (3700 : Nat) = 3500 + 200 from rfl, Nat.pow_add]; exact Nat.mul_le_mul u1 h.ba
  have vv : V * Va ≤ 2 ^ 9200 := by rw [show (9200 : Nat) = 9000 + 200 from rfl, Nat.pow_add]; exact Nat.mul_le_mul v1 h.ca
  have hr : ∀ k j, MA Ua Va (at0 ((rowsOf lims).getD k []) j) := fun k j => by
    refine ma_at (fun q hq => ?_) j
    rw [List.getD_eq_getElem?_getD] at hq
    unfold rowsOf at hq
    rw [List.getElem?_map] at hq
    cases e : lims[k]? with
    | none => rw [e] at hq; simp at hq
    | some l => rw [e] at hq; exact h.a l (List.mem_of_getElem? e) q hq
  refine ⟨fun at_ _ k _ _ => ma_times (ma_at hq k) (hr k at_) u0 h.pa u1 h.ba v1 h.ca (by omega) (by omega) (by omega), fun at_ _ => (tot_ma (U := U * Ua) (V := V * Va) (c := 9208) (Nat.mul_pos u0 h.pa) uu (by omega) (by omega) ?_ (Nat.le_trans vv (two_le (by omega))) fun x hx => ?_).1⟩
  · have : (colP p (rowsOf lims) at_).length ≤ 2 ^ 8 := by unfold colP rowsOf; rw [List.length_zipWith, List.length_map]; omega
    rw [show (9208 : Nat) = 8 + 9200 from rfl, Nat.pow_add]
    exact Nat.mul_le_mul this vv
  · unfold colP at hx
    rw [List.mem_iff_getElem?] at hx
    obtain ⟨i, e⟩ := hx
    rw [List.getElem?_zipWith] at e
    cases e1 : p[i]? with
    | none => rw [e1] at e; cases e
    | some x1 =>
      cases e2 : (rowsOf lims)[i]? with
      | none => rw [e1, e2] at e; cases e
      | some y1 =>
        rw [e1, e2] at e
        cases e
        have := hr i at_
        rw [List.getD_eq_getElem?_getD, e2] at this
        exact ma_mul (hq _ (List.mem_of_getElem? e1)) this
/-- every valid answer of small vectors is an answer -/
def VecA : Ans → Prop
  | .best _ x p => Vec2 x ∧ Vec2 p
  | .empty p => Vec2 p
  | .endless x y => Vec2 x ∧ Vec2 y
theorem Num2.dotG {x : List Rat} (h : Num2 goal lims Ua Va Ub Vb Ug Vg) (hx : Vec2 x) : DotOk goal x := by
  obtain ⟨U, V, u0, u1, v1, hq⟩ := hx
  have n2 := h.n2
  exact (dot_ma h.pg u0 h.bg u1 h.cg v1 (by omega) (by omega) (by omega) h.g hq).1
theorem Num2.dotR {x : List Rat} (h : Num2 goal lims Ua Va Ub Vb Ug Vg) (hx : Vec2 x) {l : List Rat × Rat} (hl : l ∈ lims) : DotOk l.1 x := by
  obtain ⟨U, V, u0, u1, v1, hq⟩ := hx
  have n2 := h.n2
  exact (dot_ma h.pa u0 h.ba u1 h.ca v1 (by rw [h.w l hl]; omega) (by omega) (by omega) (h.a l hl) hq).1
theorem Num2.is (h : Num2 goal lims Ua Va Ub Vb Ug Vg) : ∀ a, Valid goal lims a → VecA a → IsAns goal lims a ∧ MixLaw goal lims a
  | .best q x p, ⟨xl, pl, B, e⟩, ⟨hx, hp⟩ => by
    refine ⟨⟨h.prog, xl, nn_of B.nonneg, h.within xl hx B.within, h.dotG hx, ?_, h.sum pl hp, ?_, by rw [bd_sum pl, e]⟩, h.mixc hp, ?_⟩
    · rw [sum_dot rfl xl, e]; exact B.worth
    · exact list_ext (mix_len h.w).1 fun j hj => by
        have hj' : j < goal.length := by rw [(mix_len h.w).1] at hj; exact hj
        rw [mix_at h.w pl hj']; exact B.goal j hj'
    · exact list_ext mixC_len fun j hj => by
        have hj' : j < goal.length := by rw [mixC_len] at hj; exact hj
        rw [at0_mixC pl hj']; exact B.goal j hj'
  | .empty p, ⟨pl, B⟩, hp => by
    refine ⟨⟨h.prog, nn_of B.nonneg, h.sum pl hp, ?_, by rw [bd_sum pl]; exact B.above⟩, h.mixc hp, ?_⟩
    · exact list_ext (by rw [(mix_len h.w).1, List.length_replicate]) fun j hj => by
        have hj' : j < goal.length := by rw [(mix_len h.w).1] at hj; exact hj
        rw [mix_at h.w pl hj', at0_rep]; exact B.zero j hj'
    · exact list_ext (by rw [mixC_len, List.length_replicate]) fun j hj => by
        have hj' : j < goal.length := by rw [mixC_len] at hj; exact hj
        rw [at0_mixC pl hj', at0_rep]; exact B.zero j hj'
  | .endless x y, ⟨xl, yl, f, R⟩, ⟨hx, hy⟩ => by
    refine ⟨⟨h.prog, xl, yl, h.within xl hx f, h.dotG hy, by rw [sum_dot rfl yl]; exact R.goal, fun l hl => h.dotR hy hl, fun l hl => ?_⟩, trivial⟩
    obtain ⟨k, hk, e⟩ := List.getElem_of_mem hl
    have e2 : lims[k]? = some l := by rw [List.getElem?_eq_getElem hk, e]
    rw [row_sum' (h.w l hl) yl e2]
    exact R.lines k hk
end
end LP
end

section
set_option autoImplicit false
set_option exponentiation.threshold 1000000
namespace LP
open WB PySem PySem.Spec PyProof.Rows L2 LamX
/-! ### the sizes of a small program's numbers -/
theorem setFold_mem {N : Nat} {b : Nat → Nat} {v : Nat → Rat} {f0 : List Rat} {Pp : Rat → Prop} (h0 : ∀ q ∈ f0, Pp q) : ∀ n, (∀ i, i < n → Pp (v i)) → ∀ q ∈ setFold N b v f0 n, Pp q
  | 0, _ => h0
  | n + 1, h => fun q hq => by
    rw [setFold_succ] at hq
    split at hq
    · rcases List.mem_or_eq_of_mem_set hq with z | z
      · exact setFold_mem h0 n (fun i hi => h i (by omega)) q z
      · rw [z]; exact h n (by omega)
    · exact setFold_mem h0 n (fun i hi => h i (by omega)) q hq
theorem ma_quo {a u : Int} {V : Nat} (hu : 0 < u) (h : a.natAbs ≤ V) : MA u.toNat V (quo a u) := by
  refine ⟨⟨a, ?_⟩, ?_⟩
  · have e : ((u.toNat : Nat) : Rat) = (u : Rat) := by
      have : ((u.toNat : Nat) : Int) = u := Int.toNat_of_nonneg (by omega)
      rw [show ((u.toNat : Nat) : Rat) = (((u.toNat : Nat) : Int) : Rat) from rfl, this]
    have u0 : (u : Rat) ≠ 0 := cast_ne (by omega)
    rw [e]; unfold quo; grind
  · refine ab_num ?_
    rw [quo_num hu]
    exact Nat.le_trans (Int.natAbs_ediv_le_natAbs _ _) h
structure Bits2 (goal : List Rat) (lims : Lims) (Ua Va Ub Vb Ug Vg w d : Nat) : Prop where
  num : Num2 goal lims Ua Va Ub Vb Ug Vg
  n31 : goal.length ≤ 31
  w1 : 1 ≤ w
  wa : Va ≤ w
  wg : Vg ≤ w
  wb : w ≤ 2 ^ 200
  det : (goal.length * (Ua * Ug * w)) ^ goal.length ≤ 2 ^ d
  h1 : d ≤ 3000
section
variable {goal : List Rat} {lims : Lims} {Ua Va Ub Vb Ug Vg w d : Nat}
theorem Num2.zero (h : Num2 goal lims Ua Va Ub Vb Ug Vg) : Num2 (List.replicate goal.length 0) lims Ua Va Ub Vb Ug Vg := by
  refine ⟨?_, ?_, h.N1, h.N2, ?_, h.a, h.b, fun q hq => by rw [List.eq_of_mem_replicate hq]; exact ma_zero _ _, h.pa, h.pb, h.pg, h.ba, h.bb, h.bg, h.ca, h.cb, h.cg⟩ <;> rw [List.length_replicate]
  · exact h.n1
  · exact h.n2
  · exact h.w
theorem Bits2.zero (B : Bits2 goal lims Ua Va Ub Vb Ug Vg w d) : Bits2 (List.replicate goal.length 0) lims Ua Va Ub Vb Ug Vg w d := by
  refine ⟨B.num.zero, ?_, B.w1, B.wa, B.wg, B.wb, ?_, B.h1⟩ <;> rw [List.length_replicate]
  · exact B.n31
  · exact B.det
theorem row_mem {i : Nat} {x : Rat} (h : x ∈ rowAt goal lims i) : (∃ k, k < lims.length ∧ x = rowsA lims k i) ∨ x = at0 goal i := by
  unfold rowAt at h
  rcases List.mem_append.mp h with h | h
  · obtain ⟨l, hl, rfl⟩ := List.mem_map.mp h
    obtain ⟨k, hk, e⟩ := List.getElem_of_mem hl
    refine .inl ⟨k, hk, ?_⟩
    rw [(rows_get (show lims[k]? = some l by rw [List.getElem?_eq_getElem hk, e]) i).1]
  · exact .inr (List.mem_singleton.mp h)
theorem Num2.rowM (h : Num2 goal lims Ua Va Ub Vb Ug Vg) {k : Nat} (hk : k < lims.length) (i : Nat) : MA Ua Va (rowsA lims k i) := by
  have e := List.getElem?_eq_getElem hk
  rw [(rows_get e i).1]
  exact ma_at (h.a _ (List.getElem_mem hk)) i
theorem Num2.bdM (h : Num2 goal lims Ua Va Ub Vb Ug Vg) {k : Nat} (hk : k < lims.length) : MA Ub Vb (bdsB lims k) := by
  have e := List.getElem?_eq_getElem hk
  rw [(rows_get e 0).2]
  exact h.b _ (List.getElem_mem hk)
theorem Bits2.lcm (B : Bits2 goal lims Ua Va Ub Vb Ug Vg w d) (i : Nat) : lcmL (rowAt goal lims i) ≤ Ua * Ug :=
  lcmL_le (Nat.mul_pos B.num.pa B.num.pg) fun x hx => by
    rcases row_mem hx with ⟨k, hk, rfl⟩ | rfl
    · exact mu_dvd (B.num.rowM hk i).m (Nat.dvd_mul_right _ _)
    · exact mu_dvd (ma_at B.num.g i).m (Nat.dvd_mul_left _ _)
theorem Bits2.fac (B : Bits2 goal lims Ua Va Ub Vb Ug Vg w d) (i : Nat) : (sgnOf (rowAt goal lims i) * lcmL (rowAt goal lims i)).natAbs ≤ Ua * Ug := by
  rw [Int.natAbs_mul, Int.natAbs_natCast]
  have := B.lcm i
  rcases sgnOf_sq (rowAt goal lims i) with e | e <;> rw [e] <;> simpa using this
theorem Bits2.scl (B : Bits2 goal lims Ua Va Ub Vb Ug Vg w d) : lcmL (lims.map (·.2)) ≤ Ub :=
  lcmL_le B.num.pb fun x hx => by
    obtain ⟨l, hl, rfl⟩ := List.mem_map.mp hx
    exact (B.num.b l hl).m
theorem Bits2.entry (B : Bits2 goal lims Ua Va Ub Vb Ug Vg w d) : ∀ j, j ≤ lims.length + goal.length → ∀ r, r < goal.length → (colM goal lims j r).natAbs ≤ Ua * Ug * w := fun j hj r hr => by
  have T := init_told goal lims
  have f := B.fac r
  by_cases q : j < lims.length
  · exact Nat.le_trans (ab_cast (T.mA j q r hr) (B.num.rowM q r).a) (Nat.mul_le_mul f B.wa)
  · by_cases z : j = lims.length + goal.length
    · rw [z]; exact Nat.le_trans (ab_cast (T.mg r hr) (ma_at B.num.g r).a) (Nat.mul_le_mul f B.wg)
    · have e := T.helped (j - lims.length) (by omega) r hr
      rw [show lims.length + (j - lims.length) = j by omega] at e
      rw [e]
      have : 1 ≤ Ua * Ug * w := Nat.mul_pos (Nat.mul_pos B.num.pa B.num.pg) B.w1
      unfold unitCol; split
      · exact this
      · exact Nat.zero_le _
theorem Bits2.cost (B : Bits2 goal lims Ua Va Ub Vb Ug Vg w d) (k : Nat) : (costC lims k).natAbs ≤ 2 ^ 400 := by
  have T := init_told goal lims
  by_cases q : k < lims.length
  · refine Nat.le_trans (ab_cast (T.cb k q) (B.num.bdM q).a) ?_
    rw [Int.natAbs_natCast, show (400 : Nat) = 200 + 200 from rfl, Nat.pow_add]
    exact Nat.mul_le_mul (Nat.le_trans B.scl B.num.bb) B.num.cb
  · rw [T.c0 k (by omega)]; exact Nat.zero_le _
theorem Bits2.tab (B : Bits2 goal lims Ua Va Ub Vb Ug Vg w d) {t : Tab} (G : GoodI goal lims t) :
    t.unit.natAbs ≤ 2 ^ d ∧ (∀ i j, (ent (t.line i) j).natAbs ≤ 2 ^ d) ∧ (∀ j, (ent t.gains j).natAbs ≤ 2 ^ (405 + d)) ∧ ∀ j, (ent t.wants j).natAbs ≤ 2 ^ (5 + d) := by
  obtain ⟨s1, s2⟩ := G.inv.small B.entry
  have u1 : t.unit.natAbs ≤ 2 ^ d := Nat.le_trans s1 B.det
  have n31 := B.n31
  obtain ⟨r1, r2, r3⟩ := G.small2 (D := 2 ^ d) (Cg := 2 ^ 400) (fun k => by unfold helpC; split; exact .inr rfl; exact .inl rfl) u1 (fun i hi j hj => Nat.le_trans (s2 i hi j hj) B.det) B.cost
  refine ⟨u1, r1, fun j => Nat.le_trans (r2 j) ?_, fun j => Nat.le_trans (r3 j) ?_⟩
  · have e32 : (2 : Nat) ^ (405 + d) = 32 * 2 ^ 400 * 2 ^ d := by rw [Nat.pow_add 2 405, show (405 : Nat) = 5 + 400 from rfl, Nat.pow_add 2 5]
    rw [e32]
    exact Nat.mul_le_mul_right _ (Nat.mul_le_mul_right _ (by omega))
  · have e32 : (2 : Nat) ^ (5 + d) = 32 * 2 ^ d := by rw [Nat.pow_add 2 5]
    rw [e32]
    exact Nat.mul_le_mul_right _ (by omega)
theorem Bits2.weights (B : Bits2 goal lims Ua Va Ub Vb Ug Vg w d) {t : Tab} (G : GoodI goal lims t) : 0 < t.unit.toNat ∧ t.unit.toNat ≤ 2 ^ d ∧ ∀ q ∈ t.weights, MA t.unit.toNat (2 ^ d) q := by
  have up : 0 < t.unit := G.inv.pos
  obtain ⟨b1, b2, _, _⟩ := B.tab G
  refine ⟨by omega, by omega, ?_⟩
  unfold Tab.weights
  exact setFold_mem (fun q hq => by rw [List.eq_of_mem_replicate hq]; exact ma_zero _ _) _ fun i _ => ma_quo up (b2 _ _)
theorem vec_of {p : List Rat} {U V b c : Nat} (h0 : 0 < U) (h1 : U ≤ 2 ^ b) (h2 : V ≤ 2 ^ c) (hb : b ≤ 3500) (hc : c ≤ 9000) (h : ∀ q ∈ p, MA U V q) : Vec2 p :=
  ⟨U, V, h0, Nat.le_trans h1 (two_le hb), Nat.le_trans h2 (two_le hc), h⟩
theorem Bits2.wvec (B : Bits2 goal lims Ua Va Ub Vb Ug Vg w d) {t : Tab} (G : GoodI goal lims t) : Vec2 t.weights := by
  obtain ⟨h0, h1, h⟩ := B.weights G
  have d3 := B.h1
  exact vec_of h0 h1 (Nat.le_refl _) (by omega) (by omega) h
theorem Bits2.ray (B : Bits2 goal lims Ua Va Ub Vb Ug Vg w d) {t : Tab} (G : GoodI goal lims t) (q : Nat) : Vec2 (t.ray q) := by
  have up : 0 < t.unit := G.inv.pos
  obtain ⟨b1, b2, _, _⟩ := B.tab G
  have d3 := B.h1
  refine vec_of (U := t.unit.toNat) (V := 2 ^ d) (b := d) (c := d) (by omega) (by omega) (Nat.le_refl _) (by omega) (by omega) ?_
  unfold Tab.ray
  refine setFold_mem (fun x hx => ?_) _ fun i _ => ma_quo up ?_
  · rcases List.mem_or_eq_of_mem_set hx with z | z
    · rw [List.eq_of_mem_replicate z]; exact ma_zero _ _
    · rw [z]; exact ⟨mu_int _ 1, ab_num (V := 2 ^ d) (q := 1) Nat.one_le_two_pow⟩
  · rw [Int.natAbs_neg]; exact b2 _ _
theorem mem_prices {t : Tab} {l : List Int} {s : Int} {q : Rat} (h : q ∈ pricesL t l s) : ∃ i f, t.factors[i]? = some f ∧ q = quo (- LP.ent l (t.many + i) * f) (t.unit * s) := by
  unfold pricesL at h
  obtain ⟨i, hi, e⟩ := List.getElem_of_mem h
  rw [List.length_mapIdx] at hi
  rw [List.getElem_mapIdx] at e
  exact ⟨i, _, List.getElem?_eq_getElem hi, e.symm⟩
theorem Bits2.facs (B : Bits2 goal lims Ua Va Ub Vb Ug Vg w d) {t : Tab} (F : FactsI goal lims t) {i : Nat} {f : Int} (h : t.factors[i]? = some f) : f.natAbs ≤ 2 ^ 400 := by
  have hi : i < goal.length := by
    have := (List.getElem?_eq_some_iff.mp h).1
    rw [F.len] at this; exact this
  have v := F.val i hi
  rw [List.getD_eq_getElem?_getD, h] at v
  have v' : f = sgnOf (rowAt goal lims i) * lcmL (rowAt goal lims i) := v
  rw [v']
  refine Nat.le_trans (B.fac i) ?_
  rw [show (400 : Nat) = 200 + 200 from rfl, Nat.pow_add]
  exact Nat.mul_le_mul B.num.ba B.num.bg
theorem Bits2.pvec (B : Bits2 goal lims Ua Va Ub Vb Ug Vg w d) {t : Tab} (G : GoodI goal lims t) (F : FactsI goal lims t) {l : List Int} {s : Int} (hs : 0 < s) (hs2 : s.natAbs ≤ 2 ^ 200) (hl : ∀ j, (ent l j).natAbs ≤ 2 ^ (405 + d)) : Vec2 (pricesL t l s) := by
  have up : 0 < t.unit := G.inv.pos
  obtain ⟨b1, _, _, _⟩ := B.tab G
  have d3 := B.h1
  have pp := Int.mul_pos up hs
  have us : (t.unit * s).natAbs ≤ 2 ^ (d + 200) := by rw [Int.natAbs_mul, Nat.pow_add]; exact Nat.mul_le_mul b1 hs2
  refine vec_of (U := (t.unit * s).toNat) (V := 2 ^ (805 + d)) (b := d + 200) (c := 805 + d) (by omega) (by omega) (Nat.le_refl _) (by omega) (by omega) fun q hq => ?_
  obtain ⟨i, f, hf, rfl⟩ := mem_prices hq
  refine ma_quo pp ?_
  rw [Int.natAbs_mul, Int.natAbs_neg, show 805 + d = (405 + d) + 400 by omega, Nat.pow_add 2 (405 + d)]
  exact Nat.mul_le_mul (hl _) (B.facs F hf)
theorem Bits2.best (B : Bits2 goal lims Ua Va Ub Vb Ug Vg w d) {q : Rat} {x p : List Rat} (r : Run lims goal (.best q x p)) : VecA (.best q x p) := by
  cases r with
  | best C hz Cg =>
    obtain ⟨G, F, s, _⟩ := run_two C hz Cg
    have T := init_told goal lims
    obtain ⟨_, _, b3, _⟩ := B.tab G
    refine ⟨?_, B.wvec G⟩
    refine B.pvec G F (by rw [s]; exact T.scp) ?_ b3
    rw [s, Int.natAbs_natCast]
    exact Nat.le_trans B.scl B.num.bb
theorem Bits2.vec (B : Bits2 goal lims Ua Va Ub Vb Ug Vg w d) : ∀ a, Run lims goal a → VecA a := fun a r => by
  cases r with
  | best C hz Cg => exact B.best (.best C hz Cg)
  | empty C hz Cg =>
    obtain ⟨G, F, s, _⟩ := run_two C hz Cg
    exact B.ray G _
  | endless C hz r =>
    obtain ⟨G, F, _⟩ := run_one C
    obtain ⟨_, _, _, b4⟩ := B.tab G
    exact ⟨(B.zero.best r).1, B.pvec G F Int.one_pos (by decide) fun j => Nat.le_trans (b4 j) (two_le (by omega))⟩
  | none C hz r =>
    cases r with
    | empty C hz Cg =>
      obtain ⟨G, F, s, _⟩ := run_two C hz Cg
      exact B.zero.ray G _
    | none C hz r => exact (hz (zero_goal C)).elim
theorem ma_nums {U V : Nat} {q : Rat} (h : MA U V q) (hU : 0 < U) (h1 : U ≤ 2 ^ 200) (h2 : V ≤ 2 ^ 200) : q.num.natAbs < 2 ^ 400000 := by
  refine Nat.lt_of_le_of_lt (Nat.le_trans (h.num hU) (Nat.mul_le_mul h2 h1)) ?_
  rw [← Nat.pow_add]
  exact Nat.pow_lt_pow_right (by omega) (by omega)
theorem Bits2.size (B : Bits2 goal lims Ua Va Ub Vb Ug Vg w d) : SizeOk goal lims := by
  have n1 := B.num.n1; have n2 := B.num.n2; have N1 := B.num.N1; have N2 := B.num.N2
  have h1 := B.h1
  have line : (1000 : Nat) ≤ sizeLine := by decide
  have uu : Ua * Ug ≤ 2 ^ 400 := by rw [show (400 : Nat) = 200 + 200 from rfl, Nat.pow_add]; exact Nat.mul_le_mul B.num.ba B.num.bg
  have lt : ∀ {a b : Nat}, a ≤ 2 ^ b → b < 9000 → a < 2 ^ 9000 := fun h k => Nat.lt_of_le_of_lt h (Nat.pow_lt_pow_right (by omega) k)
  refine ⟨⟨by omega, B.num.w, fun i hi => ⟨lt (Nat.le_trans (B.lcm i) uu) (by omega), fun q hq => ?_⟩, ⟨lt (Nat.le_trans B.scl B.num.bb) (by omega), fun q hq => ?_⟩, fun i j hi => ?_⟩, n1, ⟨2 ^ (405 + d), fun t G => ?_, Nat.pow_lt_pow_right (by omega) (by omega), ?_⟩, fun t G => ?_⟩
  · rcases row_mem hq with ⟨k, hk, rfl⟩ | rfl
    · exact ma_nums (B.num.rowM hk i) B.num.pa B.num.ba B.num.ca
    · exact ma_nums (ma_at B.num.g i) B.num.pg B.num.bg B.num.cg
  · obtain ⟨l, hl, rfl⟩ := List.mem_map.mp hq
    exact ma_nums (B.num.b l hl) B.num.pb B.num.bb B.num.cb
  · by_cases z : j < (rowAt goal lims i).length
    · have e : ((LP.ent (clr (rowAt goal lims i)) j : Int) : Rat) = (((lcmL (rowAt goal lims i) : Nat) : Int) : Rat) * at0 (rowAt goal lims i) j := ent_clr z
      have ab : Ab w (at0 (rowAt goal lims i) j) := by
        rw [rowAt_len] at z
        by_cases y : j < lims.length
        · rw [rowAt_lt y]; exact ab_mono (B.num.rowM y i).a B.wa
        · rw [show j = lims.length by omega, rowAt_last]; exact ab_mono (ma_at B.num.g i).a B.wg
      have := ab_cast e ab
      rw [Int.natAbs_natCast] at this
      refine lt (b := 600) (Nat.le_trans this ?_) (by omega)
      rw [show (600 : Nat) = 400 + 200 from rfl, Nat.pow_add]
      exact Nat.mul_le_mul (Nat.le_trans (B.lcm i) uu) B.wb
    · rw [ent_off (by rw [clr_len]; omega)]; exact Nat.two_pow_pos 9000
  · obtain ⟨s1, s2, s3, s4⟩ := B.tab G
    have g1 : (2 : Nat) ^ d ≤ 2 ^ (405 + d) := two_le (by omega)
    exact ⟨Nat.le_trans s1 g1, fun i j => Nat.le_trans (s2 i j) g1, s3, fun j => Nat.le_trans (s4 j) (two_le (by omega))⟩
  · refine Nat.lt_of_le_of_lt (Nat.mul_le_mul_left _ (Nat.le_trans B.scl B.num.bb)) ?_
    rw [← Nat.pow_add]
    exact Nat.pow_lt_pow_right (by omega) (by omega)
  · obtain ⟨w0, w2, w3⟩ := B.weights G
    refine (dot_ma w0 B.num.pb w2 B.num.bb (Nat.le_refl (2 ^ d)) B.num.cb ?_ (by omega) (by omega) w3 fun q hq => ?_).1
    · rw [weights_len, G.many]; omega
    · obtain ⟨l, hl, rfl⟩ := List.mem_map.mp hq
      exact B.num.b l hl
theorem Bits2.ans (B : Bits2 goal lims Ua Va Ub Vb Ug Vg w d) : AnsOk goal lims := ⟨B.num.prog, B.size, B.zero.size⟩
theorem Bits2.is (B : Bits2 goal lims Ua Va Ub Vb Ug Vg w d) : ∀ a, Run lims goal a → IsAns goal lims a ∧ MixLaw goal lims a := fun a r => B.num.is a (run_valid r) (B.vec a r)
end
end LP
end

section
set_option autoImplicit false
namespace LP
/-! ### ways: walks, potentials -/
abbrev Arcs := List (Nat × Nat × Rat)
/-- a walk of k arcs to v, of the length c -/
def Wk (as : Arcs) (st : List Nat) (k v : Nat) (c : Rat) : Prop :=
  ∃ (s : Nat → Nat) (g : Nat → Rat), s 0 ∈ st ∧ g 0 = 0 ∧ (∀ i, i < k → ∃ len, (s i, s (i + 1), len) ∈ as ∧ g (i + 1) = g i + len) ∧ s k = v ∧ g k = c
def Pot (as : Arcs) (x : Nat → Rat) : Prop := ∀ a ∈ as, x a.2.1 ≤ x a.1 + a.2.2
section
variable {as : Arcs} {st : List Nat}
theorem wk_zero {v : Nat} (h : v ∈ st) : Wk as st 0 v 0 := ⟨fun _ => v, fun _ => 0, h, rfl, fun i hi => absurd hi (by omega), rfl, rfl⟩
theorem wk_ext {k u v : Nat} {c len : Rat} (h : Wk as st k u c) (ha : (u, v, len) ∈ as) : Wk as st (k + 1) v (c + len) := by
  obtain ⟨s, g, h0, g0, hs, e1, e2⟩ := h
  refine ⟨fun i => if i ≤ k then s i else v, fun i => if i ≤ k then g i else c + len, ?_, ?_, fun i hi => ?_, ?_, ?_⟩
  · show (if 0 ≤ k then s 0 else v) ∈ st
    rw [if_pos (Nat.zero_le _)]; exact h0
  · show (if 0 ≤ k then g 0 else c + len) = 0
    rw [if_pos (Nat.zero_le _)]; exact g0
  · show ∃ l, ((if i ≤ k then s i else v), (if i + 1 ≤ k then s (i + 1) else v), l) ∈ as ∧ (if i + 1 ≤ k then g (i + 1) else c + len) = (if i ≤ k then g i else c + len) + l
    rw [if_pos (show i ≤ k by omega), if_pos (show i ≤ k by omega)]
    by_cases q : i + 1 ≤ k
    · rw [if_pos q, if_pos q]; exact hs i (by omega)
    · have e : i = k := by omega
      subst e
      rw [if_neg q, if_neg q]
      exact ⟨len, by rw [e1]; exact ha, by rw [e2]⟩
  · show (if k + 1 ≤ k then _ else v) = v
    rw [if_neg (by omega)]
  · show (if k + 1 ≤ k then _ else c + len) = c + len
    rw [if_neg (by omega)]
/-- the last arc of a walk -/
theorem wk_last {k v : Nat} {c : Rat} (h : Wk as st (k + 1) v c) : ∃ u c0 len, Wk as st k u c0 ∧ (u, v, len) ∈ as ∧ c = c0 + len := by
  obtain ⟨s, g, h0, g0, hs, e1, e2⟩ := h
  obtain ⟨len, h1, h2⟩ := hs k (by omega)
  exact ⟨s k, g k, len, ⟨s, g, h0, g0, fun i hi => hs i (by omega), rfl, rfl⟩, by rw [← e1]; exact h1, by rw [← e2]; exact h2⟩
theorem seq_pot {s : Nat → Nat} {g : Nat → Rat} {k : Nat} {x : Nat → Rat} (hx : Pot as x) (hs : ∀ i, i < k → ∃ len, (s i, s (i + 1), len) ∈ as ∧ g (i + 1) = g i + len) {i : Nat} : ∀ d, i + d ≤ k → x (s (i + d)) ≤ x (s i) + (g (i + d) - g i)
  | 0, _ => by rw [Nat.add_zero]; grind
  | d + 1, h => by
    have ih := seq_pot hx hs (i := i) d (by omega)
    obtain ⟨len, h1, h2⟩ := hs (i + d) (by omega)
    have h3 := hx _ h1
    have e : i + (d + 1) = i + d + 1 := by omega
    rw [e, h2]
    have h3' : x (s (i + d + 1)) ≤ x (s (i + d)) + len := h3
    grind
theorem wk_pot {k v : Nat} {c : Rat} {x : Nat → Rat} (hx : Pot as x) (h : Wk as st k v c) : ∃ u, u ∈ st ∧ x v ≤ x u + c := by
  obtain ⟨s, g, h0, g0, hs, e1, e2⟩ := h
  have := seq_pot hx hs (i := 0) k (by omega)
  rw [Nat.zero_add, e1, e2, g0] at this
  exact ⟨s 0, h0, by grind⟩
/-- a walk without circuits is no longer -/
theorem wk_short {n : Nat} (hn : 0 < n) (lt : ∀ a ∈ as, a.1 < n ∧ a.2.1 < n) (hst : ∀ v ∈ st, v < n) {x : Nat → Rat} (hx : Pot as x) : ∀ (k v : Nat) (c : Rat), Wk as st k v c → ∃ j c', j < n ∧ c' ≤ c ∧ Wk as st j v c' := by
  intro k
  induction k using Nat.strongRecOn with
  | ind k ih =>
    intro v c h
    by_cases q : k < n
    · exact ⟨k, c, q, Rat.le_refl, h⟩
    · obtain ⟨s, g, h0, g0, hs, e1, e2⟩ := h
      have low : ∀ i, i ≤ n → s i < n := fun i hi => by
        cases i with
        | zero => exact hst _ h0
        | succ i =>
          obtain ⟨len, m, _⟩ := hs i (by omega)
          exact (lt _ m).2
      obtain ⟨a, b, ab, bn, sab⟩ := pigeon n s low
      have cyc := seq_pot hx hs (i := a) (b - a) (by omega)
      rw [show a + (b - a) = b by omega, ← sab] at cyc
      have new : Wk as st (k - (b - a)) v (c - (g b - g a)) := by
        refine ⟨fun i => if i ≤ a then s i else s (i + (b - a)), fun i => if i ≤ a then g i else g (i + (b - a)) - (g b - g a), ?_, ?_, fun i hi => ?_, ?_, ?_⟩
        · show (if 0 ≤ a then s 0 else _) ∈ st
          rw [if_pos (Nat.zero_le _)]; exact h0
        · show (if 0 ≤ a then g 0 else _) = 0
          rw [if_pos (Nat.zero_le _)]; exact g0
        · show ∃ l, ((if i ≤ a then s i else s (i + (b - a))), (if i + 1 ≤ a then s (i + 1) else s (i + 1 + (b - a))), l) ∈ as ∧ (if i + 1 ≤ a then g (i + 1) else g (i + 1 + (b - a)) - (g b - g a)) = (if i ≤ a then g i else g (i + (b - a)) - (g b - g a)) + l
          by_cases q1 : i + 1 ≤ a
          · rw [if_pos q1, if_pos q1, if_pos (by omega), if_pos (by omega)]
            exact hs i (by omega)
          · rw [if_neg q1, if_neg q1]
            by_cases q2 : i ≤ a
            · have e : i = a := by omega
              subst e
              rw [if_pos q2, if_pos q2]
              obtain ⟨len, m, e3⟩ := hs b (by omega)
              refine ⟨len, ?_, ?_⟩
              · rw [sab, show i + 1 + (b - i) = b + 1 by omega]; exact m
              · rw [show i + 1 + (b - i) = b + 1 by omega, e3]; grind
            · rw [if_neg q2, if_neg q2]
              obtain ⟨len, m, e3⟩ := hs (i + (b - a)) (by omega)
              refine ⟨len, ?_, ?_⟩
              · rw [show i + 1 + (b - a) = i + (b - a) + 1 by omega]; exact m
              · rw [show i + 1 + (b - a) = i + (b - a) + 1 by omega, e3]; grind
        · show (if k - (b - a) ≤ a then s (k - (b - a)) else s (k - (b - a) + (b - a))) = v
          by_cases q1 : k - (b - a) ≤ a
          · have : k = b := by omega
            rw [if_pos q1, show k - (b - a) = a by omega, sab, ← this]; exact e1
          · rw [if_neg q1, show k - (b - a) + (b - a) = k by omega]; exact e1
        · show (if k - (b - a) ≤ a then g (k - (b - a)) else g (k - (b - a) + (b - a)) - (g b - g a)) = c - (g b - g a)
          by_cases q1 : k - (b - a) ≤ a
          · have : k = b := by omega
            rw [if_pos q1, show k - (b - a) = a by omega, ← e2, this]; grind
          · rw [if_neg q1, show k - (b - a) + (b - a) = k by omega, e2]
      obtain ⟨j, c', h1, h2, h3⟩ := ih (k - (b - a)) (by omega) v _ new
      exact ⟨j, c', h1, by grind, h3⟩
/-- what stands are lengths of walks -/
def Val (as : Arcs) (st : List Nat) (ds : Dst) : Prop := ∀ v x, dat ds v = some x → ∃ k, Wk as st k v x
/-- no more than before -/
def Les (ds' ds : Dst) : Prop := ∀ v x, dat ds v = some x → ∃ y, dat ds' v = some y ∧ y ≤ x
theorem Les.refl (ds : Dst) : Les ds ds := fun _ x h => ⟨x, h, Rat.le_refl⟩
theorem Les.trans {a b c : Dst} (h : Les a b) (k : Les b c) : Les a c := fun v x e => by
  obtain ⟨y, h1, h2⟩ := k v x e
  obtain ⟨z, h3, h4⟩ := h v y h1
  exact ⟨z, h3, by grind⟩
theorem relax_cases (s : Dst × Bool) (a : Nat × Nat × Rat) : (relax s a = s ∧ (∀ x, dat s.1 a.1 = some x → ∃ y, dat s.1 a.2.1 = some y ∧ y ≤ x + a.2.2)) ∨
    ∃ x, dat s.1 a.1 = some x ∧ relax s a = (s.1.set a.2.1 (some (x + a.2.2)), true) ∧ ∀ y, dat s.1 a.2.1 = some y → x + a.2.2 < y := by
  unfold relax
  cases e1 : dat s.1 a.1 with
  | none => exact .inl ⟨rfl, fun x h => by cases h⟩
  | some x =>
    cases e2 : dat s.1 a.2.1 with
    | none => exact .inr ⟨x, rfl, rfl, fun y h => by cases h⟩
    | some y =>
      by_cases q : x + a.2.2 < y
      · refine .inr ⟨x, rfl, by simp only [q, if_true], fun z h => by cases h; exact q⟩
      · refine .inl ⟨by simp only [q, if_false], fun z h => ?_⟩
        cases h
        exact ⟨y, rfl, by grind⟩
theorem relax_val {s : Dst × Bool} {a : Nat × Nat × Rat} (h : Val as st s.1) (ha : a ∈ as) (hb : a.2.1 < s.1.length) : Val as st (relax s a).1 := by
  rcases relax_cases s a with ⟨e, _⟩ | ⟨x, e1, e, _⟩
  · rw [e]; exact h
  · rw [e]
    intro v y hy
    have hy' : dat (s.1.set a.2.1 (some (x + a.2.2))) v = some y := hy
    rw [dat_set hb] at hy'
    by_cases q : v = a.2.1
    · rw [if_pos q] at hy'
      cases hy'
      obtain ⟨k, hk⟩ := h _ _ e1
      exact ⟨k + 1, by rw [q]; exact wk_ext hk ha⟩
    · rw [if_neg q] at hy'
      exact h _ _ hy'
theorem relax_les {s : Dst × Bool} {a : Nat × Nat × Rat} (hb : a.2.1 < s.1.length) : Les (relax s a).1 s.1 := by
  rcases relax_cases s a with ⟨e, _⟩ | ⟨x, e1, e, lt⟩
  · rw [e]; exact .refl _
  · rw [e]
    intro v y hy
    show ∃ z, dat (s.1.set a.2.1 (some (x + a.2.2))) v = some z ∧ z ≤ y
    rw [dat_set hb]
    by_cases q : v = a.2.1
    · rw [if_pos q]
      rw [q] at hy
      exact ⟨_, rfl, by have := lt y hy; grind⟩
    · rw [if_neg q]; exact ⟨y, hy, Rat.le_refl⟩
theorem relax_at {s : Dst × Bool} {a : Nat × Nat × Rat} (hb : a.2.1 < s.1.length) {x : Rat} (h : dat s.1 a.1 = some x) : ∃ y, dat (relax s a).1 a.2.1 = some y ∧ y ≤ x + a.2.2 := by
  rcases relax_cases s a with ⟨e, r⟩ | ⟨x', e1, e, lt⟩
  · rw [e]; exact r x h
  · rw [h] at e1
    cases e1
    rw [e]
    show ∃ z, dat (s.1.set a.2.1 (some (x + a.2.2))) a.2.1 = some z ∧ z ≤ _
    rw [dat_set hb, if_pos rfl]
    exact ⟨_, rfl, Rat.le_refl⟩
variable {n : Nat}
theorem fold_les : ∀ (bs : Arcs) (s : Dst × Bool), (∀ a ∈ bs, a.2.1 < s.1.length) → Les (bs.foldl relax s).1 s.1
  | [], s, _ => .refl _
  | a :: bs, s, h => by
    rw [List.foldl_cons]
    exact (fold_les bs (relax s a) fun b hb => by rw [relax_len]; exact h b (List.mem_cons_of_mem _ hb)).trans (relax_les (h a List.mem_cons_self))
theorem fold_val : ∀ (bs : Arcs) (s : Dst × Bool), (∀ a ∈ bs, a ∈ as ∧ a.2.1 < s.1.length) → Val as st s.1 → Val as st (bs.foldl relax s).1
  | [], s, _, v => v
  | a :: bs, s, h, v => by
    rw [List.foldl_cons]
    exact fold_val bs (relax s a) (fun b hb => by rw [relax_len]; exact h b (List.mem_cons_of_mem _ hb)) (relax_val v (h a List.mem_cons_self).1 (h a List.mem_cons_self).2)
theorem fold_at : ∀ (bs : Arcs) (s : Dst × Bool), (∀ a ∈ bs, a.2.1 < s.1.length) → ∀ a ∈ bs, ∀ x, dat s.1 a.1 = some x → ∃ y, dat (bs.foldl relax s).1 a.2.1 = some y ∧ y ≤ x + a.2.2
  | b :: bs, s, h, a, ha, x, hx => by
    rw [List.foldl_cons]
    have hl : ∀ a ∈ bs, a.2.1 < (relax s b).1.length := fun c hc => by rw [relax_len]; exact h c (List.mem_cons_of_mem _ hc)
    rcases List.mem_cons.mp ha with e | ha
    · subst e
      obtain ⟨y, h1, h2⟩ := relax_at (h a List.mem_cons_self) hx
      obtain ⟨z, h3, h4⟩ := fold_les bs (relax s a) hl _ _ h1
      exact ⟨z, h3, by grind⟩
    · obtain ⟨x', h1, h2⟩ := relax_les (h b List.mem_cons_self) _ _ hx
      obtain ⟨y, h3, h4⟩ := fold_at bs (relax s b) hl a ha x' h1
      exact ⟨y, h3, by grind⟩
/-- a lap without a fall -/
theorem fold_still : ∀ (bs : Arcs) (s : Dst × Bool), (bs.foldl relax s).2 = false → bs.foldl relax s = s ∧ ∀ a ∈ bs, ∀ x, dat s.1 a.1 = some x → ∃ y, dat s.1 a.2.1 = some y ∧ y ≤ x + a.2.2
  | [], s, _ => ⟨rfl, fun a ha => by cases ha⟩
  | b :: bs, s, h => by
    rw [List.foldl_cons] at h ⊢
    obtain ⟨e1, e2⟩ := fold_still bs _ h
    rcases relax_cases s b with ⟨e, r⟩ | ⟨x, _, e, _⟩
    · rw [e] at e1 e2 ⊢
      refine ⟨e1, fun a ha => ?_⟩
      rcases List.mem_cons.mp ha with z | ha
      · rw [z]; exact r
      · exact e2 a ha
    · rw [e1, e] at h
      cases h
/-- nothing to be changed: a lap without a fall -/
theorem fold_keep : ∀ (bs : Arcs) (ds : Dst), (∀ a ∈ bs, ∀ x, dat ds a.1 = some x → ∃ y, dat ds a.2.1 = some y ∧ y ≤ x + a.2.2) → bs.foldl relax (ds, false) = (ds, false)
  | [], _, _ => rfl
  | b :: bs, ds, h => by
    rw [List.foldl_cons]
    have e : relax (ds, false) b = (ds, false) := by
      rcases relax_cases (ds, false) b with ⟨e, _⟩ | ⟨x, e1, e, lt⟩
      · exact e
      · obtain ⟨y, h1, h2⟩ := h b List.mem_cons_self x e1
        have := lt y h1
        grind
    rw [e]
    exact fold_keep bs ds fun a ha => h a (List.mem_cons_of_mem _ ha)
theorem ways_val (lt : ∀ a ∈ as, a.1 < n ∧ a.2.1 < n) : ∀ k, Val as st (waysK as k (initW n st)).1
  | 0 => fun v x h => by
    by_cases q : v < n
    · have h' : dat (initW n st) v = some x := h
      rw [dat_init q] at h'
      split at h'
      · rename_i m
        cases h'
        exact ⟨0, wk_zero m⟩
      · cases h'
    · have h' : dat (initW n st) v = some x := h
      unfold dat at h'
      rw [List.getD_eq_getElem?_getD, List.getElem?_eq_none (by rw [init_len]; omega)] at h'
      cases h'
  | k + 1 => fold_val as _ (fun a ha => ⟨ha, by rw [ways_len, init_len]; exact (lt a ha).2⟩) (ways_val lt k)
theorem ways_low (lt : ∀ a ∈ as, a.1 < n ∧ a.2.1 < n) (hst : ∀ v ∈ st, v < n) : ∀ (k j v : Nat) (c : Rat), j ≤ k → Wk as st j v c → ∃ x, dat (waysK as k (initW n st)).1 v = some x ∧ x ≤ c
  | 0, j, v, c, hj, h => by
    have : j = 0 := by omega
    subst this
    obtain ⟨s, g, h0, g0, _, e1, e2⟩ := h
    rw [e1] at h0
    refine ⟨0, ?_, by rw [← e2, g0]; exact Rat.le_refl⟩
    show dat (initW n st) v = some 0
    rw [dat_init (hst v h0), if_pos h0]
  | k + 1, j, v, c, hj, h => by
    have hl : ∀ a ∈ as, a.2.1 < ((waysK as k (initW n st)).1, false).1.length := fun a ha => by
      show a.2.1 < (waysK as k (initW n st)).1.length
      rw [ways_len, init_len]; exact (lt a ha).2
    by_cases q : j ≤ k
    · obtain ⟨x, h1, h2⟩ := ways_low lt hst k j v c q h
      obtain ⟨y, h3, h4⟩ := fold_les as ((waysK as k (initW n st)).1, false) hl v x h1
      exact ⟨y, h3, by grind⟩
    · have e : j = k + 1 := by omega
      subst e
      obtain ⟨u, c0, len, w, m, rfl⟩ := wk_last h
      obtain ⟨x, h1, h2⟩ := ways_low lt hst k k u c0 (Nat.le_refl _) w
      obtain ⟨y, h3, h4⟩ := fold_at as ((waysK as k (initW n st)).1, false) hl (u, v, len) m x h1
      exact ⟨y, h3, by have h4' : y ≤ x + len := h4; grind⟩
/-- with potentials nothing is changed any more after n laps -/
theorem ways_done (hn : 0 < n) (lt : ∀ a ∈ as, a.1 < n ∧ a.2.1 < n) (hst : ∀ v ∈ st, v < n) {x : Nat → Rat} (hx : Pot as x) :
    waysK as (n + 1) (initW n st) = ((waysK as n (initW n st)).1, false) ∧ ∀ a ∈ as, ∀ z, dat (waysK as n (initW n st)).1 a.1 = some z → ∃ y, dat (waysK as n (initW n st)).1 a.2.1 = some y ∧ y ≤ z + a.2.2 := by
  have st' : ∀ a ∈ as, ∀ z, dat (waysK as n (initW n st)).1 a.1 = some z → ∃ y, dat (waysK as n (initW n st)).1 a.2.1 = some y ∧ y ≤ z + a.2.2 := fun a ha z hz => by
    obtain ⟨k, w⟩ := ways_val lt n _ _ hz
    have w2 : Wk as st (k + 1) a.2.1 (z + a.2.2) := wk_ext w ha
    obtain ⟨j, c', h1, h2, h3⟩ := wk_short hn lt hst hx _ _ _ w2
    obtain ⟨y, h4, h5⟩ := ways_low lt hst n j _ c' (by omega) h3
    exact ⟨y, h4, by grind⟩
  exact ⟨fold_keep as _ st', st'⟩
end
end LP
end

section
set_option autoImplicit false
set_option exponentiation.threshold 1000000
namespace LP
open WB PySem PySem.Spec PyProof.Rows L2 LamX
/-! ### the program of heights and the ways -/
section
variable {n f l : Nat} {as : List Arc} {lims : Lims}
theorem one_len {i : Nat} {s : Int} : (oneRow n i s).length = n := by unfold oneRow; rw [List.length_map, List.length_range]
theorem one_at {i r : Nat} {s : Int} (h : r < n) : at0 (oneRow n i s) r = if r = i then (s : Rat) else 0 := by
  unfold oneRow at0
  rw [List.getD_eq_getElem?_getD, List.getElem?_map, List.getElem?_range h]; rfl
theorem one_sum {i : Nat} {s : Int} (h : i < n) (z : Nat → Rat) : (sumQ n fun r => at0 (oneRow n i s) r * z r) = s * z i := by
  rw [sumQ_single (k := i) h fun r hr hne => by rw [one_at hr, if_neg hne]; grind, one_at h, if_pos rfl]
theorem arc_len {a : Arc} : (arcRow n a).length = n := by unfold arcRow; rw [List.length_set, List.length_set, List.length_replicate]
theorem arc_at {a : Arc} {r : Nat} (h1 : a.1 < n) (h2 : a.2.1 < n) (ne : a.1 ≠ a.2.1) : at0 (arcRow n a) r = (if r = a.1 then 1 else 0) + (if r = a.2.1 then -1 else 0) := by
  unfold arcRow
  rw [at0_set (by rw [List.length_set, List.length_replicate]; exact h2), at0_set (by rw [List.length_replicate]; exact h1), at0_rep]
  by_cases e : r = a.2.1
  · rw [if_pos e, if_pos e, if_neg (fun z => ne (by omega))]
    have c : ((-1 : Int) : Rat) = -1 := rfl
    rw [c]; grind
  · rw [if_neg e, if_neg e]; grind
theorem arc_sum {a : Arc} (h1 : a.1 < n) (h2 : a.2.1 < n) (ne : a.1 ≠ a.2.1) (z : Nat → Rat) : (sumQ n fun r => at0 (arcRow n a) r * z r) = z a.1 - z a.2.1 := by
  have e : (sumQ n fun r => at0 (arcRow n a) r * z r) = sumQ n fun r => (if r = a.1 then 1 else 0) * z r + (if r = a.2.1 then -1 else 0) * z r := sumQ_congr fun r _ => by rw [arc_at h1 h2 ne]; grind
  rw [e, sumQ_add, sumQ_single (k := a.1) h1 fun r _ hne => by rw [if_neg hne]; grind, sumQ_single (k := a.2.1) h2 fun r _ hne => by rw [if_neg hne]; grind, if_pos rfl, if_pos rfl]
  grind
theorem lim_cases {q : List Rat × Rat} (pm : lims.Perm (heightsL n as f)) (h : q ∈ lims) : (∃ a ∈ as, q = arcLim n a) ∨ q = (oneRow n f 1, 0) ∨ q = (oneRow n f (-1), 0) := by
  have h2 := pm.mem_iff.mp h
  unfold heightsL at h2
  rcases List.mem_append.mp h2 with h3 | h3
  · obtain ⟨a, ha, e⟩ := List.mem_map.mp h3
    exact .inl ⟨a, ha, e.symm⟩
  · rcases List.mem_cons.mp h3 with e | h4
    · exact .inr (.inl e)
    · exact .inr (.inr (List.mem_singleton.mp h4))
def Fe (n : Nat) (lims : Lims) (z : Nat → Rat) : Prop := ∀ k, k < lims.length → bdsB lims k ≤ sumQ n fun r => rowsA lims k r * z r
theorem lim_sum {k : Nat} {q : List Rat × Rat} (e : lims[k]? = some q) (z : Nat → Rat) : (sumQ n fun r => rowsA lims k r * z r) = sumQ n fun r => at0 q.1 r * z r := sumQ_congr fun r _ => by rw [(rows_get e r).1]
theorem mem_at {q : List Rat × Rat} (h : q ∈ lims) : ∃ k, k < lims.length ∧ lims[k]? = some q := by
  obtain ⟨k, hk, e⟩ := List.getElem_of_mem h
  exact ⟨k, hk, by rw [List.getElem?_eq_getElem hk, e]⟩
variable (pm : lims.Perm (heightsL n as f)) (ao : ∀ a ∈ as, ArcOk n 1000 12 a) (hf : f < n)
include pm ao hf
theorem mem_arc {a : Arc} (h : a ∈ as) : arcLim n a ∈ lims := pm.mem_iff.mpr (List.mem_append_left _ (List.mem_map.mpr ⟨a, h, rfl⟩))
theorem mem_one : (oneRow n f 1, (0 : Rat)) ∈ lims := pm.mem_iff.mpr (List.mem_append_right _ List.mem_cons_self)
theorem mem_two : (oneRow n f (-1), (0 : Rat)) ∈ lims := pm.mem_iff.mpr (List.mem_append_right _ (List.mem_cons_of_mem _ List.mem_cons_self))
theorem fe_of {z : Nat → Rat} (h : Fe n lims z) : Pot as z ∧ z f = 0 := by
  refine ⟨fun a ha => ?_, ?_⟩
  · obtain ⟨k, hk, e⟩ := mem_at (mem_arc pm ao hf ha)
    have o := ao a ha
    have := h k hk
    rw [lim_sum e, (rows_get e 0).2] at this
    have h2 : - a.2.2 ≤ sumQ n fun r => at0 (arcRow n a) r * z r := this
    rw [arc_sum o.lt1 o.lt2 o.ne] at h2
    grind
  · obtain ⟨k, hk, e⟩ := mem_at (mem_one pm ao hf)
    have h1 := h k hk
    rw [lim_sum e, (rows_get e 0).2] at h1
    have h1' : (0 : Rat) ≤ sumQ n fun r => at0 (oneRow n f 1) r * z r := h1
    rw [one_sum hf] at h1'
    obtain ⟨k2, hk2, e2⟩ := mem_at (mem_two pm ao hf)
    have h2 := h k2 hk2
    rw [lim_sum e2, (rows_get e2 0).2] at h2
    have h2' : (0 : Rat) ≤ sumQ n fun r => at0 (oneRow n f (-1)) r * z r := h2
    rw [one_sum hf] at h2'
    have c1 : ((1 : Int) : Rat) = 1 := rfl
    have c2 : ((-1 : Int) : Rat) = -1 := rfl
    rw [c1] at h1'
    rw [c2] at h2'
    grind
theorem fe_to {z : Nat → Rat} (hp : Pot as z) (h0 : z f = 0) : Fe n lims z := fun k hk => by
  have e := List.getElem?_eq_getElem hk
  rw [lim_sum e, (rows_get e 0).2]
  rcases lim_cases pm (List.getElem_mem hk) with ⟨a, ha, q⟩ | q | q
  · have o := ao a ha
    rw [q]
    show - a.2.2 ≤ sumQ n fun r => at0 (arcRow n a) r * z r
    rw [arc_sum o.lt1 o.lt2 o.ne]
    have := hp a ha
    grind
  · rw [q]
    show (0 : Rat) ≤ sumQ n fun r => at0 (oneRow n f 1) r * z r
    rw [one_sum hf, h0]; grind
  · rw [q]
    show (0 : Rat) ≤ sumQ n fun r => at0 (oneRow n f (-1)) r * z r
    rw [one_sum hf, h0]; grind
theorem ray_to {y : Nat → Rat} (h : ∀ k, k < lims.length → 0 ≤ sumQ n fun r => rowsA lims k r * y r) : (∀ a ∈ as, y a.2.1 ≤ y a.1) ∧ y f = 0 := by
  refine ⟨fun a ha => ?_, ?_⟩
  · obtain ⟨k, hk, e⟩ := mem_at (mem_arc pm ao hf ha)
    have o := ao a ha
    have := h k hk
    rw [lim_sum e] at this
    have h2 : 0 ≤ sumQ n fun r => at0 (arcRow n a) r * y r := this
    rw [arc_sum o.lt1 o.lt2 o.ne] at h2
    grind
  · obtain ⟨k, hk, e⟩ := mem_at (mem_one pm ao hf)
    have h1 := h k hk
    rw [lim_sum e] at h1
    have h1' : (0 : Rat) ≤ sumQ n fun r => at0 (oneRow n f 1) r * y r := h1
    rw [one_sum hf] at h1'
    obtain ⟨k2, hk2, e2⟩ := mem_at (mem_two pm ao hf)
    have h2 := h k2 hk2
    rw [lim_sum e2] at h2
    have h2' : (0 : Rat) ≤ sumQ n fun r => at0 (oneRow n f (-1)) r * y r := h2
    rw [one_sum hf] at h2'
    have c1 : ((1 : Int) : Rat) = 1 := rfl
    have c2 : ((-1 : Int) : Rat) = -1 := rfl
    rw [c1] at h1'
    rw [c2] at h2'
    grind
omit pm ao hf
/-- a bound for what is reachable -/
theorem far (e : Dst) (h : Nat → Rat) (B : Rat) : ∀ n, ∃ M, B ≤ M ∧ ∀ v, v < n → ∀ x, dat e v = some x → x - h v ≤ M
  | 0 => ⟨B, Rat.le_refl, fun v hv => absurd hv (by omega)⟩
  | n + 1 => by
    obtain ⟨M, h1, h2⟩ := far e h B n
    cases q : dat e n with
    | none =>
      refine ⟨M, h1, fun v hv x hx => ?_⟩
      by_cases z : v = n
      · rw [z, q] at hx; cases hx
      · exact h2 v (by omega) x hx
    | some x =>
      by_cases c : x - h n ≤ M
      · refine ⟨M, h1, fun v hv y hy => ?_⟩
        by_cases z : v = n
        · rw [z, q] at hy; cases hy; rw [z]; exact c
        · exact h2 v (by omega) y hy
      · refine ⟨x - h n, by grind, fun v hv y hy => ?_⟩
        by_cases z : v = n
        · rw [z, q] at hy; cases hy; rw [z]; exact Rat.le_refl
        · have := h2 v (by omega) y hy
          grind
include pm ao hf
/-- heights that reach the shortest ways -/
theorem heights_at (hn : 0 < n) {h : Nat → Rat} (hp : Pot as h) (B : Rat) : ∃ z, Fe n lims z ∧ (∀ x, l < n → dat (waysK as (n + 1) (initW n [f])).1 l = some x → z l = x) ∧ (l < n → dat (waysK as (n + 1) (initW n [f])).1 l = none → B ≤ z l) := by
  have lt : ∀ a ∈ as, a.1 < n ∧ a.2.1 < n := fun a ha => ⟨(ao a ha).lt1, (ao a ha).lt2⟩
  have hst : ∀ v ∈ [f], v < n := fun v hv => by rw [List.mem_singleton.mp hv]; exact hf
  obtain ⟨e1, e2⟩ := ways_done hn lt hst hp
  rw [e1]
  show ∃ z, Fe n lims z ∧ (∀ x, l < n → dat (waysK as n (initW n [f])).1 l = some x → z l = x) ∧ (l < n → dat (waysK as n (initW n [f])).1 l = none → B ≤ z l)
  generalize hds : (waysK as n (initW n [f])).1 = ds at *
  have val : Val as [f] ds := by rw [← hds]; exact ways_val lt n
  obtain ⟨M, m1, m2⟩ := far ds h (B - h l) n
  have f0 : dat ds f = some 0 := by
    obtain ⟨x, h1, h2⟩ := ways_low lt hst n 0 f 0 (Nat.zero_le _) (wk_zero (List.mem_singleton.mpr rfl))
    rw [hds] at h1
    obtain ⟨k, w⟩ := val f x h1
    obtain ⟨u, hu, h3⟩ := wk_pot hp w
    rw [List.mem_singleton.mp hu] at h3
    have : x = 0 := by grind
    rw [h1, this]
  refine ⟨fun v => match dat ds v with | some x => x | none => h v + M, fe_to pm ao hf (fun a ha => ?_) ?_, fun x _ hx => ?_, fun _ hx => ?_⟩
  · show (match dat ds a.2.1 with | some x => x | none => h a.2.1 + M) ≤ (match dat ds a.1 with | some x => x | none => h a.1 + M) + a.2.2
    have ph := hp a ha
    cases q1 : dat ds a.1 with
    | some x =>
      obtain ⟨y, h1, h2⟩ := e2 a ha x q1
      rw [h1]
      exact h2
    | none =>
      cases q2 : dat ds a.2.1 with
      | some y =>
        have := m2 a.2.1 (lt a ha).2 y q2
        show y ≤ h a.1 + M + a.2.2
        grind
      | none =>
        show h a.2.1 + M ≤ h a.1 + M + a.2.2
        grind
  · show (match dat ds f with | some x => x | none => h f + M) = 0
    rw [f0]
  · show (match dat ds l with | some x => x | none => h l + M) = x
    rw [hx]
  · show B ≤ (match dat ds l with | some x => x | none => h l + M)
    rw [hx]
    show B ≤ h l + M
    grind
/-- a way to the last one bounds what is within -/
theorem way_bounds {z : Nat → Rat} (hz : Fe n lims z) {x : Rat} (h : dat (waysK as (n + 1) (initW n [f])).1 l = some x) : z l ≤ x := by
  have lt : ∀ a ∈ as, a.1 < n ∧ a.2.1 < n := fun a ha => ⟨(ao a ha).lt1, (ao a ha).lt2⟩
  obtain ⟨hp, h0⟩ := fe_of pm ao hf hz
  obtain ⟨k, w⟩ := ways_val lt (n + 1) l x h
  obtain ⟨u, hu, h3⟩ := wk_pot hp w
  rw [List.mem_singleton.mp hu, h0] at h3
  grind
/-- no circuit below 0: heights -/
theorem not_below (h : (waysK as (n + 1) (initW n (List.range n))).2 = false) : ∃ z, Fe n lims z := by
  obtain ⟨e1, e2⟩ := fold_still as _ h
  generalize hds : (waysK as n (initW n (List.range n))).1 = ds at *
  have all : ∀ v, v < n → ∃ x, dat ds v = some x := fun v hv => by
    have lt : ∀ a ∈ as, a.1 < n ∧ a.2.1 < n := fun a ha => ⟨(ao a ha).lt1, (ao a ha).lt2⟩
    obtain ⟨x, h1, _⟩ := ways_low (st := List.range n) lt (fun v hv => List.mem_range.mp hv) n 0 v 0 (Nat.zero_le _) (wk_zero (List.mem_range.mpr hv))
    rw [hds] at h1
    exact ⟨x, h1⟩
  obtain ⟨xf, hxf⟩ := all f hf
  refine ⟨fun v => (dat ds v).getD 0 - xf, fe_to pm ao hf (fun a ha => ?_) ?_⟩
  · obtain ⟨x, hx⟩ := all a.1 (ao a ha).lt1
    obtain ⟨y, h1, h2⟩ := e2 a ha x hx
    have h1' : dat ds a.2.1 = some y := h1
    show (dat ds a.2.1).getD 0 - xf ≤ (dat ds a.1).getD 0 - xf + a.2.2
    rw [h1', hx]
    show y - xf ≤ x - xf + a.2.2
    grind
  · show (dat ds f).getD 0 - xf = 0
    rw [hxf]
    show xf - xf = 0
    grind
theorem is_below (hn : 0 < n) {z : Nat → Rat} (hz : Fe n lims z) : (waysK as (n + 1) (initW n (List.range n))).2 = false := by
  have lt : ∀ a ∈ as, a.1 < n ∧ a.2.1 < n := fun a ha => ⟨(ao a ha).lt1, (ao a ha).lt2⟩
  rw [(ways_done hn lt (fun v hv => List.mem_range.mp hv) (fe_of pm ao hf hz).1).1]
theorem kind_of (hn : 0 < n) (hl : l < n) : ∀ a, Valid (heightsG n l) lims a → KindOk (waysK as (n + 1) (initW n (List.range n))).2 (dat (waysK as (n + 1) (initW n [f])).1 l) a
  | .best q x p, ⟨xl, pl, Bs, e⟩ => by
    have gl : (heightsG n l).length = n := one_len
    rw [gl] at Bs
    have fx : Fe n lims (at0 x) := Bs.within
    have worth := Bs.worth
    have gs : ∀ z : Nat → Rat, (sumQ n fun r => at0 (heightsG n l) r * z r) = - z l := fun z => by
      unfold heightsG
      rw [one_sum hl]
      have : ((-1 : Int) : Rat) = -1 := rfl
      rw [this]; grind
    rw [gs, ← e] at worth
    have low : ∀ z, Fe n lims z → q ≤ - z l := fun z hz => by
      have := weak (x := z) (y := at0 p) Bs.goal (fun r _ => Bs.nonneg r) hz
      rw [← e, gs] at this
      exact this
    refine ⟨is_below pm ao hf hn fx, ?_⟩
    cases hd : dat (waysK as (n + 1) (initW n [f])).1 l with
    | none =>
      exfalso
      obtain ⟨z, hz, _, h2⟩ := heights_at (l := l) pm ao hf hn (fe_of pm ao hf fx).1 (1 - q)
      have h3 := h2 hl hd
      have h4 := low z hz
      grind
    | some x0 =>
      obtain ⟨z, hz, h1, _⟩ := heights_at (l := l) pm ao hf hn (fe_of pm ao hf fx).1 0
      have h3 := h1 x0 hl hd
      have h4 := low z hz
      have h5 := way_bounds pm ao hf fx hd
      exact ⟨x0, rfl, by grind⟩
  | .empty p, ⟨pl, E⟩ => by
    have gl : (heightsG n l).length = n := one_len
    rw [gl] at E
    show (waysK as (n + 1) (initW n (List.range n))).2 = true
    cases hb : (waysK as (n + 1) (initW n (List.range n))).2 with
    | true => rfl
    | false =>
      exfalso
      obtain ⟨z, hz⟩ := not_below pm ao hf hb
      have w := weak (c := fun _ => 0) (x := z) (y := at0 p) E.zero (fun r _ => E.nonneg r) hz
      rw [sumQ_zero' (f := fun j => (0 : Rat) * z j) fun j _ => by grind] at w
      have := E.above
      grind
  | .endless x y, ⟨xl, yl, fx, R⟩ => by
    have gl : (heightsG n l).length = n := one_len
    rw [gl] at fx R
    refine ⟨is_below pm ao hf hn fx, ?_⟩
    obtain ⟨r1, r2⟩ := ray_to pm ao hf R.lines
    have rg := R.goal
    unfold heightsG at rg
    rw [one_sum hl] at rg
    have : ((-1 : Int) : Rat) = -1 := rfl
    rw [this] at rg
    cases hd : dat (waysK as (n + 1) (initW n [f])).1 l with
    | none => rfl
    | some x0 =>
      exfalso
      have lt : ∀ a ∈ as, a.1 < n ∧ a.2.1 < n := fun a ha => ⟨(ao a ha).lt1, (ao a ha).lt2⟩
      obtain ⟨k, s, g, h0, g0, hs, e1, e2⟩ := ways_val lt (n + 1) l x0 hd
      have down : ∀ i, i ≤ k → at0 y (s i) ≤ 0 := fun i => by
        induction i with
        | zero => intro _; rw [List.mem_singleton.mp h0, r2]; exact Rat.le_refl
        | succ i ih =>
          intro hi
          obtain ⟨len, m, _⟩ := hs i (by omega)
          have a1 := r1 _ m
          have a2 := ih (by omega)
          have a1' : at0 y (s (i + 1)) ≤ at0 y (s i) := a1
          grind
      have d := down k (Nat.le_refl _)
      rw [e1] at d
      grind
end
theorem heights_bits {n f l : Nat} {as : List Arc} {lims : Lims} (n1 : 2 ≤ n) (n2 : n ≤ 24) (al : as.length ≤ 120) (ao : ∀ a ∈ as, ArcOk n 1000 12 a) (hf : f < n) (hl : l < n) (pm : lims.Perm (heightsL n as f)) : Bits2 (heightsG n l) lims 1 1 27720 1000 1 1 1 120 := by
  have gl : (heightsG n l).length = n := one_len
  have ll : lims.length = as.length + 2 := by rw [pm.length_eq]; unfold heightsL; rw [List.length_append, List.length_map]; rfl
  have unit : ∀ q : Rat, q = 0 ∨ q = 1 ∨ q = -1 → MA 1 1 q := fun q h => by
    rcases h with rfl | rfl | rfl
    · exact ma_zero _ _
    · exact ⟨mu_int 1 1, by unfold Ab; decide⟩
    · exact ⟨mu_int 1 (-1), by unfold Ab; decide⟩
  have one : ∀ i (s : Int), (s = 1 ∨ s = -1) → ∀ q ∈ oneRow n i s, MA 1 1 q := fun i s hs q hq => by
    unfold oneRow at hq
    obtain ⟨r, _, rfl⟩ := List.mem_map.mp hq
    refine unit _ ?_
    split
    · rcases hs with rfl | rfl
      · exact .inr (.inl rfl)
      · exact .inr (.inr rfl)
    · exact .inl rfl
  refine ⟨⟨by omega, by omega, by omega, by omega, fun q hq => ?_, fun q hq => ?_, fun q hq => ?_, one l (-1) (.inr rfl), by omega, by omega, by omega, by decide, by decide, by decide, by decide, by decide, by decide⟩, by omega, by omega, by omega, by omega, by decide, ?_, by omega⟩
  · rw [gl]
    rcases lim_cases pm hq with ⟨a, _, rfl⟩ | rfl | rfl
    · exact arc_len
    · exact one_len
    · exact one_len
  · rcases lim_cases pm hq with ⟨a, ha, rfl⟩ | rfl | rfl
    · intro r hr
      have o := ao a ha
      obtain ⟨i, hi, rfl⟩ := List.getElem_of_mem hr
      have hi' : i < (arcRow n a).length := hi
      have e : (arcLim n a).1[i] = at0 (arcRow n a) i := by
        show (arcRow n a)[i] = _
        unfold at0; rw [List.getD_eq_getElem?_getD, List.getElem?_eq_getElem hi']; rfl
      refine (congrArg (MA 1 1) (e.trans (arc_at o.lt1 o.lt2 o.ne))).mpr (unit _ ?_)
      by_cases q1 : i = a.1
      · rw [if_pos q1, if_neg (by have := o.ne; omega)]; right; left; grind
      · by_cases q2 : i = a.2.1
        · rw [if_neg q1, if_pos q2]; right; right; grind
        · rw [if_neg q1, if_neg q2]; left; grind
    · exact one f 1 (.inl rfl)
    · exact one f (-1) (.inr rfl)
  · rcases lim_cases pm hq with ⟨a, ha, rfl⟩ | rfl | rfl
    · exact ma_neg (ln_ma (ao a ha).l)
    · exact ma_zero _ _
    · exact ma_zero _ _
  · rw [gl]
    have : (n * (1 * 1 * 1)) ^ n ≤ (2 ^ 5) ^ 24 := Nat.le_trans (Nat.pow_le_pow_left (by omega) n) (Nat.pow_le_pow_right (by omega) n2)
    rwa [← Nat.pow_mul] at this
theorem ways_ok {n f l : Nat} {as : List Arc} {lims : Lims} (n1 : 2 ≤ n) (n2 : n ≤ 24) (al : as.length ≤ 120) (ao : ∀ a ∈ as, ArcOk n 1000 12 a) (hf : f < n) (hl : l < n) (fl : f ≠ l) (pm : lims.Perm (heightsL n as f)) : WaysOk n as f l lims := by
  have B := heights_bits n1 n2 al ao hf hl pm
  exact ⟨B.ans, B.is, fun a r => kind_of pm ao hf (by omega) hl a (run_valid r)⟩
end LP
end

section
set_option Elab.async false
set_option linter.all false
set_option maxRecDepth 100000
open PySem PySem.W PyProof.Rows
set_option maxHeartbeats 40000000
open_top head for PySem.Challenge.rw_advisedplay_k20_across_programs_of_short
end

section
set_option Elab.async false
set_option linter.all false
set_option maxRecDepth 100000
set_option maxHeartbeats 40000000
namespace WB
open PySem PySem.Spec PyProof.Rows L2 LamX LP
theorem nm_mk {K : PySem.W.Frag} {h : Heap} {mg : Str → Option Value} {x : Str} {st : Stmt} {ps : List Str} {f : Addr} {oc : Value} {od an : Option Addr} {osl : Array (Option Value)} {kV doc pm cdv ct : Value} (X : K.In h) (G : h.Ns mainGlobals mg)
    (a : PySem.W.nsIn K mainGlobals x = some (some (.ref f))) (l : K.lookup f = some ⟨oc, od, .func (PySem.W.fnOf x x (defArgs st) (defBody st) (defScope st) .none kV doc pm an cdv ct), osl⟩) (c : PySem.W.codeIn K cdv x = true) (k : PySem.W.keepIn K (.ref f) = true)
    (b : ∀ (kV doc pm : Value) (an : Option Addr) (cdv ct : Value) (us : List Value), us.length = ps.length → bindArgs (PySem.W.fnOf x x (defArgs st) (defBody st) (defScope st) .none kV doc pm an cdv ct) ⟨us, []⟩ = pure (ps.zip us)) : ∃ a, Nm K mg x st ps a :=
  ⟨(f, _), fun_mk l c k, (fun_mk l c k).binds b, PySem.W.mg_of X G a⟩
theorem mth_mk {K : PySem.W.Frag} {C : Addr} {x q : Str} {st : Stmt} {ps : List Str} {f : Addr} {oc : Value} {od an : Option Addr} {osl : Array (Option Value)} {kV doc pm cdv ct : Value}
    (a : PySem.W.findIn K (.ref C) x = some (some (.ref f))) (i : PySem.W.isFn K (.ref f) = true) (l : K.lookup f = some ⟨oc, od, .func (PySem.W.fnOf x q (defArgs st) (defBody st) (defScope st) .none kV doc pm an cdv ct), osl⟩) (c : PySem.W.codeIn K cdv q = true) (k : PySem.W.keepIn K (.ref f) = true)
    (b : ∀ (kV doc pm : Value) (an : Option Addr) (cdv ct : Value) (us : List Value), us.length = ps.length → bindArgs (PySem.W.fnOf x q (defArgs st) (defBody st) (defScope st) .none kV doc pm an cdv ct) ⟨us, []⟩ = pure (ps.zip us)) : ∃ a, Mth K C x q st ps a :=
  ⟨(f, _), fun_mk l c k, (fun_mk l c k).binds b, a, i, k⟩
theorem mth_mk' {K : PySem.W.Frag} {C : Addr} {x q : Str} {st : Stmt} {ps : List Str} {f : Addr} {oc : Value} {od an : Option Addr} {osl : Array (Option Value)} {kV doc pm cdv ct : Value}
    (a : PySem.W.findIn K (.ref C) x = some (some (.ref f))) (i : PySem.W.isFn K (.ref f) = true) (l : K.lookup f = some ⟨oc, od, .func (PySem.W.fnOf x q (defArgs st) (defBody st) (defScope st) .none kV doc pm an cdv ct), osl⟩) (c : PySem.W.codeIn K cdv q = true) (k : PySem.W.keepIn K (.ref f) = true)
    (b : ∀ (kV doc pm : Value) (an : Option Addr) (cdv ct : Value) (us : List Value), us.length = ps.length → bindArgs (PySem.W.fnOf x q (defArgs st) (defBody st) (defScope st) .none kV doc pm an cdv ct) ⟨us, []⟩ = pure (ps.zip us)) : Mth K C x q st ps (f, PySem.W.fnOf x q (defArgs st) (defBody st) (defScope st) .none kV doc pm an cdv ct) :=
  ⟨fun_mk l c k, (fun_mk l c k).binds b, a, i, k⟩
theorem na_mk {K : PySem.W.Frag} {C : Addr} {f : Str} (e : PySem.W.findIn K (.ref C) f = some none) : NoAttr K C f := e
theorem mk_mk {K : PySem.W.Frag} {C f : Addr} {fd : FuncData} (a : PySem.W.makesIn K C = true) (b : PySem.W.findIn K (.ref C) "__init__" = some (some (.ref f))) (c : PySem.W.isFn K (.ref f) = true) (d : PySem.W.keepIn K (.ref C) = true) : Mk K C (f, fd).1 := ⟨a, b, c, d⟩
theorem zero_mk {K : PySem.W.Frag} {h : Heap} {mg : Str → Option Value} {z n : Nat} {od : Option Addr} {osl : Array (Option Value)} {t0 t1 : Tok} (X : K.In h) (G : h.Ns mainGlobals mg) (a : PySem.W.nsIn K mainGlobals "ZERO" = some (some (.ref z)))
    (l : K.lookup z = some ⟨.type "tuple", od, .seq #[.int 0 t0, .int 1 t1] n, osl⟩) : ∃ z, mg "ZERO" = some (.ref z) ∧ ∀ H, L2.SqT K H z [.int 0, .int 1] :=
  ⟨z, PySem.W.mg_of X G a, fun H => .inr ⟨_, _, _, l, rfl, rfl, by show 2 ≤ sizeLine; decide, .cons ⟨_, rfl⟩ (.cons ⟨_, rfl⟩ .nil)⟩⟩
theorem nmC_mk {K : PySem.W.Frag} {h : Heap} {mg : Str → Option Value} {x : Str} {st : Stmt} {ps : List Str} {f ca Pc : Addr} {oc : Value} {od an : Option Addr} {osl : Array (Option Value)} {kV doc pm ct : Value} (X : K.In h) (G : h.Ns mainGlobals mg)
    (a : PySem.W.nsIn K mainGlobals x = some (some (.ref f))) (l : K.lookup f = some ⟨oc, od, .func (PySem.W.fnOf x x (defArgs st) (defBody st) (defScope st) .none kV doc pm an (.ref ca) ct), osl⟩) (c : PySem.W.codeIn K (.ref ca) x = true) (k : PySem.W.keepIn K (.ref f) = true) (hd : PySem.W.codeHdIn K ca Pc = true)
    (b : ∀ (kV doc pm : Value) (an : Option Addr) (cdv ct : Value) (us : List Value), us.length = ps.length → bindArgs (PySem.W.fnOf x x (defArgs st) (defBody st) (defScope st) .none kV doc pm an cdv ct) ⟨us, []⟩ = pure (ps.zip us)) : ∃ a c, Nm K mg x st ps a ∧ FunC K x x st a c ∧ PySem.W.CodeHd h c Pc :=
  ⟨(f, _), ca, ⟨fun_mk l c k, (fun_mk l c k).binds b, PySem.W.mg_of X G a⟩, ⟨_, _, _, _, _, _, _, _, rfl, l, c⟩, PySem.W.codeHd_of_K X hd⟩
theorem kit_ref {K : PySem.W.Frag} {E D : Addr} {b : Bool} (hne : (Value.ref E == Value.ref D) = false) (hd : PySem.W.hasDictIn K D = true) (ht : PySem.W.typeIn K (.ref D) = some (.type "type")) (h : PySem.W.subIn K (.ref E) (.ref D) = some b) : PySem.W.kitOne K (.ref E) (.ref D) = some b := by
  obtain ⟨cd, hc, _⟩ := PySem.W.any_some hd
  have e2 : ((PySem.W.clsIn K D).isSome && PySem.W.typeIn K (.ref D) == some (.type "type")) = true := by rw [hc, ht] <;> rfl
  unfold PySem.W.kitOne
  rw [hne, if_neg Bool.false_ne_true]
  show (if ((PySem.W.clsIn K D).isSome && PySem.W.typeIn K (.ref D) == some (.type "type")) = true then PySem.W.subIn K (.ref E) (.ref D) else none) = some b
  rw [if_pos e2]; exact h
theorem kit_self {K : PySem.W.Frag} {E : Addr} (h : (Value.ref E == Value.ref E) = true) : PySem.W.kitOne K (.ref E) (.ref E) = some true := by
  unfold PySem.W.kitOne
  rw [if_pos h]
theorem exc_mk {K : PySem.W.Frag} {h : Heap} {mg : Str → Option Value} {P E D : Addr} (X : K.In h) (G : h.Ns mainGlobals mg)
    (nP : PySem.W.nsIn K mainGlobals "PlayError" = some (some (.ref P))) (nE : PySem.W.nsIn K mainGlobals "Empty" = some (some (.ref E))) (nD : PySem.W.nsIn K mainGlobals "Endless" = some (some (.ref D)))
    (xE : PySem.W.excIn K E VEb "ValueError.__new__" = true) (xD : PySem.W.excIn K D VEb "ValueError.__new__" = true) (kE : PySem.W.keepIn K (.ref E) = true) (kD : PySem.W.keepIn K (.ref D) = true)
    (bE : PySem.W.subIn K (.ref E) (.type "BaseException") = some true) (bD : PySem.W.subIn K (.ref D) (.type "BaseException") = some true) (tE : PySem.W.typeIn K (.ref E) = some (.type "type")) (tD : PySem.W.typeIn K (.ref D) = some (.type "type"))
    (bP : PySem.W.subIn K (.ref P) (.type "BaseException") = some true) (dP : PySem.W.hasDictIn K P = true) (tP : PySem.W.typeIn K (.ref P) = some (.type "type")) (sE : PySem.W.subIn K (.ref E) (.ref P) = some true) (sD : PySem.W.subIn K (.ref D) (.ref P) = some true)
    (gE : PySem.W.findIn K (.ref E) "__getattribute__" = some (some (.builtin "BaseException.__getattribute__"))) (gD : PySem.W.findIn K (.ref D) "__getattribute__" = some (some (.builtin "BaseException.__getattribute__")))
    (aE : PySem.W.findIn K (.ref E) "__getattr__" = some none) (aD : PySem.W.findIn K (.ref D) "__getattr__" = some none) (dE : PySem.W.hasDictIn K E = true) (dD : PySem.W.hasDictIn K D = true)
    (cE : PySem.W.findIn K (.ref E) "__class__" = some (some (.builtin "object.__class__"))) (cD : PySem.W.findIn K (.ref D) "__class__" = some (some (.builtin "object.__class__")))
    (hn : PySem.W.specialIn K (.builtin "object.__class__") "__get__" = some (some (.builtin "getset_descriptor.__get__"))) (ht : PySem.W.takesIn K (.builtin "object.__class__") = some true)
    (mE : PySem.W.mroIn K E (.type "object") = some true) (mD : PySem.W.mroIn K D (.type "object") = some true) (eD : PySem.W.subIn K (.ref E) (.ref D) = some false) (dEf : PySem.W.subIn K (.ref D) (.ref E) = some false)
    (n1 : (Value.ref E == Value.ref D) = false) (n2 : (Value.ref D == Value.ref E) = false) (n3 : (Value.ref E == Value.ref E) = true) (n4 : (Value.ref D == Value.ref D) = true) : ∃ Z, ExcT K mg Z :=
  ⟨⟨P, E, D⟩, ⟨PySem.W.mg_of X G nP, ⟨PySem.W.mg_of X G nE, xE, kE, bE, tE⟩, ⟨PySem.W.mg_of X G nD, xD, kD, bD, tD⟩, PySem.W.exm_ref bP dP tP sE, PySem.W.exm_ref bP dP tP sD,
    ⟨gE, aE, bE, dE, cE, hn, ht, mE⟩, ⟨gD, aD, bD, dD, cD, hn, ht, mD⟩, kit_self n3, kit_ref n1 dD tD eD, kit_ref n2 dE tE dEf, kit_self n4⟩⟩
theorem nmL_mk {K : PySem.W.Frag} {h : Heap} {mg : Str → Option Value} {x : Str} {st : Stmt} {p : Str} {f : Addr} {oc : Value} {od an : Option Addr} {osl : Array (Option Value)} {kV doc pm cdv ct : Value} (X : K.In h) (G : h.Ns mainGlobals mg)
    (a : PySem.W.nsIn K mainGlobals x = some (some (.ref f))) (l : K.lookup f = some ⟨oc, od, .func (PySem.W.fnOf x x (defArgs st) (defBody st) (defScope st) .none kV doc pm an cdv ct), osl⟩) (c : PySem.W.codeIn K cdv x = true) (k : PySem.W.keepIn K (.ref f) = true)
    (b : ∀ (kV doc pm : Value) (an : Option Addr) (cdv ct : Value) (us : List Value), us.length = [p].length → bindArgs (PySem.W.fnOf x x (defArgs st) (defBody st) (defScope st) .none kV doc pm an cdv ct) ⟨us, []⟩ = pure ([p].zip us)) : ∃ a, Nm K mg x st [p] a ∧ ∀ (s : Shared) (u : Value), BindsTo s a.2 ⟨[u], []⟩ [(p, u)] :=
  ⟨(f, _), ⟨fun_mk l c k, (fun_mk l c k).binds b, PySem.W.mg_of X G a⟩, fun s u => .of_eq (b _ _ _ _ _ _ [u] rfl)⟩
end WB

open PySem PySem.W PyProof.Rows in
theorem PySem.Challenge.cw_advisedplay_k20_across_programs_of_short_holds : PySem.Challenge.rw_advisedplay_k20_across_programs_of_short.Holds := by
  refine head ?walk
  k_fill
  refine LamX.walk_ofTs (l := PySem.Challenge.rw_advisedplay_k20_across_programs_of_short) (n := 63) (k := 12) (x := "script") (CX := fun _ => L2.CX0) rfl (by decide) rfl ⟨rfl, by decide, by decide⟩ (fun w h Y => PySem.W.km_in_of Y) ?F (fun _ _ _ _ _ z => z)
  intro w mg fa h Y KX G hmg0
  have hmg : mg "law" = some (.ref fa) := hmg0
  have hT8 := PySem.W.km_tabs_of Y
  have t_cls : ∃ C a_Tableau___init__ a_Tableau_turn a_Tableau_moved a_Tableau_leaving a_Tableau_climb a_Tableau_drive_out a_Tableau_weights a_Tableau_ray a_Tableau_prices, mg "Tableau" = some (.ref C) ∧ L2.Cls (head.heap_39 w.params) C ∧ L2.Mk (head.heap_39 w.params) C a_Tableau___init__.1 ∧ L2.NoAttr (head.heap_39 w.params) C "many" ∧ L2.NoAttr (head.heap_39 w.params) C "lines" ∧ L2.NoAttr (head.heap_39 w.params) C "factors" ∧ L2.NoAttr (head.heap_39 w.params) C "gains" ∧ L2.NoAttr (head.heap_39 w.params) C "scale" ∧ L2.NoAttr (head.heap_39 w.params) C "wants" ∧ L2.NoAttr (head.heap_39 w.params) C "unit" ∧ L2.NoAttr (head.heap_39 w.params) C "basis" ∧ WB.Mth (head.heap_39 w.params) C "__init__" "Tableau.__init__" WB.s_Tableau___init__ ["self", "columns", "goals", "gains"] a_Tableau___init__ ∧ WB.Mth (head.heap_39 w.params) C "turn" "Tableau.turn" WB.s_Tableau_turn ["self", "spot", "at"] a_Tableau_turn ∧ WB.Mth (head.heap_39 w.params) C "moved" "Tableau.moved" WB.s_Tableau_moved ["self", "line", "own", "head", "at"] a_Tableau_moved ∧ WB.Mth (head.heap_39 w.params) C "leaving" "Tableau.leaving" WB.s_Tableau_leaving ["self", "at"] a_Tableau_leaving ∧ WB.Mth (head.heap_39 w.params) C "climb" "Tableau.climb" WB.s_Tableau_climb ["self", "line_of"] a_Tableau_climb ∧ WB.Mth (head.heap_39 w.params) C "drive_out" "Tableau.drive_out" WB.s_Tableau_drive_out ["self"] a_Tableau_drive_out ∧ WB.Mth (head.heap_39 w.params) C "weights" "Tableau.weights" WB.s_Tableau_weights ["self"] a_Tableau_weights ∧ WB.Mth (head.heap_39 w.params) C "ray" "Tableau.ray" WB.s_Tableau_ray ["self", "at"] a_Tableau_ray ∧ WB.Mth (head.heap_39 w.params) C "prices" "Tableau.prices" WB.s_Tableau_prices ["self", "line", "scale"] a_Tableau_prices := by
    refine' ⟨_, _, _, _, _, _, _, _, _, _, PySem.W.mg_of KX G ?c, ⟨?pg, ?hd, ?po, ?sa⟩, WB.mk_mk ?mk ?mi ?mf ?kc, WB.na_mk ?na0, WB.na_mk ?na1, WB.na_mk ?na2, WB.na_mk ?na3, WB.na_mk ?na4, WB.na_mk ?na5, WB.na_mk ?na6, WB.na_mk ?na7, WB.mth_mk' ?a0 ?i0 ?l0 ?c0 ?k0 (fun _ _ _ _ _ _ us hl => match us, hl with | [_, _, _, _], _ => rfl), WB.mth_mk' ?a1 ?i1 ?l1 ?c1 ?k1 (fun _ _ _ _ _ _ us hl => match us, hl with | [_, _, _], _ => rfl), WB.mth_mk' ?a2 ?i2 ?l2 ?c2 ?k2 (fun _ _ _ _ _ _ us hl => match us, hl with | [_, _, _, _, _], _ => rfl), WB.mth_mk' ?a3 ?i3 ?l3 ?c3 ?k3 (fun _ _ _ _ _ _ us hl => match us, hl with | [_, _], _ => rfl), WB.mth_mk' ?a4 ?i4 ?l4 ?c4 ?k4 (fun _ _ _ _ _ _ us hl => match us, hl with | [_, _], _ => rfl), WB.mth_mk' ?a5 ?i5 ?l5 ?c5 ?k5 (fun _ _ _ _ _ _ us hl => match us, hl with | [_], _ => rfl), WB.mth_mk' ?a6 ?i6 ?l6 ?c6 ?k6 (fun _ _ _ _ _ _ us hl => match us, hl with | [_], _ => rfl), WB.mth_mk' ?a7 ?i7 ?l7 ?c7 ?k7 (fun _ _ _ _ _ _ us hl => match us, hl with | [_, _], _ => rfl), WB.mth_mk' ?a8 ?i8 ?l8 ?c8 ?k8 (fun _ _ _ _ _ _ us hl => match us, hl with | [_, _, _], _ => rfl)⟩
    (case c => k_is)
    (case pg => k_is)
    (case hd => k_is)
    (case po => k_is)
    (case sa => k_is)
    (case mk => k_is)
    (case mi => k_is)
    (case mf => k_is)
    (case kc => k_is)
    (case na0 => k_is)
    (case na1 => k_is)
    (case na2 => k_is)
    (case na3 => k_is)
    (case na4 => k_is)
    (case na5 => k_is)
    (case na6 => k_is)
    (case na7 => k_is)
    (case a0 => k_is)
    (case i0 => k_is)
    (case l0 => k_is)
    (case c0 => k_is)
    (case k0 => k_is)
    (case a1 => k_is)
    (case i1 => k_is)
    (case l1 => k_is)
    (case c1 => k_is)
    (case k1 => k_is)
    (case a2 => k_is)
    (case i2 => k_is)
    (case l2 => k_is)
    (case c2 => k_is)
    (case k2 => k_is)
    (case a3 => k_is)
    (case i3 => k_is)
    (case l3 => k_is)
    (case c3 => k_is)
    (case k3 => k_is)
    (case a4 => k_is)
    (case i4 => k_is)
    (case l4 => k_is)
    (case c4 => k_is)
    (case k4 => k_is)
    (case a5 => k_is)
    (case i5 => k_is)
    (case l5 => k_is)
    (case c5 => k_is)
    (case k5 => k_is)
    (case a6 => k_is)
    (case i6 => k_is)
    (case l6 => k_is)
    (case c6 => k_is)
    (case k6 => k_is)
    (case a7 => k_is)
    (case i7 => k_is)
    (case l7 => k_is)
    (case c7 => k_is)
    (case k7 => k_is)
    (case a8 => k_is)
    (case i8 => k_is)
    (case l8 => k_is)
    (case c8 => k_is)
    (case k8 => k_is)
  have t_exc : ∃ Z, WB.ExcT (head.heap_39 w.params) mg Z := by
    refine' WB.exc_mk KX G ?nP ?nE ?nD ?xE ?xD ?kE ?kD ?bE ?bD ?tE ?tD ?bP ?dP ?tP ?sE ?sD ?gE ?gD ?aE ?aD ?dE ?dD ?cE ?cD ?hn ?ht ?mE ?mD ?eD ?dEf ?n1 ?n2 ?n3 ?n4
    (case nP => k_is)
    (case nE => k_is)
    (case nD => k_is)
    (case xE => k_exc)
    (case xD => k_exc)
    (case kE => k_is)
    (case kD => k_is)
    (case bE => k_is)
    (case bD => k_is)
    (case tE => k_is)
    (case tD => k_is)
    (case bP => k_is)
    (case dP => k_is)
    (case tP => k_is)
    (case sE => k_is)
    (case sD => k_is)
    (case gE => k_is)
    (case gD => k_is)
    (case aE => k_is)
    (case aD => k_is)
    (case dE => k_is)
    (case dD => k_is)
    (case cE => k_is)
    (case cD => k_is)
    (case hn => k_is)
    (case ht => k_is)
    (case mE => k_is)
    (case mD => k_is)
    (case eD => k_is)
    (case dEf => k_is)
    (case n1 => decide)
    (case n2 => decide)
    (case n3 => decide)
    (case n4 => decide)
  have t_ZERO : ∃ z, mg "ZERO" = some (.ref z) ∧ ∀ H, L2.SqT (head.heap_39 w.params) H z [.int 0, .int 1] := by
    refine' WB.zero_mk KX G ?a ?l
    (case a => k_is)
    (case l => k_is)
  have t_g_MOST : ∃ t, mg "MOST" = some (.int 200 t) := by
    refine' ⟨_, (PySem.W.mg_of KX G ?a).trans ?b⟩
    (case a => k_is)
    (case b => rfl)
  have t_g_MOST_PLACES : ∃ t, mg "MOST_PLACES" = some (.int 40 t) := by
    refine' ⟨_, (PySem.W.mg_of KX G ?a).trans ?b⟩
    (case a => k_is)
    (case b => rfl)
  have t_g_MOST_LIMITS : ∃ t, mg "MOST_LIMITS" = some (.int 200 t) := by
    refine' ⟨_, (PySem.W.mg_of KX G ?a).trans ?b⟩
    (case a => k_is)
    (case b => rfl)
  have t_g_gcd : mg "gcd" = some (.builtin "math.gcd") := by
    refine' PySem.W.mg_of KX G ?a
    (case a => k_is)
  have t_g_lcm : mg "lcm" = some (.builtin "math.lcm") := by
    refine' PySem.W.mg_of KX G ?a
    (case a => k_is)
  have t_n_len : mg "len" = none := by
    refine' PySem.W.mg_none_of KX G ?a
    (case a => k_is)
  have t_n_sum : mg "sum" = none := by
    refine' PySem.W.mg_none_of KX G ?a
    (case a => k_is)
  have t_n_all : mg "all" = none := by
    refine' PySem.W.mg_none_of KX G ?a
    (case a => k_is)
  have t_n_any : mg "any" = none := by
    refine' PySem.W.mg_none_of KX G ?a
    (case a => k_is)
  have t_n_isinstance : mg "isinstance" = none := by
    refine' PySem.W.mg_none_of KX G ?a
    (case a => k_is)
  have t_n_list : mg "list" = none := by
    refine' PySem.W.mg_none_of KX G ?a
    (case a => k_is)
  have t_n_tuple : mg "tuple" = none := by
    refine' PySem.W.mg_none_of KX G ?a
    (case a => k_is)
  have t_n_range : mg "range" = none := by
    refine' PySem.W.mg_none_of KX G ?a
    (case a => k_is)
  have t_n_zip : mg "zip" = none := by
    refine' PySem.W.mg_none_of KX G ?a
    (case a => k_is)
  have t_n_enumerate : mg "enumerate" = none := by
    refine' PySem.W.mg_none_of KX G ?a
    (case a => k_is)
  have t_n_int : mg "int" = none := by
    refine' PySem.W.mg_none_of KX G ?a
    (case a => k_is)
  have t_n_bool : mg "bool" = none := by
    refine' PySem.W.mg_none_of KX G ?a
    (case a => k_is)
  have t_n_str : mg "str" = none := by
    refine' PySem.W.mg_none_of KX G ?a
    (case a => k_is)
  have t_n_abs : mg "abs" = none := by
    refine' PySem.W.mg_none_of KX G ?a
    (case a => k_is)
  have t_n_min : mg "min" = none := by
    refine' PySem.W.mg_none_of KX G ?a
    (case a => k_is)
  have t_n_max : mg "max" = none := by
    refine' PySem.W.mg_none_of KX G ?a
    (case a => k_is)
  have t_is_whole : ∃ a, WB.Nm (head.heap_39 w.params) mg "is_whole" WB.s_is_whole ["value"] a := by
    refine' WB.nm_mk KX G ?a ?l ?c ?k (fun _ _ _ _ _ _ us hl => match us, hl with | [_], _ => rfl)
    (case a => k_is)
    (case l => k_is)
    (case c => k_is)
    (case k => k_is)
  have t_is_ratio : ∃ a, WB.Nm (head.heap_39 w.params) mg "is_ratio" WB.s_is_ratio ["value"] a := by
    refine' WB.nm_mk KX G ?a ?l ?c ?k (fun _ _ _ _ _ _ us hl => match us, hl with | [_], _ => rfl)
    (case a => k_is)
    (case l => k_is)
    (case c => k_is)
    (case k => k_is)
  have t_lowest : ∃ a, WB.Nm (head.heap_39 w.params) mg "lowest" WB.s_lowest ["n", "d"] a := by
    refine' WB.nm_mk KX G ?a ?l ?c ?k (fun _ _ _ _ _ _ us hl => match us, hl with | [_, _], _ => rfl)
    (case a => k_is)
    (case l => k_is)
    (case c => k_is)
    (case k => k_is)
  have t_plus : ∃ a, WB.Nm (head.heap_39 w.params) mg "plus" WB.s_plus ["one", "other"] a := by
    refine' WB.nm_mk KX G ?a ?l ?c ?k (fun _ _ _ _ _ _ us hl => match us, hl with | [_, _], _ => rfl)
    (case a => k_is)
    (case l => k_is)
    (case c => k_is)
    (case k => k_is)
  have t_times : ∃ a, WB.Nm (head.heap_39 w.params) mg "times" WB.s_times ["one", "other"] a := by
    refine' WB.nm_mk KX G ?a ?l ?c ?k (fun _ _ _ _ _ _ us hl => match us, hl with | [_, _], _ => rfl)
    (case a => k_is)
    (case l => k_is)
    (case c => k_is)
    (case k => k_is)
  have t_is_less : ∃ a, WB.Nm (head.heap_39 w.params) mg "is_less" WB.s_is_less ["one", "other"] a := by
    refine' WB.nm_mk KX G ?a ?l ?c ?k (fun _ _ _ _ _ _ us hl => match us, hl with | [_, _], _ => rfl)
    (case a => k_is)
    (case l => k_is)
    (case c => k_is)
    (case k => k_is)
  have t_total : ∃ a, WB.Nm (head.heap_39 w.params) mg "total" WB.s_total ["ratios"] a := by
    refine' WB.nm_mk KX G ?a ?l ?c ?k (fun _ _ _ _ _ _ us hl => match us, hl with | [_], _ => rfl)
    (case a => k_is)
    (case l => k_is)
    (case c => k_is)
    (case k => k_is)
  have t_cleared : ∃ a, WB.Nm (head.heap_39 w.params) mg "cleared" WB.s_cleared ["row"] a := by
    refine' WB.nm_mk KX G ?a ?l ?c ?k (fun _ _ _ _ _ _ us hl => match us, hl with | [_], _ => rfl)
    (case a => k_is)
    (case l => k_is)
    (case c => k_is)
    (case k => k_is)
  have t_is_vector : ∃ a, WB.Nm (head.heap_39 w.params) mg "is_vector" WB.s_is_vector ["value"] a := by
    refine' WB.nm_mk KX G ?a ?l ?c ?k (fun _ _ _ _ _ _ us hl => match us, hl with | [_], _ => rfl)
    (case a => k_is)
    (case l => k_is)
    (case c => k_is)
    (case k => k_is)
  have t_dot : ∃ a, WB.Nm (head.heap_39 w.params) mg "dot" WB.s_dot ["one", "other"] a := by
    refine' WB.nm_mk KX G ?a ?l ?c ?k (fun _ _ _ _ _ _ us hl => match us, hl with | [_, _], _ => rfl)
    (case a => k_is)
    (case l => k_is)
    (case c => k_is)
    (case k => k_is)
  have t_scaled : ∃ a, WB.Nm (head.heap_39 w.params) mg "scaled" WB.s_scaled ["share", "vector"] a := by
    refine' WB.nm_mk KX G ?a ?l ?c ?k (fun _ _ _ _ _ _ us hl => match us, hl with | [_, _], _ => rfl)
    (case a => k_is)
    (case l => k_is)
    (case c => k_is)
    (case k => k_is)
  have t_added : ∃ a, WB.Nm (head.heap_39 w.params) mg "added" WB.s_added ["one", "other"] a := by
    refine' WB.nm_mk KX G ?a ?l ?c ?k (fun _ _ _ _ _ _ us hl => match us, hl with | [_, _], _ => rfl)
    (case a => k_is)
    (case l => k_is)
    (case c => k_is)
    (case k => k_is)
  have t_mixed : ∃ a, WB.Nm (head.heap_39 w.params) mg "mixed" WB.s_mixed ["weights", "rows"] a := by
    refine' WB.nm_mk KX G ?a ?l ?c ?k (fun _ _ _ _ _ _ us hl => match us, hl with | [_, _], _ => rfl)
    (case a => k_is)
    (case l => k_is)
    (case c => k_is)
    (case k => k_is)
  have t_is_limit : ∃ a, WB.Nm (head.heap_39 w.params) mg "is_limit" WB.s_is_limit ["value", "width"] a := by
    refine' WB.nm_mk KX G ?a ?l ?c ?k (fun _ _ _ _ _ _ us hl => match us, hl with | [_, _], _ => rfl)
    (case a => k_is)
    (case l => k_is)
    (case c => k_is)
    (case k => k_is)
  have t_is_program : ∃ a, WB.Nm (head.heap_39 w.params) mg "is_program" WB.s_is_program ["value"] a := by
    refine' WB.nm_mk KX G ?a ?l ?c ?k (fun _ _ _ _ _ _ us hl => match us, hl with | [_], _ => rfl)
    (case a => k_is)
    (case l => k_is)
    (case c => k_is)
    (case k => k_is)
  have t_need_program : ∃ a, WB.Nm (head.heap_39 w.params) mg "need_program" WB.s_need_program ["program"] a := by
    refine' WB.nm_mk KX G ?a ?l ?c ?k (fun _ _ _ _ _ _ us hl => match us, hl with | [_], _ => rfl)
    (case a => k_is)
    (case l => k_is)
    (case c => k_is)
    (case k => k_is)
  have t_climbed : ∃ a c, WB.Nm (head.heap_39 w.params) mg "climbed" WB.s_climbed ["goal", "limits"] a ∧ WB.FunC (head.heap_39 w.params) "climbed" "climbed" WB.s_climbed a c ∧ PySem.W.CodeHd h c 259 := by
    refine' WB.nmC_mk KX G ?a ?l ?c ?k ?hd (fun _ _ _ _ _ _ us hl => match us, hl with | [_, _], _ => rfl)
    (case a => k_is)
    (case l => k_is)
    (case c => k_is)
    (case k => k_is)
    (case hd => rfl)
  have t_solve : ∃ a, WB.Nm (head.heap_39 w.params) mg "solve" WB.s_solve ["goal", "limits"] a := by
    refine' WB.nm_mk KX G ?a ?l ?c ?k (fun _ _ _ _ _ _ us hl => match us, hl with | [_, _], _ => rfl)
    (case a => k_is)
    (case l => k_is)
    (case c => k_is)
    (case k => k_is)
  have t_answer : ∃ a, WB.Nm (head.heap_39 w.params) mg "answer" WB.s_answer ["program"] a := by
    refine' WB.nm_mk KX G ?a ?l ?c ?k (fun _ _ _ _ _ _ us hl => match us, hl with | [_], _ => rfl)
    (case a => k_is)
    (case l => k_is)
    (case c => k_is)
    (case k => k_is)
  have t_are_prices : ∃ a, WB.Nm (head.heap_39 w.params) mg "are_prices" WB.s_are_prices ["value", "many"] a := by
    refine' WB.nm_mk KX G ?a ?l ?c ?k (fun _ _ _ _ _ _ us hl => match us, hl with | [_, _], _ => rfl)
    (case a => k_is)
    (case l => k_is)
    (case c => k_is)
    (case k => k_is)
  have t_summed : ∃ a, WB.Nm (head.heap_39 w.params) mg "summed" WB.s_summed ["weights", "limits", "width"] a := by
    refine' WB.nm_mk KX G ?a ?l ?c ?k (fun _ _ _ _ _ _ us hl => match us, hl with | [_, _, _], _ => rfl)
    (case a => k_is)
    (case l => k_is)
    (case c => k_is)
    (case k => k_is)
  have t_is_point : ∃ a, WB.Nm (head.heap_39 w.params) mg "is_point" WB.s_is_point ["program", "value"] a := by
    refine' WB.nm_mk KX G ?a ?l ?c ?k (fun _ _ _ _ _ _ us hl => match us, hl with | [_, _], _ => rfl)
    (case a => k_is)
    (case l => k_is)
    (case c => k_is)
    (case k => k_is)
  have t_is_within : ∃ a, WB.Nm (head.heap_39 w.params) mg "is_within" WB.s_is_within ["program", "point"] a := by
    refine' WB.nm_mk KX G ?a ?l ?c ?k (fun _ _ _ _ _ _ us hl => match us, hl with | [_, _], _ => rfl)
    (case a => k_is)
    (case l => k_is)
    (case c => k_is)
    (case k => k_is)
  have t_is_best : ∃ a, WB.Nm (head.heap_39 w.params) mg "is_best" WB.s_is_best ["program", "value"] a := by
    refine' WB.nm_mk KX G ?a ?l ?c ?k (fun _ _ _ _ _ _ us hl => match us, hl with | [_, _], _ => rfl)
    (case a => k_is)
    (case l => k_is)
    (case c => k_is)
    (case k => k_is)
  have t_is_empty : ∃ a, WB.Nm (head.heap_39 w.params) mg "is_empty" WB.s_is_empty ["program", "value"] a := by
    refine' WB.nm_mk KX G ?a ?l ?c ?k (fun _ _ _ _ _ _ us hl => match us, hl with | [_, _], _ => rfl)
    (case a => k_is)
    (case l => k_is)
    (case c => k_is)
    (case k => k_is)
  have t_is_endless : ∃ a, WB.Nm (head.heap_39 w.params) mg "is_endless" WB.s_is_endless ["program", "value"] a := by
    refine' WB.nm_mk KX G ?a ?l ?c ?k (fun _ _ _ _ _ _ us hl => match us, hl with | [_, _], _ => rfl)
    (case a => k_is)
    (case l => k_is)
    (case c => k_is)
    (case k => k_is)
  have t_is_answer : ∃ a, WB.Nm (head.heap_39 w.params) mg "is_answer" WB.s_is_answer ["program", "value"] a := by
    refine' WB.nm_mk KX G ?a ?l ?c ?k (fun _ _ _ _ _ _ us hl => match us, hl with | [_, _], _ => rfl)
    (case a => k_is)
    (case l => k_is)
    (case c => k_is)
    (case k => k_is)
  have t_least : ∃ a, WB.Nm (head.heap_39 w.params) mg "least" WB.s_least ["program"] a := by
    refine' WB.nm_mk KX G ?a ?l ?c ?k (fun _ _ _ _ _ _ us hl => match us, hl with | [_], _ => rfl)
    (case a => k_is)
    (case l => k_is)
    (case c => k_is)
    (case k => k_is)
  have t__law_begun : ∃ a, WB.Nm (head.heap_39 w.params) mg "_law_begun" WB.s__law_begun ["script"] a := by
    refine' WB.nm_mk KX G ?a ?l ?c ?k (fun _ _ _ _ _ _ us hl => match us, hl with | [_], _ => rfl)
    (case a => k_is)
    (case l => k_is)
    (case c => k_is)
    (case k => k_is)
  have t__law_blended : ∃ a, WB.Nm (head.heap_39 w.params) mg "_law_blended" WB.s__law_blended ["state"] a := by
    refine' WB.nm_mk KX G ?a ?l ?c ?k (fun _ _ _ _ _ _ us hl => match us, hl with | [_], _ => rfl)
    (case a => k_is)
    (case l => k_is)
    (case c => k_is)
    (case k => k_is)
  have t__law_draw : ∃ a, WB.Nm (head.heap_39 w.params) mg "_law_draw" WB.s__law_draw ["state", "room"] a := by
    refine' WB.nm_mk KX G ?a ?l ?c ?k (fun _ _ _ _ _ _ us hl => match us, hl with | [_, _], _ => rfl)
    (case a => k_is)
    (case l => k_is)
    (case c => k_is)
    (case k => k_is)
  have t__law_shuffled : ∃ a, WB.Nm (head.heap_39 w.params) mg "_law_shuffled" WB.s__law_shuffled ["state", "some"] a := by
    refine' WB.nm_mk KX G ?a ?l ?c ?k (fun _ _ _ _ _ _ us hl => match us, hl with | [_, _], _ => rfl)
    (case a => k_is)
    (case l => k_is)
    (case c => k_is)
    (case k => k_is)
  have t__law_caught : ∃ a, WB.Nm (head.heap_39 w.params) mg "_law_caught" WB.s__law_caught ["action"] a := by
    refine' WB.nm_mk KX G ?a ?l ?c ?k (fun _ _ _ _ _ _ us hl => match us, hl with | [_], _ => rfl)
    (case a => k_is)
    (case l => k_is)
    (case c => k_is)
    (case k => k_is)
  have t__law_q : ∃ a, WB.Nm (head.heap_39 w.params) mg "_law_q" WB.s__law_q ["n", "d"] a := by
    refine' WB.nm_mk KX G ?a ?l ?c ?k (fun _ _ _ _ _ _ us hl => match us, hl with | [_, _], _ => rfl)
    (case a => k_is)
    (case l => k_is)
    (case c => k_is)
    (case k => k_is)
  have t__law_plus : ∃ a, WB.Nm (head.heap_39 w.params) mg "_law_plus" WB.s__law_plus ["one", "other"] a := by
    refine' WB.nm_mk KX G ?a ?l ?c ?k (fun _ _ _ _ _ _ us hl => match us, hl with | [_, _], _ => rfl)
    (case a => k_is)
    (case l => k_is)
    (case c => k_is)
    (case k => k_is)
  have t__law_minus : ∃ a, WB.Nm (head.heap_39 w.params) mg "_law_minus" WB.s__law_minus ["one", "other"] a := by
    refine' WB.nm_mk KX G ?a ?l ?c ?k (fun _ _ _ _ _ _ us hl => match us, hl with | [_, _], _ => rfl)
    (case a => k_is)
    (case l => k_is)
    (case c => k_is)
    (case k => k_is)
  have t__law_times : ∃ a, WB.Nm (head.heap_39 w.params) mg "_law_times" WB.s__law_times ["one", "other"] a := by
    refine' WB.nm_mk KX G ?a ?l ?c ?k (fun _ _ _ _ _ _ us hl => match us, hl with | [_, _], _ => rfl)
    (case a => k_is)
    (case l => k_is)
    (case c => k_is)
    (case k => k_is)
  have t__law_less : ∃ a, WB.Nm (head.heap_39 w.params) mg "_law_less" WB.s__law_less ["one", "other"] a := by
    refine' WB.nm_mk KX G ?a ?l ?c ?k (fun _ _ _ _ _ _ us hl => match us, hl with | [_, _], _ => rfl)
    (case a => k_is)
    (case l => k_is)
    (case c => k_is)
    (case k => k_is)
  have t__law_sum : ∃ a, WB.Nm (head.heap_39 w.params) mg "_law_sum" WB.s__law_sum ["some"] a := by
    refine' WB.nm_mk KX G ?a ?l ?c ?k (fun _ _ _ _ _ _ us hl => match us, hl with | [_], _ => rfl)
    (case a => k_is)
    (case l => k_is)
    (case c => k_is)
    (case k => k_is)
  have t__law_dot : ∃ a, WB.Nm (head.heap_39 w.params) mg "_law_dot" WB.s__law_dot ["one", "other"] a := by
    refine' WB.nm_mk KX G ?a ?l ?c ?k (fun _ _ _ _ _ _ us hl => match us, hl with | [_, _], _ => rfl)
    (case a => k_is)
    (case l => k_is)
    (case c => k_is)
    (case k => k_is)
  have t__law_mixed : ∃ a, WB.Nm (head.heap_39 w.params) mg "_law_mixed" WB.s__law_mixed ["weights", "rows", "width"] a := by
    refine' WB.nm_mk KX G ?a ?l ?c ?k (fun _ _ _ _ _ _ us hl => match us, hl with | [_, _, _], _ => rfl)
    (case a => k_is)
    (case l => k_is)
    (case c => k_is)
    (case k => k_is)
  have t__law_is_answer : ∃ a, WB.Nm (head.heap_39 w.params) mg "_law_is_answer" WB.s__law_is_answer ["program", "value"] a := by
    refine' WB.nm_mk KX G ?a ?l ?c ?k (fun _ _ _ _ _ _ us hl => match us, hl with | [_, _], _ => rfl)
    (case a => k_is)
    (case l => k_is)
    (case c => k_is)
    (case k => k_is)
  have t__law_hw_neg : ∃ a, WB.Nm (head.heap_39 w.params) mg "_law_hw_neg" WB.s__law_hw_neg ["part"] a := by
    refine' WB.nm_mk KX G ?a ?l ?c ?k (fun _ _ _ _ _ _ us hl => match us, hl with | [_], _ => rfl)
    (case a => k_is)
    (case l => k_is)
    (case c => k_is)
    (case k => k_is)
  have t__law_graph : ∃ a, WB.Nm (head.heap_39 w.params) mg "_law_graph" WB.s__law_graph ["draws", "knots", "arcs"] a := by
    refine' WB.nm_mk KX G ?a ?l ?c ?k (fun _ _ _ _ _ _ us hl => match us, hl with | [_, _, _], _ => rfl)
    (case a => k_is)
    (case l => k_is)
    (case c => k_is)
    (case k => k_is)
  have t__law_ways : ∃ a, WB.Nm (head.heap_39 w.params) mg "_law_ways" WB.s__law_ways ["knots", "arcs", "begun_at"] a := by
    refine' WB.nm_mk KX G ?a ?l ?c ?k (fun _ _ _ _ _ _ us hl => match us, hl with | [_, _, _], _ => rfl)
    (case a => k_is)
    (case l => k_is)
    (case c => k_is)
    (case k => k_is)
  have t__law_program : ∃ a, WB.Nm (head.heap_39 w.params) mg "_law_program" WB.s__law_program ["draws", "knots", "arcs", "first", "last"] a := by
    refine' WB.nm_mk KX G ?a ?l ?c ?k (fun _ _ _ _ _ _ us hl => match us, hl with | [_, _, _, _, _], _ => rfl)
    (case a => k_is)
    (case l => k_is)
    (case c => k_is)
    (case k => k_is)
  have t__law_goes : ∃ a c, WB.Nm (head.heap_39 w.params) mg "_law_goes" WB.s__law_goes ["draws", "knots", "many"] a ∧ WB.FunC (head.heap_39 w.params) "_law_goes" "_law_goes" WB.s__law_goes a c ∧ PySem.W.CodeHd h c 441 := by
    refine' WB.nmC_mk KX G ?a ?l ?c ?k ?hd (fun _ _ _ _ _ _ us hl => match us, hl with | [_, _, _], _ => rfl)
    (case a => k_is)
    (case l => k_is)
    (case c => k_is)
    (case k => k_is)
    (case hd => rfl)
  have t_law : ∃ a, WB.Nm (head.heap_39 w.params) mg "law" WB.s_law ["script"] a ∧ ∀ (s : Shared) (u : Value), BindsTo s a.2 ⟨[u], []⟩ [("script", u)] := by
    refine' WB.nmL_mk KX G ?a ?l ?c ?k (fun _ _ _ _ _ _ us hl => match us, hl with | [_], _ => rfl)
    (case a => k_is)
    (case l => k_is)
    (case c => k_is)
    (case k => k_is)
  have hP : List.lookup 259 (head.heap_39 w.params) = none := rfl
  have hP2 : List.lookup 441 (head.heap_39 w.params) = none := rfl
  obtain ⟨C, a_Tableau___init__, a_Tableau_turn, a_Tableau_moved, a_Tableau_leaving, a_Tableau_climb, a_Tableau_drive_out, a_Tableau_weights, a_Tableau_ray, a_Tableau_prices, c_T, cl_T, mk_T, na_many, na_lines, na_factors, na_gains, na_scale, na_wants, na_unit, na_basis, h_Tableau___init__, h_Tableau_turn, h_Tableau_moved, h_Tableau_leaving, h_Tableau_climb, h_Tableau_drive_out, h_Tableau_weights, h_Tableau_ray, h_Tableau_prices⟩ := t_cls
  obtain ⟨aZ, gZ, sZ⟩ := t_ZERO
  obtain ⟨a_is_whole, h_is_whole⟩ := t_is_whole
  obtain ⟨a_is_ratio, h_is_ratio⟩ := t_is_ratio
  obtain ⟨a_lowest, h_lowest⟩ := t_lowest
  obtain ⟨a_plus, h_plus⟩ := t_plus
  obtain ⟨a_times, h_times⟩ := t_times
  obtain ⟨a_is_less, h_is_less⟩ := t_is_less
  obtain ⟨a_total, h_total⟩ := t_total
  obtain ⟨a_cleared, h_cleared⟩ := t_cleared
  obtain ⟨a_is_vector, h_is_vector⟩ := t_is_vector
  obtain ⟨a_dot, h_dot⟩ := t_dot
  obtain ⟨a_scaled, h_scaled⟩ := t_scaled
  obtain ⟨a_added, h_added⟩ := t_added
  obtain ⟨a_mixed, h_mixed⟩ := t_mixed
  obtain ⟨a_is_limit, h_is_limit⟩ := t_is_limit
  obtain ⟨a_is_program, h_is_program⟩ := t_is_program
  obtain ⟨a_need_program, h_need_program⟩ := t_need_program
  obtain ⟨a_climbed, a_code, h_climbed, hC, hd⟩ := t_climbed
  obtain ⟨a_solve, h_solve⟩ := t_solve
  obtain ⟨a_answer, h_answer⟩ := t_answer
  obtain ⟨a_are_prices, h_are_prices⟩ := t_are_prices
  obtain ⟨a_summed, h_summed⟩ := t_summed
  obtain ⟨a_is_point, h_is_point⟩ := t_is_point
  obtain ⟨a_is_within, h_is_within⟩ := t_is_within
  obtain ⟨a_is_best, h_is_best⟩ := t_is_best
  obtain ⟨a_is_empty, h_is_empty⟩ := t_is_empty
  obtain ⟨a_is_endless, h_is_endless⟩ := t_is_endless
  obtain ⟨a_is_answer, h_is_answer⟩ := t_is_answer
  obtain ⟨a_least, h_least⟩ := t_least
  obtain ⟨a__law_begun, h__law_begun⟩ := t__law_begun
  obtain ⟨a__law_blended, h__law_blended⟩ := t__law_blended
  obtain ⟨a__law_draw, h__law_draw⟩ := t__law_draw
  obtain ⟨a__law_shuffled, h__law_shuffled⟩ := t__law_shuffled
  obtain ⟨a__law_caught, h__law_caught⟩ := t__law_caught
  obtain ⟨a__law_q, h__law_q⟩ := t__law_q
  obtain ⟨a__law_plus, h__law_plus⟩ := t__law_plus
  obtain ⟨a__law_minus, h__law_minus⟩ := t__law_minus
  obtain ⟨a__law_times, h__law_times⟩ := t__law_times
  obtain ⟨a__law_less, h__law_less⟩ := t__law_less
  obtain ⟨a__law_sum, h__law_sum⟩ := t__law_sum
  obtain ⟨a__law_dot, h__law_dot⟩ := t__law_dot
  obtain ⟨a__law_mixed, h__law_mixed⟩ := t__law_mixed
  obtain ⟨a__law_is_answer, h__law_is_answer⟩ := t__law_is_answer
  obtain ⟨a__law_hw_neg, h__law_hw_neg⟩ := t__law_hw_neg
  obtain ⟨a__law_graph, h__law_graph⟩ := t__law_graph
  obtain ⟨a__law_ways, h__law_ways⟩ := t__law_ways
  obtain ⟨a__law_program, h__law_program⟩ := t__law_program
  obtain ⟨a__law_goes, a_code2, h__law_goes, hC2, hd2⟩ := t__law_goes
  obtain ⟨a_law, h_law, b_law⟩ := t_law
  let A : WB.LPA := { ZERO := aZ, Tableau := C, code := a_code, is_whole := a_is_whole, is_ratio := a_is_ratio, lowest := a_lowest, plus := a_plus, times := a_times, is_less := a_is_less, total := a_total, cleared := a_cleared, Tableau___init__ := a_Tableau___init__, Tableau_turn := a_Tableau_turn, Tableau_moved := a_Tableau_moved, Tableau_leaving := a_Tableau_leaving, Tableau_climb := a_Tableau_climb, Tableau_drive_out := a_Tableau_drive_out, Tableau_weights := a_Tableau_weights, Tableau_ray := a_Tableau_ray, Tableau_prices := a_Tableau_prices, is_vector := a_is_vector, dot := a_dot, scaled := a_scaled, added := a_added, mixed := a_mixed, is_limit := a_is_limit, is_program := a_is_program, need_program := a_need_program, climbed := a_climbed, solve := a_solve, answer := a_answer, are_prices := a_are_prices, summed := a_summed, is_point := a_is_point, is_within := a_is_within, is_best := a_is_best, is_empty := a_is_empty, is_endless := a_is_endless, is_answer := a_is_answer }
  let B : WB.LawA := { least := a_least, _law_begun := a__law_begun, _law_blended := a__law_blended, _law_draw := a__law_draw, _law_shuffled := a__law_shuffled, _law_caught := a__law_caught, _law_q := a__law_q, _law_plus := a__law_plus, _law_minus := a__law_minus, _law_times := a__law_times, _law_less := a__law_less, _law_sum := a__law_sum, _law_dot := a__law_dot, _law_mixed := a__law_mixed, _law_is_answer := a__law_is_answer, _law_hw_neg := a__law_hw_neg, _law_graph := a__law_graph, _law_ways := a__law_ways, _law_program := a__law_program, _law_goes := a__law_goes, law := a_law }
  have X0 : WB.LPTxt (head.heap_39 w.params) mg A := { g_ZERO := gZ, sq_ZERO := sZ, cl_Tableau := cl_T, mk_Tableau := mk_T, c_Tableau := c_T, c_climbed := hC, g_MOST := t_g_MOST, g_MOST_PLACES := t_g_MOST_PLACES, g_MOST_LIMITS := t_g_MOST_LIMITS, g_gcd := t_g_gcd, g_lcm := t_g_lcm, n_len := t_n_len, n_sum := t_n_sum, n_all := t_n_all, n_any := t_n_any, n_isinstance := t_n_isinstance, n_list := t_n_list, n_tuple := t_n_tuple, n_range := t_n_range, n_zip := t_n_zip, n_enumerate := t_n_enumerate, n_int := t_n_int, n_bool := t_n_bool, n_str := t_n_str, na_many := na_many, na_lines := na_lines, na_factors := na_factors, na_gains := na_gains, na_scale := na_scale, na_wants := na_wants, na_unit := na_unit, na_basis := na_basis, is_whole := h_is_whole, is_ratio := h_is_ratio, lowest := h_lowest, plus := h_plus, times := h_times, is_less := h_is_less, total := h_total, cleared := h_cleared, Tableau___init__ := h_Tableau___init__, Tableau_turn := h_Tableau_turn, Tableau_moved := h_Tableau_moved, Tableau_leaving := h_Tableau_leaving, Tableau_climb := h_Tableau_climb, Tableau_drive_out := h_Tableau_drive_out, Tableau_weights := h_Tableau_weights, Tableau_ray := h_Tableau_ray, Tableau_prices := h_Tableau_prices, is_vector := h_is_vector, dot := h_dot, scaled := h_scaled, added := h_added, mixed := h_mixed, is_limit := h_is_limit, is_program := h_is_program, need_program := h_need_program, climbed := h_climbed, solve := h_solve, answer := h_answer, are_prices := h_are_prices, summed := h_summed, is_point := h_is_point, is_within := h_is_within, is_best := h_is_best, is_empty := h_is_empty, is_endless := h_is_endless, is_answer := h_is_answer }
  have X : WB.LawTxt (head.heap_39 w.params) mg A B := { toLPTxt := X0, n_abs := t_n_abs, n_min := t_n_min, n_max := t_n_max, least := h_least, _law_begun := h__law_begun, _law_blended := h__law_blended, _law_draw := h__law_draw, _law_shuffled := h__law_shuffled, _law_caught := h__law_caught, _law_q := h__law_q, _law_plus := h__law_plus, _law_minus := h__law_minus, _law_times := h__law_times, _law_less := h__law_less, _law_sum := h__law_sum, _law_dot := h__law_dot, _law_mixed := h__law_mixed, _law_is_answer := h__law_is_answer, _law_hw_neg := h__law_hw_neg, _law_graph := h__law_graph, _law_ways := h__law_ways, _law_program := h__law_program, _law_goes := h__law_goes, law := h_law }
  have e : fa = a_law.1 := by
    have z := hmg.symm.trans h_law.g
    exact Value.ref.inj (Option.some.inj z)
  subst e
  obtain ⟨Z, Y⟩ := t_exc
  have two : ∀ p ∈ [(a_code, 259), (a_code2, 441)], p = (a_code, 259) ∨ p = (a_code2, 441) := fun p hp => by
    rcases List.mem_cons.mp hp with e | e
    · exact .inl e
    · exact .inr (List.mem_singleton.mp e)
  have hm2 : (441, WB.goesLam) ∈ WB.TT1 259 := List.mem_cons_of_mem _ (List.mem_filter.mpr ⟨List.mem_singleton.mpr rfl, by decide⟩)
  have hu2 : ∀ p ∈ WB.TT1 259, p.1 = 441 → p.2 = WB.goesLam := fun p hp e => by
    rcases List.mem_cons.mp hp with z | z
    · rw [z] at e; exact absurd e (by decide)
    · rw [List.mem_singleton.mp (List.mem_filter.mp z).1]
  refine ⟨a_law.2, [(a_code, 259), (a_code2, 441)], WB.sp_law (head.heap_39 w.params) 259, fun p hp => ?_, fun p hp => ?_, fun p hp => ?_, b_law, fun H a ns hl _ hH hS => ⟨a, ns, rfl, hS, Nat.le_trans hl (by decide), fun p hp => ?_, fun _ => rfl⟩, fun base _ _ TB => WB.ok_law X (TB (a_code, 259) List.mem_cons_self) Y hC2 (TB (a_code2, 441) (List.mem_cons_of_mem _ List.mem_cons_self)) hm2 hu2 (fun _ _ _ _ _ h1 h2 h3 h4 h5 h6 h7 h8 => LP.ways_ok h1 h2 h3 h4 h5 h6 h7 h8)⟩
  · rcases two p hp with e | e <;> rw [e]
    · exact hT8 259 List.mem_cons_self
    · exact hT8 441 (List.mem_cons_of_mem _ List.mem_cons_self)
  · rcases two p hp with e | e <;> rw [e]
    · exact hP
    · exact hP2
  · rcases two p hp with e | e <;> rw [e]
    · exact hd
    · exact hd2
  · rcases List.mem_cons.mp hp with e | e
    · rw [e]; exact LamX.TabS.nil (hH (a_code, 259) List.mem_cons_self)
    · rw [List.mem_singleton.mp (List.mem_filter.mp e).1]; exact LamX.TabS.nil (hH (a_code2, 441) (List.mem_cons_of_mem _ List.mem_cons_self))
end
