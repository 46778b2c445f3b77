import PyProof.Rows.All
import Wide.All
import OpenK.AllK
import Wide.FinOn
import HandS.ForMost
import HandS.IsInst
import HandS.Star
import HandS.TupAny
import HandS.Wide
import HandS.Walk
import HandS.Zip
import PySem.Challenge.RW_templates_k83_whole_relaxed_costs
import KE.GoesMore
import KE.GoesEnum
import KE.GoesZip
import KE.KEqSeq
import HandS.Style
set_option Elab.async false
set_option linter.all false
set_option maxRecDepth 100000
set_option maxHeartbeats 4000000
set_option pp.maxSteps 1200
namespace Lp
/-! ### finite sums -/
def sumN : Nat → (Nat → Int) → Int
  | 0, _ => 0
  | n + 1, f => sumN n f + f n
theorem sumN_congr {f g : Nat → Int} : ∀ {n : Nat}, (∀ i, i < n → f i = g i) → sumN n f = sumN n g
  | 0, _ => rfl
  | n + 1, h => by
    show sumN n f + f n = sumN n g + g n
    rw [sumN_congr (fun i hi => h i (Nat.lt_succ_of_lt hi)), h n (Nat.lt_succ_self n)]
theorem sumN_zero {f : Nat → Int} : ∀ {n : Nat}, (∀ i, i < n → f i = 0) → sumN n f = 0
  | 0, _ => rfl
  | n + 1, h => by
    show sumN n f + f n = 0
    rw [sumN_zero (fun i hi => h i (Nat.lt_succ_of_lt hi)), h n (Nat.lt_succ_self n)]; rfl
theorem sumN_add (f g : Nat → Int) : ∀ n : Nat, sumN n (fun i => f i + g i) = sumN n f + sumN n g
  | 0 => rfl
  | n + 1 => by
    show sumN n (fun i => f i + g i) + (f n + g n) = sumN n f + f n + (sumN n g + g n)
    rw [sumN_add f g n]; omega
theorem sumN_mul (c : Int) (f : Nat → Int) : ∀ n : Nat, sumN n (fun i => c * f i) = c * sumN n f
  | 0 => (Int.mul_zero c).symm
  | n + 1 => by
    show sumN n (fun i => c * f i) + c * f n = c * (sumN n f + f n)
    rw [sumN_mul c f n, Int.mul_add]
theorem sumN_mulR (c : Int) (f : Nat → Int) (n : Nat) : sumN n (fun i => f i * c) = sumN n f * c := by
  rw [Int.mul_comm, ← sumN_mul]
  exact sumN_congr fun i _ => Int.mul_comm _ _
theorem sumN_neg (f : Nat → Int) : ∀ n : Nat, sumN n (fun i => - f i) = - sumN n f
  | 0 => rfl
  | n + 1 => by
    show sumN n (fun i => - f i) + - f n = - (sumN n f + f n)
    rw [sumN_neg f n]; omega
theorem sumN_sub (f g : Nat → Int) : ∀ n : Nat, sumN n (fun i => f i - g i) = sumN n f - sumN n g
  | 0 => rfl
  | n + 1 => by
    show sumN n (fun i => f i - g i) + (f n - g n) = sumN n f + f n - (sumN n g + g n)
    rw [sumN_sub f g n]; omega
theorem sumN_swap (f : Nat → Nat → Int) (m : Nat) : ∀ n : Nat, sumN n (fun i => sumN m (f i)) = sumN m (fun j => sumN n (fun i => f i j))
  | 0 => (sumN_zero fun _ _ => rfl).symm
  | n + 1 => by
    show sumN n (fun i => sumN m (f i)) + sumN m (f n) = sumN m (fun j => sumN n (fun i => f i j) + f n j)
    rw [sumN_add, sumN_swap f m n]
theorem sumN_single {f : Nat → Int} {k : Nat} : ∀ {n : Nat}, k < n → (∀ i, i < n → i ≠ k → f i = 0) → sumN n f = f k
  | 0, h, _ => absurd h (Nat.not_lt_zero _)
  | n + 1, h, z => by
    show sumN n f + f n = f k
    by_cases e : k = n
    · subst e
      rw [sumN_zero (fun i hi => z i (Nat.lt_succ_of_lt hi) (Nat.ne_of_lt hi)), Int.zero_add]
    · have hk : k < n := by omega
      rw [sumN_single hk (fun i hi => z i (Nat.lt_succ_of_lt hi)), z n (Nat.lt_succ_self n) (fun q => e q.symm), Int.add_zero]
theorem sumN_two {f : Nat → Int} {k l : Nat} : ∀ {n : Nat}, k < l → l < n → (∀ i, i < n → i ≠ k → i ≠ l → f i = 0) → sumN n f = f k + f l
  | 0, _, h, _ => absurd h (Nat.not_lt_zero _)
  | n + 1, hkl, h, z => by
    show sumN n f + f n = f k + f l
    by_cases e : l = n
    · subst e
      rw [sumN_single hkl (fun i hi ne => z i (Nat.lt_succ_of_lt hi) ne (Nat.ne_of_lt hi))]
    · have hl : l < n := by omega
      rw [sumN_two hkl hl (fun i hi => z i (Nat.lt_succ_of_lt hi)), z n (Nat.lt_succ_self n) (fun q => by omega) (fun q => e q.symm), Int.add_zero]
theorem sumN_nonneg {f : Nat → Int} : ∀ {n : Nat}, (∀ i, i < n → 0 ≤ f i) → 0 ≤ sumN n f
  | 0, _ => Int.le_refl 0
  | n + 1, h => by
    show 0 ≤ sumN n f + f n
    have a := sumN_nonneg (n := n) (f := f) (fun i hi => h i (Nat.lt_succ_of_lt hi))
    have b := h n (Nat.lt_succ_self n)
    omega
theorem sumN_le {f g : Nat → Int} : ∀ {n : Nat}, (∀ i, i < n → f i ≤ g i) → sumN n f ≤ sumN n g
  | 0, _ => Int.le_refl 0
  | n + 1, h => by
    show sumN n f + f n ≤ sumN n g + g n
    have a := sumN_le (n := n) (f := f) (g := g) (fun i hi => h i (Nat.lt_succ_of_lt hi))
    have b := h n (Nat.lt_succ_self n)
    omega
theorem sumN_zero_each {f : Nat → Int} : ∀ {n : Nat}, (∀ i, i < n → 0 ≤ f i) → sumN n f = 0 → ∀ i, i < n → f i = 0
  | 0, _, _, i, hi => absurd hi (Nat.not_lt_zero _)
  | n + 1, h, e, i, hi => by
    have e' : sumN n f + f n = 0 := e
    have a := sumN_nonneg (n := n) (f := f) (fun i hi => h i (Nat.lt_succ_of_lt hi))
    have b := h n (Nat.lt_succ_self n)
    by_cases q : i = n
    · subst q; omega
    · exact sumN_zero_each (fun i hi => h i (Nat.lt_succ_of_lt hi)) (by omega) i (by omega)
theorem sumN_pos {f : Nat → Int} : ∀ {n : Nat}, 0 < sumN n f → ∃ i, i < n ∧ 0 < f i
  | 0, h => absurd h (Int.lt_irrefl 0)
  | n + 1, h => by
    have e' : 0 < sumN n f + f n := h
    by_cases q : 0 < f n
    · exact ⟨n, Nat.lt_succ_self n, q⟩
    · obtain ⟨i, hi, hp⟩ := sumN_pos (n := n) (f := f) (by omega)
      exact ⟨i, Nat.lt_succ_of_lt hi, hp⟩
theorem sumN_split (f : Nat → Int) (a : Nat) : ∀ b : Nat, sumN (a + b) f = sumN a f + sumN b (fun i => f (a + i))
  | 0 => (Int.add_zero _).symm
  | b + 1 => by
    show sumN (a + b) f + f (a + b) = sumN a f + (sumN b (fun i => f (a + i)) + f (a + b))
    rw [sumN_split f a b]; omega
theorem sumN_const (c : Int) : ∀ n : Nat, sumN n (fun _ => c) = (n : Int) * c
  | 0 => (Int.zero_mul c).symm
  | n + 1 => by
    show sumN n (fun _ => c) + c = ((n + 1 : Nat) : Int) * c
    rw [sumN_const c n]
    have : ((n + 1 : Nat) : Int) = (n : Int) + 1 := by omega
    rw [this, Int.add_mul, Int.one_mul]
/-- absolute value as an integer -/
def ab (x : Int) : Int := (x.natAbs : Int)
theorem ab_nonneg (x : Int) : 0 ≤ ab x := by unfold ab; omega
theorem ab_add (x y : Int) : ab (x + y) ≤ ab x + ab y := by unfold ab; omega
theorem ab_sub (x y : Int) : ab (x - y) ≤ ab x + ab y := by unfold ab; omega
theorem ab_neg (x : Int) : ab (-x) = ab x := by unfold ab; omega
theorem ab_mul (x y : Int) : ab (x * y) = ab x * ab y := by unfold ab; rw [Int.natAbs_mul]; exact Int.natCast_mul _ _
theorem ab_pos {x : Int} (h : 0 ≤ x) : ab x = x := by unfold ab; omega
theorem ab_le {x B : Int} (h : ab x ≤ B) : -B ≤ x ∧ x ≤ B := by unfold ab at h; omega
theorem ab_zero : ab 0 = 0 := rfl
theorem sumN_ab (f : Nat → Int) : ∀ n : Nat, ab (sumN n f) ≤ sumN n (fun i => ab (f i))
  | 0 => Int.le_refl 0
  | n + 1 => by
    show ab (sumN n f + f n) ≤ sumN n (fun i => ab (f i)) + ab (f n)
    have a := sumN_ab f n
    have b := ab_add (sumN n f) (f n)
    omega
/-- a sum over different places is at most the whole sum -/
theorem sumN_inj {f : Nat → Int} {N : Nat} (hf : ∀ j, j < N → 0 ≤ f j) {n : Nat} {b : Nat → Nat} (hb : ∀ k, k < n → b k < N) (inj : ∀ k l, k < n → l < n → b k = b l → k = l) : sumN n (fun k => f (b k)) ≤ sumN N f := by
  have h1 : sumN n (fun k => f (b k)) = sumN n (fun k => sumN N (fun j => if j = b k then f j else 0)) := by
    refine sumN_congr fun k hk => ?_
    rw [sumN_single (hb k hk) (fun i _ ne => if_neg ne), if_pos rfl]
  rw [h1, sumN_swap]
  refine sumN_le fun j hj => ?_
  by_cases hx : ∃ k, k < n ∧ b k = j
  · obtain ⟨k, hk, e⟩ := hx
    rw [sumN_single hk (fun i hi ne => if_neg fun q => ne (inj i k hi hk (q.symm.trans e.symm))), if_pos e.symm]
    exact Int.le_refl _
  · rw [sumN_zero (fun i hi => if_neg fun q => hx ⟨i, hi, q.symm⟩)]
    exact hf j hj
/-! ### determinants by the first row; columns are functions of the row -/
def skip {α : Type} (k : Nat) (C : Nat → α) : Nat → α := fun j => if j < k then C j else C (j + 1)
def upd {α : Type} (C : Nat → α) (i : Nat) (v : α) : Nat → α := fun j => if j = i then v else C j
def sgn (k : Nat) : Int := if k % 2 = 0 then 1 else -1
def det : Nat → Nat → (Nat → Nat → Int) → Int
  | 0, _, _ => 1
  | n + 1, r, C => sumN (n + 1) (fun k => sgn k * C k r * det n (r + 1) (skip k C))
theorem sgn_succ (k : Nat) : sgn (k + 1) = - sgn k := by
  unfold sgn
  by_cases h : k % 2 = 0
  · rw [if_pos h, if_neg (by omega)]
  · rw [if_neg h, if_pos (by omega)]; rfl
theorem ab_sgn (k : Nat) : ab (sgn k) = 1 := by
  unfold sgn
  by_cases h : k % 2 = 0
  · rw [if_pos h]; rfl
  · rw [if_neg h]; rfl
theorem upd_at {α : Type} (C : Nat → α) (i : Nat) (v : α) : upd C i v i = v := if_pos rfl
theorem upd_off {α : Type} (C : Nat → α) {i j : Nat} (v : α) (h : j ≠ i) : upd C i v j = C j := if_neg h
theorem upd_self {α : Type} (C : Nat → α) (i : Nat) : upd C i (C i) = C := by
  funext j
  unfold upd
  by_cases h : j = i
  · rw [if_pos h, h]
  · rw [if_neg h]
theorem upd_upd {α : Type} (C : Nat → α) (i : Nat) (v w : α) : upd (upd C i v) i w = upd C i w := by
  funext j
  unfold upd
  by_cases h : j = i
  · rw [if_pos h, if_pos h]
  · rw [if_neg h, if_neg h, if_neg h]
theorem upd_comm {α : Type} (C : Nat → α) {i j : Nat} (v w : α) (hij : i ≠ j) : upd (upd C i v) j w = upd (upd C j w) i v := by
  funext x
  unfold upd
  by_cases h : x = i
  · rw [if_pos h, if_neg (fun q => hij (h.symm.trans q)), if_pos h]
  · by_cases h2 : x = j
    · rw [if_pos h2, if_neg h, if_pos h2]
    · simp only [if_neg h, if_neg h2]
theorem skip_lt {α : Type} (C : Nat → α) {i k : Nat} (v : α) (h : i < k) : skip k (upd C i v) = upd (skip k C) i v := by
  funext j
  unfold skip upd
  by_cases h1 : j < k
  · simp only [if_pos h1]
  · have h2 : j + 1 ≠ i := by omega
    have h3 : j ≠ i := by omega
    simp only [if_neg h1, if_neg h2, if_neg h3]
theorem skip_eq {α : Type} (C : Nat → α) (k : Nat) (v : α) : skip k (upd C k v) = skip k C := by
  funext j
  unfold skip upd
  by_cases h1 : j < k
  · have h2 : j ≠ k := by omega
    simp only [if_pos h1, if_neg h2]
  · have h2 : j + 1 ≠ k := by omega
    simp only [if_neg h1, if_neg h2]
theorem skip_gt {α : Type} (C : Nat → α) {i k : Nat} (v : α) (h : k < i) : skip k (upd C i v) = upd (skip k C) (i - 1) v := by
  funext j
  unfold skip upd
  by_cases h1 : j < k
  · have h2 : j ≠ i := by omega
    have h3 : j ≠ i - 1 := by omega
    simp only [if_pos h1, if_neg h2, if_neg h3]
  · by_cases h2 : j + 1 = i
    · have h3 : j = i - 1 := by omega
      simp only [if_neg h1, if_pos h2, if_pos h3]
    · have h3 : j ≠ i - 1 := by omega
      simp only [if_neg h1, if_neg h2, if_neg h3]
theorem det_congr : ∀ {n r : Nat} {C C' : Nat → Nat → Int}, (∀ j i, j < n → r ≤ i → i < r + n → C j i = C' j i) → det n r C = det n r C'
  | 0, _, _, _, _ => rfl
  | n + 1, r, C, C', h => by
    show sumN (n + 1) (fun k => sgn k * C k r * det n (r + 1) (skip k C)) = sumN (n + 1) (fun k => sgn k * C' k r * det n (r + 1) (skip k C'))
    refine sumN_congr fun k hk => ?_
    rw [h k r hk (Nat.le_refl r) (by omega), det_congr (n := n) (r := r + 1) (C := skip k C) (C' := skip k C')]
    intro j i hj h1 h2
    unfold skip
    by_cases q : j < k
    · rw [if_pos q, if_pos q]; exact h j i (by omega) (by omega) (by omega)
    · rw [if_neg q, if_neg q]; exact h (j + 1) i (by omega) (by omega) (by omega)
theorem det_lin (a b : Int) (u v : Nat → Int) : ∀ {n r i : Nat} (C : Nat → Nat → Int), i < n → det n r (upd C i (fun x => a * u x + b * v x)) = a * det n r (upd C i u) + b * det n r (upd C i v)
  | 0, _, _, _, h => absurd h (Nat.not_lt_zero _)
  | n + 1, r, i, C, h => by
    show sumN (n + 1) (fun k => sgn k * upd C i (fun x => a * u x + b * v x) k r * det n (r + 1) (skip k (upd C i (fun x => a * u x + b * v x)))) = a * sumN (n + 1) (fun k => sgn k * upd C i u k r * det n (r + 1) (skip k (upd C i u))) + b * sumN (n + 1) (fun k => sgn k * upd C i v k r * det n (r + 1) (skip k (upd C i v)))
    rw [← sumN_mul, ← sumN_mul, ← sumN_add]
    refine sumN_congr fun k hk => ?_
    by_cases e : k = i
    · subst e
      rw [upd_at, upd_at, upd_at, skip_eq, skip_eq, skip_eq]
      grind
    · rw [upd_off _ _ e, upd_off _ _ e, upd_off _ _ e]
      by_cases q : i < k
      · rw [skip_lt _ _ q, skip_lt _ _ q, skip_lt _ _ q, det_lin a b u v (skip k C) (by omega)]
        grind
      · have q' : k < i := by omega
        rw [skip_gt _ _ q', skip_gt _ _ q', skip_gt _ _ q', det_lin a b u v (skip k C) (by omega)]
        grind
theorem det_zero {n r i : Nat} (C : Nat → Nat → Int) (h : i < n) : det n r (upd C i (fun _ => 0)) = 0 := by
  have e := det_lin (r := r) 0 0 (fun _ => 0) (fun _ => 0) C h
  simpa using e
theorem det_sum {n r i : Nat} (C : Nat → Nat → Int) (h : i < n) (a : Nat → Int) (V : Nat → Nat → Int) : ∀ q : Nat, det n r (upd C i (fun x => sumN q (fun k => a k * V k x))) = sumN q (fun k => a k * det n r (upd C i (V k)))
  | 0 => det_zero C h
  | q + 1 => by
    show det n r (upd C i (fun x => sumN q (fun k => a k * V k x) + a q * V q x)) = sumN q (fun k => a k * det n r (upd C i (V k))) + a q * det n r (upd C i (V q))
    have e : (fun x => sumN q (fun k => a k * V k x) + a q * V q x) = fun x => 1 * (fun x => sumN q (fun k => a k * V k x)) x + a q * V q x := by
      funext x; rw [Int.one_mul]
    rw [e, det_lin 1 (a q) _ _ C h, det_sum C h a V q, Int.one_mul]
theorem det_adj : ∀ {n r i : Nat} {C : Nat → Nat → Int}, i + 1 < n → C i = C (i + 1) → det n r C = 0
  | 0, _, _, _, h, _ => absurd h (Nat.not_lt_zero _)
  | n + 1, r, i, C, h, e => by
    show sumN (n + 1) (fun k => sgn k * C k r * det n (r + 1) (skip k C)) = 0
    rw [sumN_two (k := i) (l := i + 1) (by omega) h]
    · have es : skip i C = skip (i + 1) C := by
        funext j
        unfold skip
        by_cases q : j < i
        · rw [if_pos q, if_pos (by omega)]
        · by_cases q2 : j = i
          · subst q2; rw [if_neg q, if_pos (by omega)]; exact e.symm
          · rw [if_neg q, if_neg (by omega)]
      rw [es, e, sgn_succ]
      grind
    · intro k hk n1 n2
      have z : det n (r + 1) (skip k C) = 0 := by
        by_cases q : k < i
        · refine det_adj (i := i - 1) (by omega) ?_
          unfold skip
          rw [if_neg (by omega), if_neg (by omega)]
          have e1 : i - 1 + 1 = i := by omega
          rw [e1]; exact e
        · refine det_adj (i := i) (by omega) ?_
          unfold skip
          rw [if_pos (by omega), if_pos (by omega)]; exact e
      show sgn k * C k r * det n (r + 1) (skip k C) = 0
      rw [z, Int.mul_zero]
theorem det_lin1 {n r i : Nat} (C : Nat → Nat → Int) (h : i < n) (u v : Nat → Int) : det n r (upd C i (fun x => u x + v x)) = det n r (upd C i u) + det n r (upd C i v) := by
  have e := det_lin (r := r) 1 1 u v C h
  rw [Int.one_mul, Int.one_mul] at e
  rw [← e]
  congr 2
  funext x
  rw [Int.one_mul, Int.one_mul]
theorem det_swap_of {n r i j : Nat} (hi : i < n) (hj : j < n) (hij : i ≠ j) (alt : ∀ C : Nat → Nat → Int, C i = C j → det n r C = 0) (C : Nat → Nat → Int) (x y : Nat → Int) : det n r (upd (upd C i x) j y) = - det n r (upd (upd C i y) j x) := by
  have z := alt (upd (upd C i (fun q => x q + y q)) j (fun q => x q + y q)) (by rw [upd_off _ _ hij, upd_at, upd_at])
  have zx := alt (upd (upd C i x) j x) (by rw [upd_off _ _ hij, upd_at, upd_at])
  have zy := alt (upd (upd C i y) j y) (by rw [upd_off _ _ hij, upd_at, upd_at])
  rw [det_lin1 _ hj, upd_comm _ _ _ hij, upd_comm _ _ _ hij, det_lin1 _ hi, det_lin1 _ hi] at z
  rw [upd_comm _ _ _ hij.symm, upd_comm _ _ _ hij.symm, upd_comm _ _ _ hij.symm, upd_comm _ _ _ hij.symm] at z
  omega
theorem det_alt_lt {n r i : Nat} : ∀ (g : Nat) {C : Nat → Nat → Int}, i + g + 1 < n → C i = C (i + g + 1) → det n r C = 0
  | 0, C, h, e => det_adj h e
  | g + 1, C, h, e => by
    have alt : ∀ C : Nat → Nat → Int, C (i + g + 1) = C (i + (g + 1) + 1) → det n r C = 0 := fun C q => det_adj (i := i + g + 1) (by omega) q
    have s := det_swap_of (r := r) (i := i + g + 1) (j := i + (g + 1) + 1) (by omega) h (by omega) alt C (C (i + g + 1)) (C (i + (g + 1) + 1))
    rw [upd_self, upd_self] at s
    rw [s, det_alt_lt (n := n) (r := r) (i := i) g (C := upd (upd C (i + g + 1) (C (i + (g + 1) + 1))) (i + (g + 1) + 1) (C (i + g + 1))) (by omega)]
    · rfl
    · rw [upd_off _ _ (by omega), upd_off _ _ (by omega), upd_off _ _ (by omega), upd_at]
      exact e
theorem det_alt {n r i j : Nat} {C : Nat → Nat → Int} (hi : i < n) (hj : j < n) (hij : i ≠ j) (e : C i = C j) : det n r C = 0 := by
  by_cases q : i < j
  · obtain ⟨g, rfl⟩ : ∃ g, j = i + g + 1 := ⟨j - i - 1, by omega⟩
    exact det_alt_lt g hj e
  · obtain ⟨g, rfl⟩ : ∃ g, i = j + g + 1 := ⟨i - j - 1, by omega⟩
    exact det_alt_lt g hi e.symm
theorem det_swap {n r i j : Nat} (hi : i < n) (hj : j < n) (hij : i ≠ j) (C : Nat → Nat → Int) (x y : Nat → Int) : det n r (upd (upd C i x) j y) = - det n r (upd (upd C i y) j x) :=
  det_swap_of hi hj hij (fun _ e => det_alt hi hj hij e) C x y
theorem det_one : ∀ {n r : Nat} {C : Nat → Nat → Int}, (∀ k i, k < n → r ≤ i → i < r + n → C k i = if i = r + k then 1 else 0) → det n r C = 1
  | 0, _, _, _ => rfl
  | n + 1, r, C, h => by
    show sumN (n + 1) (fun k => sgn k * C k r * det n (r + 1) (skip k C)) = 1
    rw [sumN_single (k := 0) (by omega)]
    · rw [h 0 r (by omega) (by omega) (by omega), if_pos (by omega), det_one (n := n) (r := r + 1) (C := skip 0 C)]
      · rfl
      · intro k i hk h1 h2
        unfold skip
        rw [if_neg (by omega), h (k + 1) i (by omega) (by omega) (by omega)]
        by_cases q : i = r + 1 + k
        · rw [if_pos q, if_pos (by omega)]
        · rw [if_neg q, if_neg (by omega)]
    · intro k hk ne
      rw [h k r hk (by omega) (by omega), if_neg (by omega)]
      grind
/-- a determinant of different columns is bounded by the sums of the rows -/
theorem det_bound {N m : Nat} {A : Nat → Nat → Int} {R : Int} (hR : ∀ i, i < m → sumN N (fun j => ab (A i j)) ≤ R) (h0 : 0 ≤ R) : ∀ {n r : Nat} {b : Nat → Nat}, r + n ≤ m → (∀ k, k < n → b k < N) → (∀ k l, k < n → l < n → b k = b l → k = l) →
    ab (det n r (fun k i => A i (b k))) ≤ R ^ n
  | 0, _, _, _, _, _ => by
    show ab 1 ≤ R ^ 0
    rw [Int.pow_zero]; exact Int.le_refl _
  | n + 1, r, b, hm, hb, inj => by
    show ab (sumN (n + 1) (fun k => sgn k * A r (b k) * det n (r + 1) (skip k (fun k i => A i (b k))))) ≤ R ^ (n + 1)
    refine Int.le_trans (sumN_ab _ _) ?_
    have h1 : sumN (n + 1) (fun k => ab (sgn k * A r (b k) * det n (r + 1) (skip k (fun k i => A i (b k))))) ≤ sumN (n + 1) (fun k => ab (A r (b k)) * R ^ n) := by
      refine sumN_le fun k hk => ?_
      rw [ab_mul, ab_mul, ab_sgn, Int.one_mul]
      refine Int.mul_le_mul_of_nonneg_left ?_ (ab_nonneg _)
      have es : skip k (fun k i => A i (b k)) = fun j i => A i (skip k b j) := by
        funext j i
        unfold skip
        by_cases q : j < k
        · rw [if_pos q, if_pos q]
        · rw [if_neg q, if_neg q]
      rw [es]
      refine det_bound hR h0 (by omega) (fun j hj => ?_) (fun j l hj hl e => ?_)
      · unfold skip
        by_cases q : j < k
        · rw [if_pos q]; exact hb _ (by omega)
        · rw [if_neg q]; exact hb _ (by omega)
      · unfold skip at e
        by_cases q : j < k
        · by_cases q2 : l < k
          · rw [if_pos q, if_pos q2] at e
            exact inj _ _ (by omega) (by omega) e
          · rw [if_pos q, if_neg q2] at e
            have := inj _ _ (by omega) (by omega) e
            omega
        · by_cases q2 : l < k
          · rw [if_neg q, if_pos q2] at e
            have := inj _ _ (by omega) (by omega) e
            omega
          · rw [if_neg q, if_neg q2] at e
            have := inj _ _ (by omega) (by omega) e
            omega
    refine Int.le_trans h1 ?_
    rw [sumN_mulR]
    have h2 : sumN (n + 1) (fun k => ab (A r (b k))) ≤ R := Int.le_trans (sumN_inj (f := fun j => ab (A r j)) (fun j _ => ab_nonneg _) hb inj) (hR r (by omega))
    have h3 : 0 ≤ R ^ n := Int.pow_nonneg h0
    have h4 := Int.mul_le_mul_of_nonneg_right h2 h3
    rw [Int.pow_succ, Int.mul_comm (R ^ n) R]
    exact h4
end Lp
namespace Lp
/-! ### the tableau over its first columns -/
structure Sys where
  m : Nat
  n : Nat
  A : Nat → Nat → Int
  unit : ∀ i k, i < m → k < m → A i (n + k) = if i = k then 1 else 0
def D (S : Sys) (b : Nat → Nat) : Int := det S.m 0 (fun k i => S.A i (b k))
structure TInv (S : Sys) (T : Nat → Nat → Int) (b : Nat → Nat) (d : Int) : Prop where
  dpos : 0 < d
  bn : ∀ k, k < S.m → b k < S.n + S.m
  cr : ∃ e : Int, (e = 1 ∨ e = -1) ∧ e * D S b = d ∧ ∀ k j, k < S.m → j < S.n + S.m + 1 → T k j = e * D S (upd b k j)
  sp : ∀ i j, i < S.m → j < S.n + S.m + 1 → sumN S.m (fun k => S.A i (b k) * T k j) = d * S.A i j
theorem D_upd (S : Sys) (b : Nat → Nat) (r c : Nat) : D S (upd b r c) = det S.m 0 (upd (fun k i => S.A i (b k)) r (fun i => S.A i c)) := by
  unfold D
  congr 1
  funext k i
  unfold upd
  by_cases h : k = r
  · rw [if_pos h, if_pos h]
  · rw [if_neg h, if_neg h]
theorem D_same {S : Sys} {b : Nat → Nat} {k l : Nat} (hk : k < S.m) (hl : l < S.m) (hkl : k ≠ l) (e : b k = b l) : D S b = 0 :=
  det_alt hk hl hkl (by funext i; rw [e])
theorem D_congr {S : Sys} {b b' : Nat → Nat} (h : ∀ k, k < S.m → b k = b' k) : D S b = D S b' :=
  det_congr fun k i hk _ _ => by rw [h k hk]
theorem D_swap (S : Sys) (b : Nat → Nat) {r k : Nat} (hr : r < S.m) (hk : k < S.m) (hne : r ≠ k) (x y : Nat) : D S (upd (upd b r x) k y) = - D S (upd (upd b r y) k x) := by
  have e : ∀ x y, D S (upd (upd b r x) k y) = det S.m 0 (upd (upd (fun k i => S.A i (b k)) r (fun i => S.A i x)) k (fun i => S.A i y)) := fun x y => by
    rw [D_upd]
    congr 2
    funext l i
    unfold upd
    by_cases h : l = r
    · rw [if_pos h, if_pos h]
    · rw [if_neg h, if_neg h]
  rw [e, e]
  exact det_swap hr hk hne _ _ _
/-- a column that is a sum of columns -/
theorem D_sum (S : Sys) (b : Nat → Nat) {k : Nat} (hk : k < S.m) (j : Nat) (a : Int) (q : Nat) (f : Nat → Int) (g : Nat → Nat) (h : ∀ i, i < S.m → sumN q (fun l => f l * S.A i (g l)) = a * S.A i j) :
    a * D S (upd b k j) = sumN q (fun l => f l * D S (upd b k (g l))) := by
  have e1 : det S.m 0 (upd (fun k i => S.A i (b k)) k (fun i => sumN q (fun l => f l * S.A i (g l)))) = sumN q (fun l => f l * D S (upd b k (g l))) := by
    rw [det_sum _ hk f (fun l i => S.A i (g l)) q]
    exact sumN_congr fun l _ => by rw [D_upd]
  rw [← e1, D_upd]
  have e2 := det_sum (r := 0) (fun k i => S.A i (b k)) hk (fun _ => a) (fun _ i => S.A i j) 1
  have e3 : sumN 1 (fun k_1 => a * det S.m 0 (upd (fun k i => S.A i (b k)) k (fun i => S.A i j))) = a * det S.m 0 (upd (fun k i => S.A i (b k)) k (fun i => S.A i j)) := by
    show 0 + _ = _
    rw [Int.zero_add]
  rw [e3] at e2
  rw [← e2]
  refine det_congr fun l i hl _ hi => ?_
  unfold upd
  by_cases hlk : l = k
  · rw [if_pos hlk, if_pos hlk, h i (by omega)]
    show 0 + _ = _
    rw [Int.zero_add]
  · rw [if_neg hlk, if_neg hlk]
theorem sumN_pair {f : Nat → Int} {k l n : Nat} (hk : k < n) (hl : l < n) (hkl : k ≠ l) (z : ∀ i, i < n → i ≠ k → i ≠ l → f i = 0) : sumN n f = f k + f l := by
  by_cases q : k < l
  · exact sumN_two q hl z
  · rw [sumN_two (k := l) (l := k) (by omega) hk (fun i hi a b => z i hi b a), Int.add_comm]
section
variable {S : Sys} {T : Nat → Nat → Int} {b : Nat → Nat} {d : Int}
theorem TInv.congr {T' : Nat → Nat → Int} {b' : Nat → Nat} (I : TInv S T b d) (hT : ∀ k j, k < S.m → j < S.n + S.m + 1 → T' k j = T k j) (hb : ∀ k, k < S.m → b' k = b k) : TInv S T' b' d where
  dpos := I.dpos
  bn := fun k hk => by rw [hb k hk]; exact I.bn k hk
  cr := by
    obtain ⟨e, h1, h2, h3⟩ := I.cr
    refine ⟨e, h1, by rw [D_congr hb]; exact h2, fun k j hk hj => ?_⟩
    rw [hT k j hk hj, h3 k j hk hj]
    congr 1
    refine D_congr fun l hl => ?_
    unfold upd
    by_cases q : l = k
    · rw [if_pos q, if_pos q]
    · rw [if_neg q, if_neg q, hb l hl]
  sp := fun i j hi hj => by
    rw [← I.sp i j hi hj]
    exact sumN_congr fun k hk => by rw [hb k hk, hT k j hk hj]
theorem TInv.unit (I : TInv S T b d) {k l : Nat} (hk : k < S.m) (hl : l < S.m) : T k (b l) = if k = l then d else 0 := by
  obtain ⟨e, h1, h2, h3⟩ := I.cr
  rw [h3 k (b l) hk (by have := I.bn l hl; omega)]
  by_cases q : k = l
  · subst q
    rw [if_pos rfl, upd_self]; exact h2
  · rw [if_neg q, D_same hk hl q (by rw [upd_at, upd_off _ _ (fun z => q z.symm)]), Int.mul_zero]
theorem TInv.inj (I : TInv S T b d) : ∀ k l, k < S.m → l < S.m → b k = b l → k = l := by
  intro k l hk hl e
  by_cases q : k = l
  · exact q
  · obtain ⟨ε, h1, h2, h3⟩ := I.cr
    rw [D_same hk hl q e, Int.mul_zero] at h2
    have := I.dpos
    omega
/-- each row is a sum of the first rows, told by the helpers' columns -/
theorem TInv.row (I : TInv S T b d) {k j : Nat} (hk : k < S.m) (hj : j < S.n + S.m + 1) : T k j = sumN S.m (fun i => T k (S.n + i) * S.A i j) := by
  obtain ⟨e, h1, h2, h3⟩ := I.cr
  have z := D_sum S b hk j 1 S.m (fun i => S.A i j) (fun i => S.n + i) (fun i hi => by
    rw [sumN_single hi (fun l hl ne => by rw [S.unit i l hi hl, if_neg (fun q => ne q.symm), Int.mul_zero]), S.unit i i hi hi, if_pos rfl]; omega)
  rw [h3 k j hk hj]
  rw [Int.one_mul] at z
  rw [z, ← sumN_mul]
  refine sumN_congr fun i hi => ?_
  show e * (S.A i j * D S (upd b k (S.n + i))) = T k (S.n + i) * S.A i j
  rw [h3 k (S.n + i) hk (by omega)]
  grind
theorem TInv.bound (I : TInv S T b d) {R : Int} (h0 : 0 ≤ R) (hR : ∀ i, i < S.m → sumN (S.n + S.m + 1) (fun j => ab (S.A i j)) ≤ R) {k j : Nat} (hk : k < S.m) (hj : j < S.n + S.m + 1) : ab (T k j) ≤ R ^ S.m := by
  obtain ⟨e, h1, h2, h3⟩ := I.cr
  rw [h3 k j hk hj]
  have hab : ab (e * D S (upd b k j)) = ab (D S (upd b k j)) := by
    rcases h1 with q | q
    · rw [q, Int.one_mul]
    · rw [q, ab_mul]; show 1 * _ = _; rw [Int.one_mul]
  rw [hab]
  by_cases q : ∃ l, l < S.m ∧ l ≠ k ∧ b l = j
  · obtain ⟨l, hl, ne, ej⟩ := q
    rw [D_same hk hl (fun z => ne z.symm) (by rw [upd_at, upd_off _ _ ne]; exact ej.symm), ab_zero]
    exact Int.pow_nonneg h0
  · refine det_bound (N := S.n + S.m + 1) (m := S.m) hR h0 (by omega) (fun l hl => ?_) (fun l l' hl hl' e' => ?_)
    · unfold upd
      by_cases z : l = k
      · rw [if_pos z]; exact hj
      · rw [if_neg z]; have := I.bn l hl; omega
    · unfold upd at e'
      by_cases z : l = k
      · by_cases z' : l' = k
        · omega
        · rw [if_pos z, if_neg z'] at e'
          exact absurd ⟨l', hl', z', e'.symm⟩ q
      · by_cases z' : l' = k
        · rw [if_neg z, if_pos z'] at e'
          exact absurd ⟨l, hl, z, e'⟩ q
        · rw [if_neg z, if_neg z'] at e'
          exact I.inj l l' hl hl' e'
theorem TInv.dbound (I : TInv S T b d) {R : Int} (h0 : 0 ≤ R) (hR : ∀ i, i < S.m → sumN (S.n + S.m + 1) (fun j => ab (S.A i j)) ≤ R) : d ≤ R ^ S.m := by
  by_cases hm : 0 < S.m
  · have := I.bound h0 hR hm (j := b 0) (by have := I.bn 0 hm; omega)
    rw [I.unit hm hm, if_pos rfl, ab_pos (Int.le_of_lt I.dpos)] at this
    exact this
  · obtain ⟨e, h1, h2, h3⟩ := I.cr
    have hz : S.m = 0 := by omega
    have hD : D S b = 1 := by unfold D; rw [hz]; rfl
    rw [hD, Int.mul_one] at h2
    rw [hz, Int.pow_zero]
    rcases h1 with q | q <;> omega
/-! ### a pivot -/
def pv (T : Nat → Nat → Int) (r c : Nat) (s d : Int) : Nat → Nat → Int := fun k j => if k = r then s * T r j else (s * (T k j * T r c - T k c * T r j)) / d
def gv (G : Nat → Int) (T : Nat → Nat → Int) (r c : Nat) (s d : Int) : Nat → Int := fun j => (s * (G j * T r c - G c * T r j)) / d
theorem pv_key (I : TInv S T b d) {e : Int} (he : e = 1 ∨ e = -1) (h3 : ∀ k j, k < S.m → j < S.n + S.m + 1 → T k j = e * D S (upd b k j)) {r c k j : Nat} (hr : r < S.m) (hc : c < S.n + S.m + 1) (hk : k < S.m) (hj : j < S.n + S.m + 1) (hkr : k ≠ r) :
    T k j * T r c - T k c * T r j = d * (e * D S (upd (upd b r c) k j)) := by
  have z := D_sum S (upd b r c) hk j d S.m (fun l => T l j) (fun l => b l) (fun i hi => by
    rw [← I.sp i j hi hj]; exact sumN_congr fun l _ => Int.mul_comm _ _)
  rw [sumN_pair hk hr hkr (fun l hl n1 n2 => by
    show T l j * D S (upd (upd b r c) k (b l)) = 0
    rw [D_same hk hl (fun q => n1 q.symm) (by rw [upd_at, upd_off _ _ n1, upd_off _ _ n2]), Int.mul_zero])] at z
  have a1 : D S (upd (upd b r c) k (b k)) = D S (upd b r c) := by
    refine D_congr fun l hl => ?_
    unfold upd
    by_cases q : l = k
    · rw [if_pos q, if_neg (by omega), q]
    · rw [if_neg q]
  have a2 : D S (upd (upd b r c) k (b r)) = - D S (upd b k c) := by
    rw [D_swap S b hr hk (fun q => hkr q.symm), upd_self]
  rw [a1, a2] at z
  rw [h3 r c hr hc, h3 k c hk hc]
  have e2 : e * e = 1 := by rcases he with q | q <;> rw [q] <;> rfl
  grind
theorem pv_exact (I : TInv S T b d) (s : Int) {r c k j : Nat} (hr : r < S.m) (hc : c < S.n + S.m + 1) (hk : k < S.m) (hj : j < S.n + S.m + 1) (hkr : k ≠ r) : d * pv T r c s d k j = s * (T k j * T r c - T k c * T r j) := by
  obtain ⟨e, he, h2, h3⟩ := I.cr
  have z := pv_key I he h3 hr hc hk hj hkr
  unfold pv
  rw [if_neg hkr, z]
  have hd := I.dpos
  have e1 : s * (d * (e * D S (upd (upd b r c) k j))) = d * (s * (e * D S (upd (upd b r c) k j))) := by grind
  rw [e1, Int.mul_ediv_cancel_left _ (by omega)]
/-- weighted sums of the rows behind a pivot -/
theorem pv_sum (I : TInv S T b d) (s : Int) {r c j : Nat} (hr : r < S.m) (hc : c < S.n + S.m + 1) (hj : j < S.n + S.m + 1) (f : Nat → Int) :
    d * sumN S.m (fun k => f (upd b r c k) * pv T r c s d k j) = s * (T r c * sumN S.m (fun k => f (b k) * T k j) - T r j * sumN S.m (fun k => f (b k) * T k c)) + f c * d * s * T r j := by
  rw [← sumN_mul]
  have e : sumN S.m (fun k => d * (f (upd b r c k) * pv T r c s d k j)) = sumN S.m (fun k => (s * T r c) * (f (b k) * T k j) + ((- (s * T r j)) * (f (b k) * T k c) + (if k = r then f c * d * s * T r j else 0))) := by
    refine sumN_congr fun k hk => ?_
    by_cases q : k = r
    · subst q
      rw [upd_at, if_pos rfl]
      unfold pv
      rw [if_pos rfl]
      grind
    · rw [upd_off _ _ q, if_neg q]
      have z := pv_exact I s hr hc hk hj q
      grind
  rw [e, sumN_add, sumN_add, sumN_mul, sumN_mul, sumN_single hr (fun i _ ne => if_neg ne), if_pos rfl]
  grind
def GInv (S : Sys) (cf : Nat → Int) (T : Nat → Nat → Int) (b : Nat → Nat) (d : Int) (G : Nat → Int) : Prop := ∀ j, j < S.n + S.m + 1 → G j = d * cf j - sumN S.m (fun k => cf (b k) * T k j)
theorem TInv.pivot (I : TInv S T b d) {s : Int} (hs : s = 1 ∨ s = -1) {r c : Nat} (hr : r < S.m) (hc : c < S.n + S.m) (hp : 0 < s * T r c) : TInv S (pv T r c s d) (upd b r c) (s * T r c) where
  dpos := hp
  bn := fun k hk => by
    unfold upd
    by_cases q : k = r
    · rw [if_pos q]; exact hc
    · rw [if_neg q]; exact I.bn k hk
  cr := by
    obtain ⟨e, he, h2, h3⟩ := I.cr
    refine ⟨s * e, ?_, ?_, fun k j hk hj => ?_⟩
    · rcases hs with q | q <;> rcases he with q2 | q2 <;> rw [q, q2] <;> decide
    · rw [h3 r c hr (by omega), Int.mul_assoc]
    · by_cases q : k = r
      · subst q
        unfold pv
        rw [if_pos rfl, upd_upd, h3 k j hk hj, Int.mul_assoc]
      · have z := pv_exact I s hr (show c < S.n + S.m + 1 by omega) hk hj q
        rw [pv_key I he h3 hr (by omega) hk hj q] at z
        have hd := I.dpos
        have z2 : d * pv T r c s d k j = d * (s * e * D S (upd (upd b r c) k j)) := by rw [z]; grind
        exact Int.eq_of_mul_eq_mul_left (by omega) z2
  sp := fun i j hi hj => by
    have z := pv_sum I s hr (show c < S.n + S.m + 1 by omega) hj (fun x => S.A i x)
    have h1 : sumN S.m (fun k => (fun x => S.A i x) (b k) * T k j) = d * S.A i j := I.sp i j hi hj
    have h2 : sumN S.m (fun k => (fun x => S.A i x) (b k) * T k c) = d * S.A i c := I.sp i c hi (by omega)
    rw [h1, h2] at z
    have hd := I.dpos
    refine Int.eq_of_mul_eq_mul_left (show d ≠ 0 by omega) (Eq.trans z ?_)
    show s * (T r c * (d * S.A i j) - T r j * (d * S.A i c)) + S.A i c * d * s * T r j = d * (s * T r c * S.A i j)
    grind
theorem GInv.exact {cf G : Nat → Int} (I : TInv S T b d) (J : GInv S cf T b d G) (s : Int) {r c j : Nat} (hr : r < S.m) (hc : c < S.n + S.m + 1) (hj : j < S.n + S.m + 1) :
    s * (G j * T r c - G c * T r j) = d * (s * T r c * cf j - sumN S.m (fun k => cf (upd b r c k) * pv T r c s d k j)) := by
  have z := pv_sum I s hr hc hj cf
  rw [J j hj, J c hc]
  grind
theorem GInv.pivot {cf G : Nat → Int} (I : TInv S T b d) (J : GInv S cf T b d G) (s : Int) {r c : Nat} (hr : r < S.m) (hc : c < S.n + S.m + 1) : GInv S cf (pv T r c s d) (upd b r c) (s * T r c) (gv G T r c s d) := fun j hj => by
  unfold gv
  rw [J.exact I s hr hc hj, Int.mul_ediv_cancel_left]
  have := I.dpos
  omega
theorem GInv.congr {cf G G' : Nat → Int} {T' : Nat → Nat → Int} {b' : Nat → Nat} (J : GInv S cf T b d G) (hT : ∀ k j, k < S.m → j < S.n + S.m + 1 → T' k j = T k j) (hb : ∀ k, k < S.m → b' k = b k) (hG : ∀ j, j < S.n + S.m + 1 → G' j = G j) : GInv S cf T' b' d G' := fun j hj => by
  rw [hG j hj, J j hj]
  congr 1
  exact sumN_congr fun k hk => by rw [hb k hk, hT k j hk hj]
theorem GInv.base {cf G : Nat → Int} (I : TInv S T b d) (J : GInv S cf T b d G) {k : Nat} (hk : k < S.m) : G (b k) = 0 := by
  rw [J (b k) (by have := I.bn k hk; omega), sumN_single hk (fun l hl ne => by rw [I.unit hl hk, if_neg ne, Int.mul_zero]), I.unit hk hk, if_pos rfl]
  grind
/-- a second tableau's rows over the first one's base -/
theorem TInv.over {T2 : Nat → Nat → Int} {b2 : Nat → Nat} {d2 : Int} (I : TInv S T b d) (I2 : TInv S T2 b2 d2) {k j : Nat} (hk : k < S.m) (hj : j < S.n + S.m + 1) : d * T2 k j = sumN S.m (fun l => T2 k (b l) * T l j) := by
  rw [I2.row hk hj, ← sumN_mul]
  have e : sumN S.m (fun i => d * (T2 k (S.n + i) * S.A i j)) = sumN S.m (fun i => sumN S.m (fun l => T2 k (S.n + i) * (S.A i (b l) * T l j))) := by
    refine sumN_congr fun i hi => ?_
    rw [sumN_mul, I.sp i j hi hj]
    grind
  rw [e, sumN_swap]
  refine sumN_congr fun l hl => ?_
  rw [I2.row hk (show b l < S.n + S.m + 1 by have := I.bn l hl; omega), ← sumN_mulR]
  exact sumN_congr fun i _ => by grind
/-- reduced costs of two tableaus -/
theorem GInv.star {cf G G2 : Nat → Int} {T2 : Nat → Nat → Int} {b2 : Nat → Nat} {d2 : Int} (I : TInv S T b d) (J : GInv S cf T b d G) (I2 : TInv S T2 b2 d2) (J2 : GInv S cf T2 b2 d2 G2) {s : Nat} (hs : s < S.n + S.m + 1) :
    d * G2 s - sumN S.m (fun k => G2 (b k) * T k s) = d2 * G s := by
  have e1 : sumN S.m (fun k => G2 (b k) * T k s) = sumN S.m (fun k => d2 * (cf (b k) * T k s) - sumN S.m (fun l => cf (b2 l) * (T2 l (b k) * T k s))) := by
    refine sumN_congr fun k hk => ?_
    rw [J2 (b k) (by have := I.bn k hk; omega)]
    have : sumN S.m (fun l => cf (b2 l) * (T2 l (b k) * T k s)) = sumN S.m (fun l => cf (b2 l) * T2 l (b k)) * T k s := by
      rw [← sumN_mulR]
      exact sumN_congr fun l _ => by grind
    rw [this]
    grind
  rw [e1, sumN_sub, sumN_mul, sumN_swap]
  have e2 : sumN S.m (fun j => sumN S.m (fun i => cf (b2 j) * (T2 j (b i) * T i s))) = d * sumN S.m (fun l => cf (b2 l) * T2 l s) := by
    rw [← sumN_mul]
    refine sumN_congr fun l hl => ?_
    rw [sumN_mul, ← I.over I2 hl hs]
    grind
  rw [e2, J2 s hs, J s hs]
  grind
/-- where the helpers cost nothing: reduced costs by prices -/
theorem GInv.dual {cf G : Nat → Int} (I : TInv S T b d) (J : GInv S cf T b d G) (hz : ∀ i, i < S.m → cf (S.n + i) = 0) {j : Nat} (hj : j < S.n + S.m + 1) : G j = d * cf j + sumN S.m (fun i => G (S.n + i) * S.A i j) := by
  have e : sumN S.m (fun i => G (S.n + i) * S.A i j) = - sumN S.m (fun k => cf (b k) * T k j) := by
    have e1 : sumN S.m (fun i => G (S.n + i) * S.A i j) = sumN S.m (fun i => sumN S.m (fun k => - (cf (b k) * (T k (S.n + i) * S.A i j)))) := by
      refine sumN_congr fun i hi => ?_
      rw [J (S.n + i) (by omega), hz i hi, Int.mul_zero, sumN_neg]
      have : sumN S.m (fun k => cf (b k) * (T k (S.n + i) * S.A i j)) = sumN S.m (fun k => cf (b k) * T k (S.n + i)) * S.A i j := by
        rw [← sumN_mulR]
        exact sumN_congr fun k _ => by grind
      rw [this]
      grind
    rw [e1, sumN_swap, ← sumN_neg]
    refine sumN_congr fun k hk => ?_
    rw [sumN_neg, sumN_mul, ← I.row hk hj]
  rw [e, J j hj]
  omega
end
end Lp
namespace Lp
/-! ### steps by the least column and the least ratio -/
structure St where
  T : Nat → Nat → Int
  b : Nat → Nat
  d : Int
  G : Nat → Int
structure SInv (S : Sys) (cf : Nat → Int) (X : St) : Prop where
  I : TInv S X.T X.b X.d
  J : GInv S cf X.T X.b X.d X.G
  pos : ∀ k, k < S.m → 0 ≤ X.T k (S.n + S.m)
structure BStep (S : Sys) (X Y : St) (r c : Nat) : Prop where
  hr : r < S.m
  hc : c < S.n
  neg : X.G c < 0
  first : ∀ j, j < c → 0 ≤ X.G j
  pos : 0 < X.T r c
  min : ∀ k, k < S.m → 0 < X.T k c → X.T r (S.n + S.m) * X.T k c ≤ X.T k (S.n + S.m) * X.T r c
  tie : ∀ k, k < S.m → 0 < X.T k c → X.T r (S.n + S.m) * X.T k c = X.T k (S.n + S.m) * X.T r c → X.b r ≤ X.b k
  eT : ∀ k j, k < S.m → j < S.n + S.m + 1 → Y.T k j = pv X.T r c 1 X.d k j
  eb : ∀ k, k < S.m → Y.b k = upd X.b r c k
  ed : Y.d = X.T r c
  eG : ∀ j, j < S.n + S.m + 1 → Y.G j = gv X.G X.T r c 1 X.d j
theorem nonneg_of_mul {d x : Int} (hd : 0 < d) (h : 0 ≤ d * x) : 0 ≤ x :=
  Int.le_of_mul_le_mul_left (a := d) (by rw [Int.mul_zero]; exact h) hd
theorem pos_of_mul {d x : Int} (hd : 0 < d) (h : 0 < d * x) : 0 < x :=
  Int.lt_of_mul_lt_mul_left (a := d) (by rw [Int.mul_zero]; exact h) (Int.le_of_lt hd)
theorem SInv.step {S : Sys} {cf : Nat → Int} {X Y : St} {r c : Nat} (V : SInv S cf X) (B : BStep S X Y r c) : SInv S cf Y := by
  have hc := B.hc
  have hr := B.hr
  have p1 : (0 : Int) < 1 * X.T r c := by rw [Int.one_mul]; exact B.pos
  have I1 := V.I.pivot (s := 1) (.inl rfl) hr (c := c) (by omega) p1
  rw [Int.one_mul] at I1
  have J1 := GInv.pivot V.I V.J 1 hr (c := c) (by omega)
  rw [Int.one_mul] at J1
  refine ⟨?_, ?_, fun k hk => ?_⟩
  · rw [B.ed]; exact I1.congr B.eT B.eb
  · rw [B.ed]; exact J1.congr B.eT B.eb B.eG
  · rw [B.eT k _ hk (by omega)]
    by_cases q : k = r
    · subst q
      unfold pv
      rw [if_pos rfl, Int.one_mul]; exact V.pos k hk
    · refine nonneg_of_mul V.I.dpos ?_
      rw [pv_exact V.I 1 hr (by omega) hk (by omega) q, Int.one_mul]
      by_cases z : 0 < X.T k c
      · have := B.min k hk z
        rw [Int.mul_comm (X.T k c)]
        omega
      · have h1 : 0 ≤ X.T k (S.n + S.m) * X.T r c := Int.mul_nonneg (V.pos k hk) (Int.le_of_lt B.pos)
        have h2 : 0 ≤ (- X.T k c) * X.T r (S.n + S.m) := Int.mul_nonneg (by omega) (V.pos r hr)
        rw [Int.neg_mul] at h2
        omega
def Run (S : Sys) (X : Nat → St) (r c : Nat → Nat) (L : Nat) : Prop := ∀ i, i < L → BStep S (X i) (X (i + 1)) (r i) (c i)
theorem Run.inv {S : Sys} {cf : Nat → Int} {X : Nat → St} {r c : Nat → Nat} {L : Nat} (R : Run S X r c L) (h : SInv S cf (X 0)) : ∀ i, i ≤ L → SInv S cf (X i)
  | 0, _ => h
  | i + 1, hi => (Run.inv R h i (by omega)).step (R i (by omega))
def inB (S : Sys) (X : St) (v : Nat) : Prop := ∃ k, k < S.m ∧ X.b k = v
def Zv (S : Sys) (X : St) (v : Nat) : Prop := ∀ k, k < S.m → X.b k = v → X.T k (S.n + S.m) = 0
section
variable {S : Sys} {cf : Nat → Int} {X Y : St} {r c : Nat}
theorem BStep.inB_iff (B : BStep S X Y r c) {v : Nat} (h1 : v ≠ c) (h2 : v ≠ X.b r) : inB S Y v ↔ inB S X v := by
  constructor
  · rintro ⟨k, hk, e⟩
    rw [B.eb k hk] at e
    unfold upd at e
    by_cases q : k = r
    · rw [if_pos q] at e; exact absurd e.symm h1
    · rw [if_neg q] at e; exact ⟨k, hk, e⟩
  · rintro ⟨k, hk, e⟩
    refine ⟨k, hk, ?_⟩
    rw [B.eb k hk, upd_off _ _ (fun q => h2 (by rw [← e, q]))]; exact e
theorem BStep.inB_keep (B : BStep S X Y r c) {v : Nat} (h2 : v ≠ X.b r) (h : inB S X v) : inB S Y v := by
  obtain ⟨k, hk, e⟩ := h
  refine ⟨k, hk, ?_⟩
  rw [B.eb k hk, upd_off _ _ (fun q => h2 (by rw [← e, q]))]; exact e
theorem BStep.out_keep (B : BStep S X Y r c) {v : Nat} (h1 : v ≠ c) (h : ¬ inB S X v) : ¬ inB S Y v := by
  rintro ⟨k, hk, e⟩
  rw [B.eb k hk] at e
  unfold upd at e
  by_cases q : k = r
  · rw [if_pos q] at e; exact h1 e.symm
  · rw [if_neg q] at e; exact h ⟨k, hk, e⟩
theorem BStep.Z_iff (B : BStep S X Y r c) (V : SInv S cf X) (hz : X.T r (S.n + S.m) = 0) (v : Nat) : Zv S Y v ↔ Zv S X v := by
  have hc := B.hc
  have hr := B.hr
  constructor
  · intro h k hk e
    by_cases q : k = r
    · rw [q]; exact hz
    · have y0 := h k hk (by rw [B.eb k hk, upd_off _ _ q]; exact e)
      rw [B.eT k _ hk (by omega)] at y0
      have ex := pv_exact V.I 1 hr (show c < S.n + S.m + 1 by omega) hk (show S.n + S.m < S.n + S.m + 1 by omega) q
      rw [y0, hz, Int.mul_zero, Int.mul_zero, Int.sub_zero, Int.one_mul] at ex
      have := B.pos
      rcases Int.mul_eq_zero.mp ex.symm with z | z
      · exact z
      · omega
  · intro h k hk e
    rw [B.eT k _ hk (by omega)]
    by_cases q : k = r
    · subst q
      unfold pv
      rw [if_pos rfl, hz, Int.mul_zero]
    · rw [B.eb k hk, upd_off _ _ q] at e
      unfold pv
      rw [if_neg q, h k hk e, hz]
      simp
end
section
variable {S : Sys} {cf : Nat → Int} {X : Nat → St} {r c : Nat → Nat}
/-- a run whose steps move nothing, all of its columns below t -/
structure Deg (S : Sys) (cf : Nat → Int) (X : Nat → St) (r c : Nat → Nat) (L t : Nat) : Prop where
  run : Run S X r c L
  inv : ∀ i, i ≤ L → SInv S cf (X i)
  z : ∀ i, i < L → (X i).T (r i) (S.n + S.m) = 0
  ent : ∀ i, i < L → c i < t
  lea : ∀ i, i < L → (X i).b (r i) < t
theorem Deg.sub {L t : Nat} (W : Deg S cf X r c L t) (a L' : Nat) (h : a + L' ≤ L) : Deg S cf (fun i => X (a + i)) (fun i => r (a + i)) (fun i => c (a + i)) L' t where
  run := fun i hi => W.run (a + i) (by omega)
  inv := fun i hi => W.inv (a + i) (by omega)
  z := fun i hi => W.z (a + i) (by omega)
  ent := fun i hi => W.ent (a + i) (by omega)
  lea := fun i hi => W.lea (a + i) (by omega)
theorem Deg.inB0 {L t v : Nat} (W : Deg S cf X r c L t) (hv : t ≤ v) : ∀ i, i ≤ L → (inB S (X i) v ↔ inB S (X 0) v)
  | 0, _ => Iff.rfl
  | i + 1, hi => ((W.run i (by omega)).inB_iff (by have := W.ent i (by omega); omega) (by have := W.lea i (by omega); omega)).trans (Deg.inB0 W hv i (by omega))
theorem Deg.Z0 {L t : Nat} (W : Deg S cf X r c L t) (v : Nat) : ∀ i, i ≤ L → (Zv S (X i) v ↔ Zv S (X 0) v)
  | 0, _ => Iff.rfl
  | i + 1, hi => ((W.run i (by omega)).Z_iff (W.inv i (by omega)) (W.z i (by omega)) v).trans (Deg.Z0 W v i (by omega))
/-- the greatest column does not both leave and enter -/
theorem Deg.core {L t u v : Nat} (W : Deg S cf X r c L (t + 1)) (hu : u < L) (hv : v < L) (hlea : (X u).b (r u) = t) (hent : c v = t) : False := by
  have Bu := W.run u hu
  have Bv := W.run v hv
  have Vu := W.inv u (by omega)
  have Vv := W.inv v (by omega)
  have hru := Bu.hr
  have hcu := Bu.hc
  have hcv := Bv.hc
  have hst : c u ≠ t := fun e => by
    have z := GInv.base Vu.I Vu.J hru
    rw [hlea, ← e] at z
    have := Bu.neg
    omega
  have hlt : c u < t := by have := W.ent u hu; omega
  have gs : 0 ≤ (X v).G (c u) := Bv.first _ (by omega)
  have gt : (X v).G t < 0 := by rw [← hent]; exact Bv.neg
  have st := GInv.star Vu.I Vu.J Vv.I Vv.J (s := c u) (by omega)
  have p1 : 0 ≤ (X u).d * (X v).G (c u) := Int.mul_nonneg (Int.le_of_lt Vu.I.dpos) gs
  have p2 : 0 < (X v).d * (- (X u).G (c u)) := Int.mul_pos Vv.I.dpos (by have := Bu.neg; omega)
  rw [Int.mul_neg] at p2
  obtain ⟨k, hk, hp⟩ := sumN_pos (n := S.m) (f := fun k => (X v).G ((X u).b k) * (X u).T k (c u)) (by omega)
  have hp' : 0 < (X v).G ((X u).b k) * (X u).T k (c u) := hp
  have hkr : k ≠ r u := fun e => by
    rw [e, hlea] at hp'
    have : 0 < (- (X v).G t) * (X u).T (r u) (c u) := Int.mul_pos (by omega) Bu.pos
    rw [Int.neg_mul] at this
    omega
  have hbt : (X u).b k ≠ t := fun e => hkr (Vu.I.inj k (r u) hk hru (e.trans hlea.symm))
  have hnb : ¬ inB S (X v) ((X u).b k) := by
    rintro ⟨l, hl, e⟩
    have z := GInv.base Vv.I Vv.J hl
    rw [e] at z
    rw [z, Int.zero_mul] at hp'
    omega
  have hle : (X u).b k < t := by
    by_cases q : (X u).b k < t
    · exact q
    · exact absurd (((W.inB0 (v := (X u).b k) (by omega) v (by omega)).trans (W.inB0 (v := (X u).b k) (by omega) u (by omega)).symm).mpr ⟨k, hk, rfl⟩) hnb
  have gk : 0 ≤ (X v).G ((X u).b k) := Bv.first _ (by omega)
  have tk : 0 < (X u).T k (c u) := by
    by_cases q : 0 < (X u).T k (c u)
    · exact q
    · have : 0 ≤ (X v).G ((X u).b k) * (- (X u).T k (c u)) := Int.mul_nonneg gk (by omega)
      rw [Int.mul_neg] at this
      omega
  have zk : (X u).T k (S.n + S.m) = 0 := by
    have zv : Zv S (X v) ((X u).b k) := fun l hl e => absurd ⟨l, hl, e⟩ hnb
    exact ((W.Z0 _ u (by omega)).mpr ((W.Z0 _ v (by omega)).mp zv)) k hk rfl
  have := Bu.tie k hk tk (by rw [W.z u hu, zk, Int.zero_mul, Int.zero_mul])
  omega
theorem Deg.once {L t i j : Nat} (W : Deg S cf X r c L (t + 1)) (hij : i < j) (hj : j < L) (hi : c i = t ∨ (X i).b (r i) = t) (hj' : c j = t ∨ (X j).b (r j) = t) : False := by
  rcases hi with hi | hi <;> rcases hj' with hj' | hj'
  · -- enters twice: it stays in the base in between
    have stay : ∀ g, i + 1 + g ≤ j → inB S (X (i + 1 + g)) t := by
      intro g
      induction g with
      | zero =>
        intro _
        refine ⟨r i, (W.run i (by omega)).hr, ?_⟩
        show (X (i + 1)).b (r i) = t
        rw [(W.run i (by omega)).eb _ (W.run i (by omega)).hr, upd_at]; exact hi
      | succ g ih =>
        intro h
        exact (W.run (i + 1 + g) (by omega)).inB_keep (fun e => W.core (u := i + 1 + g) (v := i) (by omega) (by omega) e.symm hi) (ih (by omega))
    have hb := stay (j - i - 1) (by omega)
    have ej : i + 1 + (j - i - 1) = j := by omega
    rw [ej] at hb
    obtain ⟨k, hk, e⟩ := hb
    have z := GInv.base (W.inv j (by omega)).I (W.inv j (by omega)).J hk
    rw [e, ← hj'] at z
    have := (W.run j hj).neg
    omega
  · exact W.core hj (by omega) hj' hi
  · exact W.core (u := i) (by omega) hj hi hj'
  · have stay : ∀ g, i + 1 + g ≤ j → ¬ inB S (X (i + 1 + g)) t := by
      intro g
      induction g with
      | zero =>
        intro _ hb
        obtain ⟨k, hk, e⟩ := hb
        have e' : (X (i + 1)).b k = t := e
        rw [(W.run i (by omega)).eb k hk] at e'
        unfold upd at e'
        by_cases q : k = r i
        · rw [if_pos q] at e'
          exact W.core (u := i) (v := i) (by omega) (by omega) hi e'
        · rw [if_neg q] at e'
          exact q ((W.inv i (by omega)).I.inj _ _ hk (W.run i (by omega)).hr (e'.trans hi.symm))
      | succ g ih =>
        intro h
        exact (W.run (i + 1 + g) (by omega)).out_keep (fun e => W.core (u := i) (v := i + 1 + g) (by omega) (by omega) hi e.symm) (ih (by omega))
    have hb := stay (j - i - 1) (by omega)
    have ej : i + 1 + (j - i - 1) = j := by omega
    rw [ej] at hb
    exact hb ⟨r j, (W.run j hj).hr, hj'⟩
end
theorem Deg.len {S : Sys} {cf : Nat → Int} : ∀ (t : Nat) {X : Nat → St} {r c : Nat → Nat} {L : Nat}, Deg S cf X r c L t → L < 2 ^ t
  | 0, X, r, c, L, W => by
    by_cases h : 0 < L
    · exact absurd (W.ent 0 h) (Nat.not_lt_zero _)
    · rw [Nat.pow_zero]; omega
  | t + 1, X, r, c, L, W => by
    have narrow : ∀ (a L' : Nat), a + L' ≤ L → (∀ i, i < L' → ¬ (c (a + i) = t ∨ (X (a + i)).b (r (a + i)) = t)) → L' < 2 ^ t := fun a L' h no => by
      have W' := W.sub a L' h
      exact Deg.len t ⟨W'.run, W'.inv, W'.z, fun i hi => by
        have a1 := W'.ent i hi
        have a2 := no i hi
        have a3 : c (a + i) ≠ t := fun q => a2 (.inl q)
        show c (a + i) < t
        have a4 : c (a + i) < t + 1 := a1
        omega, fun i hi => by
        have a1 := W'.lea i hi
        have a2 := no i hi
        have a3 : (X (a + i)).b (r (a + i)) ≠ t := fun q => a2 (.inr q)
        show (X (a + i)).b (r (a + i)) < t
        have a4 : (X (a + i)).b (r (a + i)) < t + 1 := a1
        omega⟩
    have e2 : 2 ^ (t + 1) = 2 ^ t + 2 ^ t := by rw [Nat.pow_succ]; omega
    by_cases h : ∃ i, i < L ∧ (c i = t ∨ (X i).b (r i) = t)
    · obtain ⟨i, hi, hp⟩ := h
      have l1 := narrow 0 i (by omega) (fun q hq z => by
        rw [Nat.zero_add] at z
        exact W.once hq hi z hp)
      have l2 := narrow (i + 1) (L - i - 1) (by omega) (fun q hq z => W.once (by omega) (by omega) hp z)
      omega
    · have l1 := narrow 0 L (by omega) (fun q hq z => h ⟨q, hq, by rw [Nat.zero_add] at z; exact z⟩)
      omega
/-! ### the bound of all runs -/
theorem dvd_all : ∀ B : Nat, ∃ K : Int, 0 < K ∧ ∀ d : Int, 0 < d → d ≤ (B : Int) → ∃ q, K = d * q
  | 0 => ⟨1, by decide, fun d h1 h2 => by omega⟩
  | B + 1 => by
    obtain ⟨K, hK, h⟩ := dvd_all B
    refine ⟨K * ((B + 1 : Nat) : Int), Int.mul_pos hK (by omega), fun d h1 h2 => ?_⟩
    by_cases e : d = ((B + 1 : Nat) : Int)
    · exact ⟨K, by rw [e, Int.mul_comm]⟩
    · obtain ⟨q, hq⟩ := h d h1 (by omega)
      exact ⟨q * ((B + 1 : Nat) : Int), by rw [hq, Int.mul_assoc]⟩
/-- what a step does to the sum, over one denominator for all -/
theorem BStep.goal {S : Sys} {cf : Nat → Int} {X Y : St} {r c : Nat} (V : SInv S cf X) (B : BStep S X Y r c) : X.d * Y.G (S.n + S.m) = X.G (S.n + S.m) * Y.d - X.G c * X.T r (S.n + S.m) := by
  have hc := B.hc
  have J1 := GInv.exact V.I V.J 1 B.hr (c := c) (j := S.n + S.m) (by omega) (by omega)
  have J2 := GInv.pivot V.I V.J 1 B.hr (c := c) (by omega) (S.n + S.m) (by omega)
  rw [B.eG _ (by omega), B.ed, J2, ← J1]
  omega
theorem SInv.goal_le {S : Sys} {cf : Nat → Int} {X : St} (V : SInv S cf X) (hcf : ∀ j, 0 ≤ cf j) (h0 : cf (S.n + S.m) = 0) : X.G (S.n + S.m) ≤ 0 := by
  rw [V.J _ (by omega), h0, Int.mul_zero]
  have : 0 ≤ sumN S.m (fun k => cf (X.b k) * X.T k (S.n + S.m)) := sumN_nonneg fun k hk => Int.mul_nonneg (hcf _) (V.pos k hk)
  omega
theorem run_lt {S : Sys} {cf : Nat → Int} (hcf : ∀ j, 0 ≤ cf j) (h0 : cf (S.n + S.m) = 0) {K B : Int} (hK : 0 < K) (hd : ∀ d : Int, 0 < d → d ≤ B → ∃ q, K = d * q) (hB : ∀ X, SInv S cf X → X.d ≤ B) :
    ∀ (v : Nat) {X : Nat → St} {r c : Nat → Nat} {L : Nat}, Run S X r c L → SInv S cf (X 0) → (∀ q, K = (X 0).d * q → (- (X 0).G (S.n + S.m)) * q ≤ (v : Int)) → L < (v + 1) * 2 ^ (S.n + S.m) := by
  intro v
  induction v with
  | zero =>
    intro X r c L R V h
    have inv := R.inv V
    -- the sum is 0: no step can move it
    suffices all : ∀ i, i < L → (X i).T (r i) (S.n + S.m) = 0 by
      have W : Deg S cf X r c L (S.n + S.m) := ⟨R, inv, all, fun i hi => by have := (R i hi).hc; omega, fun i hi => (inv i (by omega)).I.bn _ (R i hi).hr⟩
      have := W.len
      omega
    have z0 : ∀ i, i ≤ L → (X i).G (S.n + S.m) = 0 := by
      intro i
      induction i with
      | zero =>
        intro _
        obtain ⟨q, hq⟩ := hd _ V.I.dpos (hB _ V)
        have h1 := h q hq
        have hq0 : 0 < q := by
          have : 0 < (X 0).d * q := by rw [← hq]; exact hK
          exact pos_of_mul V.I.dpos this
        have g0 := V.goal_le hcf h0
        have h2 : (- (X 0).G (S.n + S.m)) * q ≤ 0 * q := by rw [Int.zero_mul]; exact h1
        have := Int.le_of_mul_le_mul_right h2 hq0
        omega
      | succ i ih =>
        intro hi
        have gi := BStep.goal (inv i (by omega)) (R i (by omega))
        rw [ih (by omega), Int.zero_mul, Int.zero_sub] at gi
        have g1 := (inv (i + 1) hi).goal_le hcf h0
        have n1 : 0 ≤ (- (X i).G (c i)) * (X i).T (r i) (S.n + S.m) := Int.mul_nonneg (by have := (R i (by omega)).neg; omega) ((inv i (by omega)).pos _ (R i (by omega)).hr)
        rw [Int.neg_mul] at n1
        have n2 := nonneg_of_mul (inv i (by omega)).I.dpos (x := (X (i + 1)).G (S.n + S.m)) (by omega)
        omega
    intro i hi
    have gi := BStep.goal (inv i (by omega)) (R i hi)
    rw [z0 i (by omega), z0 (i + 1) (by omega), Int.mul_zero, Int.zero_mul, Int.zero_sub] at gi
    have := (R i hi).neg
    rcases Int.mul_eq_zero.mp (show (X i).G (c i) * (X i).T (r i) (S.n + S.m) = 0 by omega) with z | z
    · omega
    · exact z
  | succ v ih =>
    intro X r c L R V h
    have inv := R.inv V
    have ep : (v + 1 + 1) * 2 ^ (S.n + S.m) = (v + 1) * 2 ^ (S.n + S.m) + 2 ^ (S.n + S.m) := by rw [Nat.succ_mul]
    have deg : ∀ n, n ≤ L → (∀ i, i < n → (X i).T (r i) (S.n + S.m) = 0) → n < 2 ^ (S.n + S.m) := fun n hn all =>
      Deg.len _ (⟨fun i hi => R i (by omega), fun i hi => inv i (by omega), all, fun i hi => by have := (R i (by omega)).hc; omega, fun i hi => (inv i (by omega)).I.bn _ (R i (by omega)).hr⟩ : Deg S cf X r c n (S.n + S.m))
    -- up to the first step that moves the sum
    have find : ∀ n, n ≤ L → (∀ i, i < n → (X i).T (r i) (S.n + S.m) = 0) ∨ ∃ i, i < n ∧ (∀ i', i' < i → (X i').T (r i') (S.n + S.m) = 0) ∧ (X i).T (r i) (S.n + S.m) ≠ 0 := by
      intro n
      induction n with
      | zero => intro _; exact .inl fun i hi => absurd hi (Nat.not_lt_zero _)
      | succ n ihn =>
        intro hn
        rcases ihn (by omega) with a | ⟨i, hi, a, e⟩
        · by_cases q : (X n).T (r n) (S.n + S.m) = 0
          · exact .inl fun i hi => by
              by_cases z : i = n
              · rw [z]; exact q
              · exact a i (by omega)
          · exact .inr ⟨n, by omega, a, q⟩
        · exact .inr ⟨i, by omega, a, e⟩
    rcases find L (Nat.le_refl _) with all | ⟨i, hi, all, ne⟩
    · have := deg L (Nat.le_refl _) all
      omega
    · have hi2 := deg i (by omega) all
      -- the potential until then
      have pot : ∀ j, j ≤ i → ∀ q, K = (X j).d * q → (- (X j).G (S.n + S.m)) * q ≤ ((v + 1 : Nat) : Int) := by
        intro j
        induction j with
        | zero => intro _; exact h
        | succ j ihj =>
          intro hj q hq
          obtain ⟨q0, hq0⟩ := hd _ (inv j (by omega)).I.dpos (hB _ (inv j (by omega)))
          have g := BStep.goal (inv j (by omega)) (R j (by omega))
          rw [all j (by omega), Int.mul_zero, Int.sub_zero] at g
          have p0 := ihj (by omega) q0 hq0
          have e1 : (X j).d * ((- (X (j + 1)).G (S.n + S.m)) * q) = (X j).d * ((- (X j).G (S.n + S.m)) * q0) := by grind
          have d0 := (inv j (by omega)).I.dpos
          rw [Int.eq_of_mul_eq_mul_left (by omega) e1]
          exact p0
      have sub : Run S (fun k => X (i + 1 + k)) (fun k => r (i + 1 + k)) (fun k => c (i + 1 + k)) (L - i - 1) := fun k hk => R (i + 1 + k) (by omega)
      have hlast := ih sub (inv (i + 1) (by omega)) (fun q hq => by
        have hq' : K = (X (i + 1)).d * q := hq
        show (- (X (i + 1)).G (S.n + S.m)) * q ≤ (v : Int)
        have Bi := R i hi
        have Vi := inv i (by omega)
        have Vi1 := inv (i + 1) (by omega)
        obtain ⟨q0, hq0⟩ := hd _ Vi.I.dpos (hB _ Vi)
        have g := BStep.goal Vi Bi
        have p0 := pot i (Nat.le_refl _) q0 hq0
        have tp : 0 < (X i).T (r i) (S.n + S.m) := by have := Vi.pos _ Bi.hr; omega
        have gp : 0 < (- (X i).G (c i)) * (X i).T (r i) (S.n + S.m) := Int.mul_pos (by have := Bi.neg; omega) tp
        have qp : 0 < q := pos_of_mul Vi1.I.dpos (by rw [← hq']; exact hK)
        -- d * (new) = d * (old) - positive
        have e1 : (X i).d * ((- (X (i + 1)).G (S.n + S.m)) * q) = (X i).d * ((- (X i).G (S.n + S.m)) * q0) - ((- (X i).G (c i)) * (X i).T (r i) (S.n + S.m)) * q := by grind
        have e2 : 0 < ((- (X i).G (c i)) * (X i).T (r i) (S.n + S.m)) * q := Int.mul_pos gp qp
        have e3 : (X i).d * ((- (X (i + 1)).G (S.n + S.m)) * q) < (X i).d * ((- (X i).G (S.n + S.m)) * q0) := by omega
        have e4 := Int.lt_of_mul_lt_mul_left e3 (Int.le_of_lt Vi.I.dpos)
        omega)
      omega
/-- every run from here has at most so many steps -/
def Ends (S : Sys) (X : St) (M : Nat) : Prop := ∀ (Y : Nat → St) (r c : Nat → Nat) (L : Nat), Y 0 = X → Run S Y r c L → L ≤ M
theorem Ends.step {S : Sys} {X Y : St} {r c M : Nat} (E : Ends S X M) (B : BStep S X Y r c) : ∃ M', M' < M ∧ Ends S Y M' := by
  have key : ∀ (Z : Nat → St) (r' c' : Nat → Nat) (L : Nat), Z 0 = Y → Run S Z r' c' L → L + 1 ≤ M := fun Z r' c' L hZ R => by
    refine E (fun i => match i with | 0 => X | i + 1 => Z i) (fun i => match i with | 0 => r | i + 1 => r' i) (fun i => match i with | 0 => c | i + 1 => c' i) (L + 1) rfl fun i hi => ?_
    cases i with
    | zero => show BStep S X (Z 0) r c; rw [hZ]; exact B
    | succ i => exact R i (by omega)
  have h1 := key (fun _ => Y) (fun _ => 0) (fun _ => 0) 0 rfl (fun i hi => absurd hi (Nat.not_lt_zero _))
  exact ⟨M - 1, by omega, fun Z r' c' L hZ R => by have := key Z r' c' L hZ R; omega⟩
theorem row_bound (S : Sys) : ∃ R : Int, 0 ≤ R ∧ ∀ i, i < S.m → sumN (S.n + S.m + 1) (fun j => ab (S.A i j)) ≤ R := by
  have n0 : ∀ i, 0 ≤ sumN (S.n + S.m + 1) (fun j => ab (S.A i j)) := fun i => sumN_nonneg fun j _ => ab_nonneg _
  refine ⟨sumN S.m (fun i => sumN (S.n + S.m + 1) (fun j => ab (S.A i j))), sumN_nonneg fun i _ => n0 i, fun i hi => ?_⟩
  have h : sumN S.m (fun k => if k = i then sumN (S.n + S.m + 1) (fun j => ab (S.A i j)) else 0) ≤ sumN S.m (fun i => sumN (S.n + S.m + 1) (fun j => ab (S.A i j))) := sumN_le fun k hk => by
    by_cases q : k = i
    · rw [if_pos q, q]; exact Int.le_refl _
    · rw [if_neg q]; exact n0 k
  rw [sumN_single hi (fun k _ ne => if_neg ne), if_pos rfl] at h
  exact h
theorem SInv.ends {S : Sys} {cf : Nat → Int} {X : St} (hcf : ∀ j, 0 ≤ cf j) (h0 : cf (S.n + S.m) = 0) (V : SInv S cf X) : ∃ M, Ends S X M := by
  obtain ⟨R, hR0, hR⟩ := row_bound S
  have hB : ∀ X, SInv S cf X → X.d ≤ (((R ^ S.m).toNat : Nat) : Int) := fun X V => by
    have := V.I.dbound hR0 hR
    omega
  obtain ⟨K, hK, hd⟩ := dvd_all (R ^ S.m).toNat
  obtain ⟨q, hq⟩ := hd _ V.I.dpos (hB _ V)
  refine ⟨(((- X.G (S.n + S.m)) * q).toNat + 1) * 2 ^ (S.n + S.m), fun Y r c L hY Rn => ?_⟩
  have := run_lt hcf h0 hK hd hB ((- X.G (S.n + S.m)) * q).toNat Rn (by rw [hY]; exact V) (fun q' hq' => by
    rw [hY] at hq' ⊢
    have e : X.d * q = X.d * q' := hq.symm.trans hq'
    have d0 := V.I.dpos
    rw [← Int.eq_of_mul_eq_mul_left (by omega) e]
    omega)
  omega
end Lp
namespace Lp
/-! ### the tableau as lists -/
structure Tab where
  rows : List (List Int)
  goals : List (List Int)
  base : List Nat
  scale : Int
def ent (rows : List (List Int)) (k j : Nat) : Int := (rows.getD k []).getD j 0
def Tab.T (X : Tab) : Nat → Nat → Int := ent X.rows
def Tab.b (X : Tab) : Nat → Nat := fun k => X.base.getD k 0
def Tab.G (X : Tab) (g : Nat) : Nat → Int := ent X.goals g
def low (row head : List Int) (c : Nat) (center old : Int) : List Int := List.zipWith (fun v o => (v * center - row.getD c 0 * o) / old) row head
def Tab.piv (X : Tab) (r c : Nat) : Tab where
  rows := (List.range X.rows.length).map fun k => if k = r then X.rows.getD r [] else low (X.rows.getD k []) (X.rows.getD r []) c (X.T r c) X.scale
  goals := X.goals.map fun g => low g (X.rows.getD r []) c (X.T r c) X.scale
  base := X.base.set r c
  scale := X.T r c
def Tab.neg (X : Tab) (r : Nat) : Tab := { X with rows := X.rows.set r ((X.rows.getD r []).map fun v => - v) }
def Tab.st (X : Tab) (g : Nat) : St := ⟨X.T, X.b, X.scale, X.G g⟩
structure Shp (S : Sys) (X : Tab) : Prop where
  rl : X.rows.length = S.m
  rw : ∀ k, k < S.m → (X.rows.getD k []).length = S.n + S.m + 1
  gl : X.goals.length = 2
  gw : ∀ g, g < 2 → (X.goals.getD g []).length = S.n + S.m + 1
  bl : X.base.length = S.m
theorem getD_lt {α : Type} {l : List α} {k : Nat} (d : α) (h : k < l.length) : l.getD k d = l[k] := by
  simp [List.getD_eq_getElem?_getD, h]
theorem getD_map_range {α : Type} (f : Nat → α) (d : α) {n k : Nat} (h : k < n) : ((List.range n).map f).getD k d = f k := by
  simp [List.getD_eq_getElem?_getD, h]
theorem getD_map {α β : Type} (f : α → β) (l : List α) (a : α) (d : β) {k : Nat} (h : k < l.length) : (l.map f).getD k d = f (l.getD k a) := by
  simp [List.getD_eq_getElem?_getD, h]
theorem getD_zipWith (f : Int → Int → Int) {a b : List Int} {j : Nat} (ha : j < a.length) (hb : j < b.length) : (List.zipWith f a b).getD j 0 = f (a.getD j 0) (b.getD j 0) := by
  simp [List.getD_eq_getElem?_getD, List.getElem?_zipWith, ha, hb]
theorem getD_set {α : Type} {l : List α} (v d : α) {i k : Nat} (h : i < l.length) : (l.set i v).getD k d = if k = i then v else l.getD k d := by
  by_cases q : k = i
  · subst q; simp [List.getD_eq_getElem?_getD, h]
  · rw [if_neg q]
    simp [List.getD_eq_getElem?_getD, List.getElem?_set_ne (fun z => q z.symm)]
theorem low_len {row head : List Int} (c : Nat) (x y : Int) (h : row.length = head.length) : (low row head c x y).length = row.length := by
  unfold low
  rw [List.length_zipWith, h, Nat.min_self]
section
variable {S : Sys} {X : Tab}
/-- what a pivot does, by entries -/
structure PivOf (S : Sys) (X Y : Tab) (r c : Nat) (s : Int) : Prop where
  shp : Shp S Y
  eT : ∀ k j, k < S.m → j < S.n + S.m + 1 → Y.T k j = pv X.T r c s X.scale k j
  eb : ∀ k, k < S.m → Y.b k = upd X.b r c k
  ed : Y.scale = s * X.T r c
  eG : ∀ g j, g < 2 → j < S.n + S.m + 1 → Y.G g j = gv (X.G g) X.T r c s X.scale j
theorem piv_shp (h : Shp S X) {r c : Nat} (hr : r < S.m) : Shp S (X.piv r c) where
  rl := by show ((List.range X.rows.length).map _).length = S.m; rw [List.length_map, List.length_range, h.rl]
  rw := fun k hk => by
    show (((List.range X.rows.length).map _).getD k []).length = _
    rw [getD_map_range _ _ (by rw [h.rl]; exact hk)]
    by_cases q : k = r
    · rw [if_pos q]; exact h.rw r hr
    · rw [if_neg q, low_len _ _ _ (by rw [h.rw k hk, h.rw r hr])]; exact h.rw k hk
  gl := by show (X.goals.map _).length = 2; rw [List.length_map]; exact h.gl
  gw := fun g hg => by
    show ((X.goals.map _).getD g []).length = _
    rw [getD_map _ _ [] _ (by rw [h.gl]; exact hg), low_len _ _ _ (by rw [h.gw g hg, h.rw r hr])]; exact h.gw g hg
  bl := by show (X.base.set r c).length = S.m; rw [List.length_set]; exact h.bl
theorem piv_of (h : Shp S X) {r c : Nat} (hr : r < S.m) (hc : c < S.n + S.m + 1) : PivOf S X (X.piv r c) r c 1 where
  shp := piv_shp h hr
  eT := fun k j hk hj => by
    show (((List.range X.rows.length).map _).getD k []).getD j 0 = _
    rw [getD_map_range _ _ (by rw [h.rl]; exact hk)]
    unfold pv
    by_cases q : k = r
    · rw [if_pos q, if_pos q, Int.one_mul]; rfl
    · rw [if_neg q, if_neg q]
      unfold low
      rw [getD_zipWith _ (by rw [h.rw k hk]; exact hj) (by rw [h.rw r hr]; exact hj), Int.one_mul]
      rfl
  eb := fun k hk => by
    show (X.base.set r c).getD k 0 = _
    rw [getD_set _ _ (by rw [h.bl]; exact hr)]
    rfl
  ed := by show X.T r c = _; rw [Int.one_mul]
  eG := fun g j hg hj => by
    show ((X.goals.map _).getD g []).getD j 0 = _
    rw [getD_map _ _ [] _ (by rw [h.gl]; exact hg)]
    unfold low gv
    rw [getD_zipWith _ (by rw [h.gw g hg]; exact hj) (by rw [h.rw r hr]; exact hj), Int.one_mul]
    rfl
theorem neg_shp (h : Shp S X) {r : Nat} (hr : r < S.m) : Shp S (X.neg r) where
  rl := by show (X.rows.set r _).length = S.m; rw [List.length_set]; exact h.rl
  rw := fun k hk => by
    show ((X.rows.set r _).getD k []).length = _
    rw [getD_set _ _ (by rw [h.rl]; exact hr)]
    by_cases q : k = r
    · rw [if_pos q, List.length_map]; exact h.rw r hr
    · rw [if_neg q]; exact h.rw k hk
  gl := h.gl
  gw := h.gw
  bl := h.bl
theorem neg_ent (h : Shp S X) {r k j : Nat} (hr : r < S.m) (hj : j < S.n + S.m + 1) : (X.neg r).T k j = if k = r then - X.T r j else X.T k j := by
  show ((X.rows.set r _).getD k []).getD j 0 = _
  rw [getD_set _ _ (by rw [h.rl]; exact hr)]
  by_cases q : k = r
  · rw [if_pos q, if_pos q, getD_map _ _ 0 _ (by rw [h.rw r hr]; exact hj)]; rfl
  · rw [if_neg q, if_neg q]; rfl
theorem neg_piv_of (h : Shp S X) {r c : Nat} (hr : r < S.m) (hc : c < S.n + S.m + 1) : PivOf S X ((X.neg r).piv r c) r c (-1) := by
  have P := piv_of (neg_shp h hr) hr hc
  refine ⟨P.shp, fun k j hk hj => ?_, fun k hk => P.eb k hk, ?_, fun g j hg hj => ?_⟩
  · rw [P.eT k j hk hj]
    unfold pv
    rw [neg_ent h hr hj, neg_ent h hr hc, neg_ent h hr hc, neg_ent h hr hj, if_pos rfl, if_pos rfl]
    by_cases q : k = r
    · rw [if_pos q, if_pos q]; omega
    · rw [if_neg q, if_neg q, if_neg q, if_neg q]
      show _ / X.scale = _
      congr 1
      grind
  · rw [P.ed, neg_ent h hr hc, if_pos rfl]; omega
  · rw [P.eG g j hg hj]
    unfold gv
    rw [neg_ent h hr hc, neg_ent h hr hj, if_pos rfl, if_pos rfl]
    show (1 * (X.G g j * (- X.T r c) - X.G g c * (- X.T r j))) / X.scale = _
    congr 1
    grind
end
/-! ### the two goals -/
def cf0 (S : Sys) : Nat → Int := fun j => if S.n ≤ j ∧ j < S.n + S.m then 1 else 0
def cf1 (S : Sys) (cs : Nat → Int) : Nat → Int := fun j => if j < S.n then cs j else 0
theorem cf0_nn (S : Sys) (j : Nat) : 0 ≤ cf0 S j := by unfold cf0; split <;> omega
theorem cf0_last (S : Sys) : cf0 S (S.n + S.m) = 0 := by unfold cf0; rw [if_neg (by omega)]
theorem cf1_nn {S : Sys} {cs : Nat → Int} (h : ∀ j, j < S.n → 0 ≤ cs j) (j : Nat) : 0 ≤ cf1 S cs j := by
  unfold cf1
  split
  · rename_i q; exact h j q
  · omega
theorem cf1_last (S : Sys) (cs : Nat → Int) : cf1 S cs (S.n + S.m) = 0 := by unfold cf1; rw [if_neg (by omega)]
structure LInv (S : Sys) (cs : Nat → Int) (X : Tab) : Prop where
  shp : Shp S X
  I : TInv S X.T X.b X.scale
  J0 : GInv S (cf0 S) X.T X.b X.scale (X.G 0)
  J1 : GInv S (cf1 S cs) X.T X.b X.scale (X.G 1)
  pos : ∀ k, k < S.m → 0 ≤ X.T k (S.n + S.m)
def cfg (S : Sys) (cs : Nat → Int) (g : Nat) : Nat → Int := if g = 0 then cf0 S else cf1 S cs
section
variable {S : Sys} {cs : Nat → Int} {X Y : Tab}
theorem LInv.sinv (V : LInv S cs X) {g : Nat} (hg : g < 2) : SInv S (cfg S cs g) (X.st g) := by
  match g, hg with
  | 0, _ => exact ⟨V.I, V.J0, V.pos⟩
  | 1, _ => exact ⟨V.I, V.J1, V.pos⟩
theorem LInv.pivot (V : LInv S cs X) {s : Int} (hs : s = 1 ∨ s = -1) {r c : Nat} (hr : r < S.m) (hc : c < S.n + S.m) (hp : 0 < s * X.T r c) (P : PivOf S X Y r c s) (pos : ∀ k, k < S.m → 0 ≤ Y.T k (S.n + S.m)) : LInv S cs Y where
  shp := P.shp
  I := by rw [P.ed]; exact (V.I.pivot hs hr hc hp).congr P.eT P.eb
  J0 := by rw [P.ed]; exact (GInv.pivot V.I V.J0 s hr (by omega)).congr P.eT P.eb (fun j hj => P.eG 0 j (by omega) hj)
  J1 := by rw [P.ed]; exact (GInv.pivot V.I V.J1 s hr (by omega)).congr P.eT P.eb (fun j hj => P.eG 1 j (by omega) hj)
  pos := pos
/-- the step that a turn of the run makes -/
structure Turn (S : Sys) (X : Tab) (g r c : Nat) : Prop where
  hr : r < S.m
  hc : c < S.n
  neg : X.G g c < 0
  first : ∀ j, j < c → 0 ≤ X.G g j
  pos : 0 < X.T r c
  min : ∀ k, k < S.m → 0 < X.T k c → X.T r (S.n + S.m) * X.T k c ≤ X.T k (S.n + S.m) * X.T r c
  tie : ∀ k, k < S.m → 0 < X.T k c → X.T r (S.n + S.m) * X.T k c = X.T k (S.n + S.m) * X.T r c → X.b r ≤ X.b k
theorem Turn.step {g r c : Nat} (hg : g < 2) (U : Turn S X g r c) (h : Shp S X) : BStep S (X.st g) ((X.piv r c).st g) r c := by
  have hc := U.hc
  have P := piv_of h U.hr (c := c) (by omega)
  exact ⟨U.hr, U.hc, U.neg, U.first, U.pos, U.min, U.tie, P.eT, P.eb, by have := P.ed; rw [Int.one_mul] at this; exact this, fun j hj => P.eG g j hg hj⟩
theorem LInv.turn {g r c : Nat} (hg : g < 2) (V : LInv S cs X) (U : Turn S X g r c) : LInv S cs (X.piv r c) := by
  have hc := U.hc
  exact V.pivot (s := 1) (.inl rfl) U.hr (by omega) (by rw [Int.one_mul]; exact U.pos) (piv_of V.shp U.hr (by omega)) (((V.sinv hg).step (U.step hg V.shp)).pos)
/-- rows that still have their helper are zero -/
def Z2 (S : Sys) (X : Tab) : Prop := ∀ k, k < S.m → S.n ≤ X.b k → ∀ j, j < S.n → X.T k j = 0
theorem Z2.turn {r c : Nat} (Z : Z2 S X) (h : Shp S X) (hr : r < S.m) (hc : c < S.n) : Z2 S (X.piv r c) := fun k hk hb j hj => by
  have P := piv_of h hr (c := c) (by omega)
  rw [P.eb k hk] at hb
  by_cases q : k = r
  · rw [q, upd_at] at hb; omega
  · rw [upd_off _ _ q] at hb
    rw [P.eT k j hk (by omega)]
    unfold pv
    rw [if_neg q, Z k hk hb j hj, Z k hk hb c hc]
    simp
theorem noray0 (V : LInv S cs X) {c : Nat} (hc : c < S.n) (h : X.G 0 c < 0) : ∃ k, k < S.m ∧ 0 < X.T k c := by
  rw [V.J0 c (by omega)] at h
  have e0 : cf0 S c = 0 := by unfold cf0; rw [if_neg (by omega)]
  rw [e0, Int.mul_zero, Int.zero_sub] at h
  obtain ⟨k, hk, hp⟩ := sumN_pos (n := S.m) (f := fun k => cf0 S (X.b k) * X.T k c) (by omega)
  refine ⟨k, hk, ?_⟩
  have hp' : 0 < cf0 S (X.b k) * X.T k c := hp
  unfold cf0 at hp'
  split at hp' <;> omega
theorem noray1 (V : LInv S cs X) (Z : Z2 S X) (hcs : ∀ j, j < S.n → 0 ≤ cs j) {c : Nat} (hc : c < S.n) (h : X.G 1 c < 0) : ∃ k, k < S.m ∧ 0 < X.T k c := by
  rw [V.J1 c (by omega)] at h
  have p1 : 0 ≤ X.scale * cf1 S cs c := Int.mul_nonneg (Int.le_of_lt V.I.dpos) (cf1_nn hcs c)
  obtain ⟨k, hk, hp⟩ := sumN_pos (n := S.m) (f := fun k => cf1 S cs (X.b k) * X.T k c) (by omega)
  refine ⟨k, hk, ?_⟩
  have hp' : 0 < cf1 S cs (X.b k) * X.T k c := hp
  by_cases q : 0 < X.T k c
  · exact q
  · have : 0 ≤ cf1 S cs (X.b k) * (- X.T k c) := Int.mul_nonneg (cf1_nn hcs _) (by omega)
    rw [Int.mul_neg] at this
    omega
/-- some shares have the sums -/
structure Feas (S : Sys) (x : Nat → Int) : Prop where
  nn : ∀ j, j < S.n → 0 ≤ x j
  eq : ∀ i, i < S.m → sumN S.n (fun j => S.A i j * x j) = S.A i (S.n + S.m)
theorem Feas.row {x : Nat → Int} (F : Feas S x) (V : LInv S cs X) {k : Nat} (hk : k < S.m) : sumN S.n (fun j => X.T k j * x j) = X.T k (S.n + S.m) := by
  rw [V.I.row hk (show S.n + S.m < S.n + S.m + 1 by omega)]
  have e : sumN S.n (fun j => X.T k j * x j) = sumN S.n (fun j => sumN S.m (fun i => X.T k (S.n + i) * (S.A i j * x j))) := by
    refine sumN_congr fun j hj => ?_
    rw [V.I.row hk (show j < S.n + S.m + 1 by omega), ← sumN_mulR]
    exact sumN_congr fun i _ => by grind
  rw [e, sumN_swap]
  refine sumN_congr fun i hi => ?_
  rw [sumN_mul, F.eq i hi]
/-- the first goal comes to 0 -/
theorem phase1 {x : Nat → Int} (F : Feas S x) (V : LInv S cs X) (h : ∀ j, j < S.n → 0 ≤ X.G 0 j) : X.G 0 (S.n + S.m) = 0 ∧ ∀ k, k < S.m → S.n ≤ X.b k → X.T k (S.n + S.m) = 0 := by
  have e1 : sumN S.n (fun j => X.G 0 j * x j) = X.G 0 (S.n + S.m) := by
    have a : sumN S.n (fun j => X.G 0 j * x j) = sumN S.n (fun j => sumN S.m (fun k => - (cf0 S (X.b k) * (X.T k j * x j)))) := by
      refine sumN_congr fun j hj => ?_
      rw [V.J0 j (by omega)]
      have e0 : cf0 S j = 0 := by unfold cf0; rw [if_neg (by omega)]
      rw [e0, Int.mul_zero, Int.zero_sub, sumN_neg, Int.neg_mul, ← sumN_mulR]
      congr 1
      exact sumN_congr fun k _ => by grind
    rw [a, sumN_swap, V.J0 _ (by omega), cf0_last, Int.mul_zero, Int.zero_sub, ← sumN_neg]
    refine sumN_congr fun k hk => ?_
    rw [sumN_neg, sumN_mul, F.row V hk]
  have n1 : 0 ≤ X.G 0 (S.n + S.m) := by
    rw [← e1]
    exact sumN_nonneg fun j hj => Int.mul_nonneg (h j hj) (F.nn j hj)
  have n2 : X.G 0 (S.n + S.m) ≤ 0 := (V.sinv (g := 0) (by omega)).goal_le (cf0_nn S) (cf0_last S)
  have z : X.G 0 (S.n + S.m) = 0 := by omega
  refine ⟨z, fun k hk hb => ?_⟩
  rw [V.J0 _ (by omega), cf0_last, Int.mul_zero, Int.zero_sub] at z
  have each := sumN_zero_each (n := S.m) (f := fun k => cf0 S (X.b k) * X.T k (S.n + S.m)) (fun k hk => Int.mul_nonneg (cf0_nn S _) (V.pos k hk)) (by omega) k hk
  have each' : cf0 S (X.b k) * X.T k (S.n + S.m) = 0 := each
  have := V.I.bn k hk
  unfold cf0 at each'
  rw [if_pos ⟨hb, this⟩, Int.one_mul] at each'
  exact each'
theorem rest0 {x : Nat → Int} (F : Feas S x) (V : LInv S cs X) (Z : Z2 S X) {k : Nat} (hk : k < S.m) (hb : S.n ≤ X.b k) : X.T k (S.n + S.m) = 0 := by
  rw [← F.row V hk]
  exact sumN_zero fun j hj => by rw [Z k hk hb j hj, Int.zero_mul]
/-! ### driving the helpers out -/
structure DInv (S : Sys) (cs : Nat → Int) (X : Tab) (q : Nat) : Prop where
  L : LInv S cs X
  z : ∀ k, k < S.m → S.n ≤ X.b k → X.T k (S.n + S.m) = 0
  d : ∀ k, k < q → k < S.m → S.n ≤ X.b k → ∀ j, j < S.n → X.T k j = 0
theorem DInv.pivot {q c : Nat} {s : Int} (V : DInv S cs X q) (hq : q < S.m) (hb : S.n ≤ X.b q) (hc : c < S.n) (hs : s = 1 ∨ s = -1) (hp : 0 < s * X.T q c) (P : PivOf S X Y q c s) : DInv S cs Y (q + 1) := by
  have zq := V.z q hq hb
  have ex : ∀ k, k < S.m → k ≠ q → X.scale * Y.T k (S.n + S.m) = X.T k (S.n + S.m) * (s * X.T q c) := fun k hk ne => by
    rw [P.eT k _ hk (by omega), pv_exact V.L.I s hq (by omega) hk (by omega) ne, zq]
    grind
  have yq : Y.T q (S.n + S.m) = 0 := by
    rw [P.eT q _ hq (by omega)]
    unfold pv
    rw [if_pos rfl, zq, Int.mul_zero]
  refine ⟨V.L.pivot hs hq (by omega) hp P fun k hk => ?_, fun k hk hbk => ?_, fun k hkq hk hbk j hj => ?_⟩
  · by_cases e : k = q
    · rw [e, yq]; exact Int.le_refl _
    · refine nonneg_of_mul V.L.I.dpos ?_
      rw [ex k hk e]
      exact Int.mul_nonneg (V.L.pos k hk) (Int.le_of_lt hp)
  · rw [P.eb k hk] at hbk
    by_cases e : k = q
    · rw [e]; exact yq
    · rw [upd_off _ _ e] at hbk
      have := ex k hk e
      rw [V.z k hk hbk, Int.zero_mul] at this
      have d0 := V.L.I.dpos
      rcases Int.mul_eq_zero.mp this with a | a
      · omega
      · exact a
  · rw [P.eb k hk] at hbk
    by_cases e : k = q
    · rw [e, upd_at] at hbk; omega
    · rw [upd_off _ _ e] at hbk
      rw [P.eT k j hk (by omega)]
      unfold pv
      rw [if_neg e, V.d k (by omega) hk hbk j hj, V.d k (by omega) hk hbk c hc]
      simp
theorem DInv.skip {q : Nat} (V : DInv S cs X q) (h : S.n ≤ X.b q → ∀ j, j < S.n → X.T q j = 0) : DInv S cs X (q + 1) :=
  ⟨V.L, V.z, fun k hkq hk hb j hj => by
    by_cases e : k = q
    · subst e; exact h hb j hj
    · exact V.d k (by omega) hk hb j hj⟩
/-! ### the end -/
def xOf (S : Sys) (X : Tab) : Nat → Int := fun j => sumN S.m (fun k => if X.b k = j then X.T k (S.n + S.m) else 0)
def yOf (S : Sys) (X : Tab) : Nat → Int := fun i => - X.G 1 (S.n + i)
theorem xOf_sum (S : Sys) (X : Tab) (f : Nat → Int) : sumN S.n (fun j => f j * xOf S X j) = sumN S.m (fun k => (if X.b k < S.n then f (X.b k) else 0) * X.T k (S.n + S.m)) := by
  have e : sumN S.n (fun j => f j * xOf S X j) = sumN S.n (fun j => sumN S.m (fun k => if X.b k = j then f j * X.T k (S.n + S.m) else 0)) := by
    refine sumN_congr fun j _ => ?_
    unfold xOf
    rw [← sumN_mul]
    refine sumN_congr fun k _ => ?_
    split <;> grind
  rw [e, sumN_swap]
  refine sumN_congr fun k hk => ?_
  by_cases q : X.b k < S.n
  · rw [if_pos q, sumN_single q (fun j _ ne => if_neg fun z => ne z.symm), if_pos rfl]
  · rw [if_neg q, Int.zero_mul]
    exact sumN_zero fun j hj => if_neg (by omega)
/-- what the shares and prices at the end are worth -/
structure Best (S : Sys) (cs : Nat → Int) (x y : Nat → Int) (d : Int) : Prop where
  dpos : 0 < d
  nn : ∀ j, j < S.n → 0 ≤ x j
  eq : ∀ i, i < S.m → sumN S.n (fun j => S.A i j * x j) = d * S.A i (S.n + S.m)
  du : ∀ j, j < S.n → sumN S.m (fun i => y i * S.A i j) ≤ d * cs j
  tot : sumN S.n (fun j => cs j * x j) = sumN S.m (fun i => y i * S.A i (S.n + S.m))
theorem best {z : Nat → Int} (F : Feas S z) (V : LInv S cs X) (Z : Z2 S X) (h : ∀ j, j < S.n → 0 ≤ X.G 1 j) : Best S cs (xOf S X) (yOf S X) X.scale := by
  have hz : ∀ i, i < S.m → cf1 S cs (S.n + i) = 0 := fun i hi => by unfold cf1; rw [if_neg (by omega)]
  have ye : ∀ j, sumN S.m (fun i => yOf S X i * S.A i j) = - sumN S.m (fun i => X.G 1 (S.n + i) * S.A i j) := fun j => by
    rw [← sumN_neg]
    exact sumN_congr fun i _ => by unfold yOf; rw [Int.neg_mul]
  refine ⟨V.I.dpos, fun j hj => ?_, fun i hi => ?_, fun j hj => ?_, ?_⟩
  · refine sumN_nonneg fun k hk => ?_
    split
    · exact V.pos k hk
    · exact Int.le_refl _
  · rw [xOf_sum, ← V.I.sp i _ hi (show S.n + S.m < S.n + S.m + 1 by omega)]
    refine sumN_congr fun k hk => ?_
    by_cases q : X.b k < S.n
    · rw [if_pos q]
    · rw [if_neg q, rest0 F V Z hk (by omega), Int.mul_zero, Int.mul_zero]
  · rw [ye]
    have e := GInv.dual V.I V.J1 hz (show j < S.n + S.m + 1 by omega)
    have c1 : cf1 S cs j = cs j := by unfold cf1; rw [if_pos hj]
    rw [c1] at e
    have := h j hj
    omega
  · rw [xOf_sum, ye]
    have e := GInv.dual V.I V.J1 hz (show S.n + S.m < S.n + S.m + 1 by omega)
    rw [V.J1 _ (by omega), cf1_last, Int.mul_zero, Int.zero_sub, Int.zero_add] at e
    rw [← e, Int.neg_neg]
    refine sumN_congr fun k hk => ?_
    rfl
/-! ### sizes -/
theorem LInv.size (V : LInv S cs X) {R : Int} (h0 : 0 ≤ R) (hR : ∀ i, i < S.m → sumN (S.n + S.m + 1) (fun j => ab (S.A i j)) ≤ R) {k j : Nat} (hk : k < S.m) (hj : j < S.n + S.m + 1) : ab (X.T k j) ≤ R ^ S.m := V.I.bound h0 hR hk hj
theorem gsize {cf G : Nat → Int} {T : Nat → Nat → Int} {b : Nat → Nat} {d R C : Int} (I : TInv S T b d) (J : GInv S cf T b d G) (h0 : 0 ≤ R) (hR : ∀ i, i < S.m → sumN (S.n + S.m + 1) (fun j => ab (S.A i j)) ≤ R) (hC0 : 0 ≤ C) (hC : ∀ j, ab (cf j) ≤ C) {j : Nat} (hj : j < S.n + S.m + 1) : ab (G j) ≤ ((S.m : Int) + 1) * (C * R ^ S.m) := by
  rw [J j hj]
  have p0 : 0 ≤ R ^ S.m := Int.pow_nonneg h0
  have a1 : ab (d * cf j) ≤ C * R ^ S.m := by
    rw [ab_mul, ab_pos (Int.le_of_lt I.dpos), Int.mul_comm]
    exact Int.le_trans (Int.mul_le_mul_of_nonneg_right (hC j) (Int.le_of_lt I.dpos)) (Int.mul_le_mul_of_nonneg_left (I.dbound h0 hR) hC0)
  have a2 : ab (sumN S.m (fun k => cf (b k) * T k j)) ≤ (S.m : Int) * (C * R ^ S.m) := by
    rw [← sumN_const]
    refine Int.le_trans (sumN_ab _ _) (sumN_le fun k hk => ?_)
    rw [ab_mul]
    exact Int.le_trans (Int.mul_le_mul_of_nonneg_right (hC _) (ab_nonneg _)) (Int.mul_le_mul_of_nonneg_left (I.bound h0 hR hk hj) hC0)
  have := ab_sub (d * cf j) (sumN S.m (fun k => cf (b k) * T k j))
  rw [Int.add_mul, Int.one_mul]
  omega
end
end Lp
namespace Lp
/-! ### the first tableau -/
def A0 (rows : List (List Int)) (dues : List Int) (n m : Nat) : Nat → Nat → Int := fun i j => if j < n then ent rows i j else if j < n + m then (if i = j - n then 1 else 0) else dues.getD i 0
def S0 (rows : List (List Int)) (dues : List Int) (n m : Nat) : Sys where
  m := m
  n := n
  A := A0 rows dues n m
  unit := fun i k hi hk => by
    unfold A0
    rw [if_neg (by omega), if_pos (by omega)]
    have e : n + k - n = k := by omega
    rw [e]
def row0 (rows : List (List Int)) (dues : List Int) (m i : Nat) : List Int := (rows.getD i [] ++ (List.range m).map (fun o => if o = i then (1 : Int) else 0)) ++ [dues.getD i 0]
def first0 (rows : List (List Int)) (dues : List Int) (n m : Nat) : List Int := (List.range (n + m + 1)).map fun j => if n ≤ j ∧ j < n + m then 0 else - sumN m (fun i => A0 rows dues n m i j)
def tab0 (rows : List (List Int)) (dues costs : List Int) (n m : Nat) : Tab where
  rows := (List.range m).map (row0 rows dues m)
  goals := [first0 rows dues n m, costs ++ List.replicate (m + 1) 0]
  base := (List.range m).map (fun k => n + k)
  scale := 1
theorem getD_app_l {l r : List Int} {j : Nat} (h : j < l.length) : (l ++ r).getD j 0 = l.getD j 0 := by
  simp [List.getD_eq_getElem?_getD, List.getElem?_append_left h]
theorem getD_app_r {l r : List Int} {j : Nat} (h : l.length ≤ j) : (l ++ r).getD j 0 = r.getD (j - l.length) 0 := by
  simp [List.getD_eq_getElem?_getD, List.getElem?_append_right h]
theorem row0_len {rows : List (List Int)} {dues : List Int} {n m i : Nat} (h : (rows.getD i []).length = n) : (row0 rows dues m i).length = n + m + 1 := by
  unfold row0
  rw [List.length_append, List.length_append, h, List.length_map, List.length_range]
  rfl
theorem row0_at {rows : List (List Int)} {dues : List Int} {n m i j : Nat} (h : (rows.getD i []).length = n) (hj : j < n + m + 1) : (row0 rows dues m i).getD j 0 = A0 rows dues n m i j := by
  unfold row0 A0
  by_cases q : j < n
  · rw [if_pos q, getD_app_l (by rw [List.length_append]; omega), getD_app_l (by omega)]; rfl
  · rw [if_neg q]
    by_cases q2 : j < n + m
    · rw [if_pos q2, getD_app_l (by rw [List.length_append, h, List.length_map, List.length_range]; exact q2), getD_app_r (by omega), h, getD_map_range _ _ (by omega)]
      by_cases e : i = j - n
      · rw [if_pos e, if_pos e.symm]
      · rw [if_neg e, if_neg (fun z => e z.symm)]
    · rw [if_neg q2, getD_app_r (by rw [List.length_append, h, List.length_map, List.length_range]; omega), List.length_append, h, List.length_map, List.length_range]
      have e : j - (n + m) = 0 := by omega
      rw [e]; rfl
section
variable {rows : List (List Int)} {dues costs : List Int} {n m : Nat}
theorem tab0_T (h : ∀ i, i < m → (rows.getD i []).length = n) {k j : Nat} (hk : k < m) (hj : j < n + m + 1) : (tab0 rows dues costs n m).T k j = A0 rows dues n m k j := by
  show (((List.range m).map (row0 rows dues m)).getD k []).getD j 0 = _
  rw [getD_map_range _ _ hk, row0_at (h k hk) hj]
theorem tab0_b {k : Nat} (hk : k < m) : (tab0 rows dues costs n m).b k = n + k := by
  show ((List.range m).map (fun k => n + k)).getD k 0 = _
  rw [getD_map_range _ _ hk]
theorem tab0_shp (h : ∀ i, i < m → (rows.getD i []).length = n) (hc : costs.length = n) : Shp (S0 rows dues n m) (tab0 rows dues costs n m) where
  rl := by show ((List.range m).map _).length = m; rw [List.length_map, List.length_range]
  rw := fun k hk => by
    have hk' : k < m := hk
    show (((List.range m).map (row0 rows dues m)).getD k []).length = n + m + 1
    rw [getD_map_range _ _ hk']; exact row0_len (h k hk')
  gl := rfl
  gw := fun g hg => by
    match g, hg with
    | 0, _ => show (first0 rows dues n m).length = n + m + 1; unfold first0; rw [List.length_map, List.length_range]
    | 1, _ => show (costs ++ List.replicate (m + 1) 0).length = n + m + 1; rw [List.length_append, List.length_replicate, hc]; omega
  bl := by show ((List.range m).map _).length = m; rw [List.length_map, List.length_range]
theorem u0 {i k : Nat} (hi : i < m) (hk : k < m) : A0 rows dues n m i (n + k) = if i = k then 1 else 0 := (S0 rows dues n m).unit i k hi hk
theorem tab0_inv (h : ∀ i, i < m → (rows.getD i []).length = n) : TInv (S0 rows dues n m) (tab0 rows dues costs n m).T (tab0 rows dues costs n m).b 1 := by
  have hb : ∀ k, k < m → (tab0 rows dues costs n m).b k = n + k := fun k hk => tab0_b hk
  have hD : D (S0 rows dues n m) (fun k => n + k) = 1 := by
    show det m 0 (fun k i => A0 rows dues n m i (n + k)) = 1
    refine det_one fun k i hk _ hi => ?_
    rw [u0 (by omega) hk]
    by_cases q : i = k
    · rw [if_pos q, if_pos (by omega)]
    · rw [if_neg q, if_neg (by omega)]
  have main : TInv (S0 rows dues n m) (A0 rows dues n m) (fun k => n + k) 1 := by
    refine ⟨by decide, fun k hk => ?_, ⟨1, .inl rfl, by rw [hD]; rfl, fun k j hk hj => ?_⟩, fun i j hi hj => ?_⟩
    · show n + k < n + m
      have : k < m := hk
      omega
    · rw [Int.one_mul]
      have hk' : k < m := hk
      have z := D_sum (S0 rows dues n m) (fun k => n + k) hk j 1 m (fun i => A0 rows dues n m i j) (fun i => n + i) (fun i hi => by
        have hi' : i < m := hi
        show sumN m (fun l => A0 rows dues n m l j * A0 rows dues n m i (n + l)) = 1 * A0 rows dues n m i j
        rw [sumN_single (k := i) hi' (fun l hl ne => by
          rw [u0 hi' hl, if_neg (fun q => ne q.symm), Int.mul_zero]), u0 hi' hi', if_pos rfl]
        omega)
      rw [Int.one_mul] at z
      rw [z]
      have e1 : sumN m (fun l => A0 rows dues n m l j * D (S0 rows dues n m) (upd (fun k => n + k) k (n + l))) = A0 rows dues n m k j * D (S0 rows dues n m) (upd (fun k => n + k) k (n + k)) := sumN_single (k := k) hk' (fun l hl ne => by
        rw [D_same (k := k) (l := l) hk hl (fun q => ne q.symm) (by rw [upd_at, upd_off _ _ ne]), Int.mul_zero])
      have es : upd (fun k => n + k) k (n + k) = fun k => n + k := upd_self (fun k => n + k) k
      rw [es, hD, Int.mul_one] at e1
      exact e1.symm
    · rw [Int.one_mul]
      have hi' : i < m := hi
      show sumN m (fun k => A0 rows dues n m i (n + k) * A0 rows dues n m k j) = A0 rows dues n m i j
      have e1 : sumN m (fun k => A0 rows dues n m i (n + k) * A0 rows dues n m k j) = A0 rows dues n m i (n + i) * A0 rows dues n m i j := sumN_single (k := i) hi' (fun l hl ne => by
        rw [u0 hi' hl, if_neg (fun q => ne q.symm), Int.zero_mul])
      rw [e1, u0 hi' hi', if_pos rfl, Int.one_mul]
  exact main.congr (fun k j hk hj => tab0_T h hk hj) hb
theorem tab0_ok (h : ∀ i, i < m → (rows.getD i []).length = n) (hc : costs.length = n) (hd : ∀ i, i < m → 0 ≤ dues.getD i 0) : LInv (S0 rows dues n m) (fun j => costs.getD j 0) (tab0 rows dues costs n m) := by
  have T := fun k j (hk : k < m) (hj : j < n + m + 1) => tab0_T (dues := dues) (costs := costs) h hk hj
  have b := fun k (hk : k < m) => tab0_b (rows := rows) (dues := dues) (costs := costs) (n := n) hk
  refine ⟨tab0_shp h hc, tab0_inv h, fun j hj => ?_, fun j hj => ?_, fun k hk => ?_⟩
  · have hj' : j < n + m + 1 := hj
    show (first0 rows dues n m).getD j 0 = 1 * cf0 (S0 rows dues n m) j - sumN m (fun k => cf0 (S0 rows dues n m) ((tab0 rows dues costs n m).b k) * (tab0 rows dues costs n m).T k j)
    have e : sumN m (fun k => cf0 (S0 rows dues n m) ((tab0 rows dues costs n m).b k) * (tab0 rows dues costs n m).T k j) = sumN m (fun k => A0 rows dues n m k j) := by
      refine sumN_congr fun k hk => ?_
      rw [b k hk, T k j hk hj']
      have : cf0 (S0 rows dues n m) (n + k) = 1 := by
        unfold cf0
        exact if_pos ⟨by show n ≤ n + k; omega, by show n + k < n + m; omega⟩
      rw [this, Int.one_mul]
    rw [e]
    unfold first0
    rw [getD_map_range _ _ hj']
    unfold cf0
    by_cases q : n ≤ j ∧ j < n + m
    · rw [if_pos q, if_pos (show (S0 rows dues n m).n ≤ j ∧ j < (S0 rows dues n m).n + (S0 rows dues n m).m from q)]
      rw [sumN_single (k := j - n) (by omega) (fun l hl ne => by
        unfold A0
        rw [if_neg (by omega), if_pos q.2, if_neg ne])]
      unfold A0
      rw [if_neg (by omega), if_pos q.2, if_pos rfl]; rfl
    · rw [if_neg q, if_neg (show ¬ ((S0 rows dues n m).n ≤ j ∧ j < (S0 rows dues n m).n + (S0 rows dues n m).m) from q)]
      omega
  · have hj' : j < n + m + 1 := hj
    show (costs ++ List.replicate (m + 1) 0).getD j 0 = 1 * cf1 (S0 rows dues n m) (fun j => costs.getD j 0) j - sumN m (fun k => cf1 (S0 rows dues n m) (fun j => costs.getD j 0) ((tab0 rows dues costs n m).b k) * (tab0 rows dues costs n m).T k j)
    rw [sumN_zero (fun k hk => by
      rw [b k hk]
      unfold cf1
      rw [if_neg (by show ¬ (n + k < n); omega), Int.zero_mul])]
    unfold cf1
    by_cases q : j < n
    · rw [if_pos (show j < (S0 rows dues n m).n from q), getD_app_l (by omega), Int.one_mul, Int.sub_zero]
    · rw [if_neg (show ¬ (j < (S0 rows dues n m).n) from q), getD_app_r (by omega)]
      have : (List.replicate (m + 1) (0 : Int)).getD (j - costs.length) 0 = 0 := by
        rw [List.getD_eq_getElem?_getD, List.getElem?_replicate]
        split <;> rfl
      rw [this]; omega
  · have hk' : k < m := hk
    rw [show (tab0 rows dues costs n m).T k ((S0 rows dues n m).n + (S0 rows dues n m).m) = A0 rows dues n m k (n + m) from T k (n + m) hk' (by omega)]
    unfold A0
    rw [if_neg (by omega), if_neg (by omega)]
    exact hd k hk'
end
end Lp
namespace Lp
/-! ### places in lists that are joined of blocks -/
def offN (f : Nat → Nat) (a : Nat) : Nat → Nat
  | 0 => a
  | t + 1 => offN f a t + f t
theorem offN_add (f : Nat → Nat) (a : Nat) : ∀ t, offN f a t = a + offN f 0 t
  | 0 => rfl
  | t + 1 => by
    show offN f a t + f t = a + (offN f 0 t + f t)
    rw [offN_add f a t]; omega
theorem offN_le (f : Nat → Nat) (a : Nat) {t : Nat} : ∀ {u : Nat}, t < u → offN f a t + f t ≤ offN f a u
  | 0, h => absurd h (Nat.not_lt_zero _)
  | u + 1, h => by
    show offN f a t + f t ≤ offN f a u + f u
    by_cases e : t = u
    · rw [e]; exact Nat.le_refl _
    · have := offN_le f a (t := t) (u := u) (by omega); omega
theorem offN_ge (f : Nat → Nat) (a : Nat) : ∀ t, a ≤ offN f a t
  | 0 => Nat.le_refl _
  | t + 1 => by
    show a ≤ offN f a t + f t
    have := offN_ge f a t; omega
theorem offN_congr {f g : Nat → Nat} (a : Nat) : ∀ {t : Nat}, (∀ i, i < t → f i = g i) → offN f a t = offN g a t
  | 0, _ => rfl
  | t + 1, h => by
    show offN f a t + f t = offN g a t + g t
    rw [offN_congr a (fun i hi => h i (by omega)), h t (by omega)]
theorem offN_const (c : Nat) : ∀ t, offN (fun _ => c) 0 t = t * c
  | 0 => (Nat.zero_mul c).symm
  | t + 1 => by
    show offN (fun _ => c) 0 t + c = (t + 1) * c
    rw [offN_const c t, Nat.succ_mul]
theorem sumN_off (f : Nat → Nat) (a : Nat) (F : Nat → Int) : ∀ q, sumN (offN f a q) F = sumN a F + sumN q (fun t => sumN (f t) (fun i => F (offN f a t + i)))
  | 0 => (Int.add_zero _).symm
  | q + 1 => by
    show sumN (offN f a q + f q) F = sumN a F + (sumN q (fun t => sumN (f t) (fun i => F (offN f a t + i))) + sumN (f q) (fun i => F (offN f a q + i)))
    rw [sumN_split, sumN_off f a F q]; omega
theorem sumN_block (s : Nat) (F : Nat → Int) : ∀ a, sumN (a * s) F = sumN a (fun p => sumN s (fun v => F (p * s + v)))
  | 0 => by rw [Nat.zero_mul]; rfl
  | a + 1 => by
    show sumN ((a + 1) * s) F = sumN a (fun p => sumN s (fun v => F (p * s + v))) + sumN s (fun v => F (a * s + v))
    rw [Nat.succ_mul, sumN_split, sumN_block s F a]
theorem flat_len {α : Type} {g : Nat → List α} {f : Nat → Nat} : ∀ {q : Nat}, (∀ t, t < q → (g t).length = f t) → ((List.range q).flatMap g).length = offN f 0 q
  | 0, _ => rfl
  | q + 1, h => by
    rw [List.range_succ, List.flatMap_append, List.length_append, flat_len (fun t ht => h t (by omega))]
    show _ + ([q].flatMap g).length = offN f 0 q + f q
    rw [List.flatMap_singleton, h q (by omega)]
theorem flat_get {α : Type} {g : Nat → List α} {f : Nat → Nat} (d : α) : ∀ {q : Nat}, (∀ t, t < q → (g t).length = f t) → ∀ {t i : Nat}, t < q → i < f t → ((List.range q).flatMap g).getD (offN f 0 t + i) d = (g t).getD i d
  | 0, _, t, _, ht, _ => absurd ht (Nat.not_lt_zero _)
  | q + 1, h, t, i, ht, hi => by
    have hl := flat_len (q := q) (fun t ht => h t (by omega))
    rw [List.range_succ, List.flatMap_append, List.flatMap_singleton, List.getD_eq_getElem?_getD]
    by_cases e : t = q
    · subst e
      rw [List.getElem?_append_right (by omega), hl, Nat.add_sub_cancel_left, List.getD_eq_getElem?_getD]
    · have := offN_le f 0 (t := t) (u := q) (by omega)
      rw [List.getElem?_append_left (by omega), ← List.getD_eq_getElem?_getD]
      exact flat_get d (fun t ht => h t (by omega)) (by omega) hi
theorem getD_app_l' {α : Type} {l r : List α} {j : Nat} (d : α) (h : j < l.length) : (l ++ r).getD j d = l.getD j d := by
  simp [List.getD_eq_getElem?_getD, List.getElem?_append_left h]
theorem getD_app_r' {α : Type} {l r : List α} {j : Nat} (d : α) (h : l.length ≤ j) : (l ++ r).getD j d = r.getD (j - l.length) d := by
  simp [List.getD_eq_getElem?_getD, List.getElem?_append_right h]
/-- a sum over a window -/
theorem sumN_window (f x : Nat → Int) {a l W : Nat} (h : a + l ≤ W) : sumN W (fun j => (if a ≤ j ∧ j < a + l then f (j - a) else 0) * x j) = sumN l (fun i => f i * x (a + i)) := by
  obtain ⟨r, rfl⟩ : ∃ r, W = (a + l) + r := ⟨W - (a + l), by omega⟩
  rw [sumN_split, sumN_split]
  rw [sumN_zero (n := a) (fun i hi => by rw [if_neg (by omega), Int.zero_mul]), sumN_zero (n := r) (fun i hi => by rw [if_neg (by omega), Int.zero_mul]), Int.zero_add, Int.add_zero]
  exact sumN_congr fun i hi => by rw [if_pos ⟨by omega, by omega⟩, Nat.add_sub_cancel_left]
theorem sumN_point (x : Nat → Int) {k W : Nat} (c : Int) (h : k < W) : sumN W (fun j => (if j = k then c else 0) * x j) = c * x k := by
  rw [sumN_single h (fun i _ ne => by rw [if_neg ne, Int.zero_mul]), if_pos rfl]
/-! ### instances of costs -/
structure Trm where
  which : Nat
  scope : List Nat
  w : Int
structure Ins where
  s : Nat
  n : Nat
  fns : List (Nat × List Int)
  terms : List Trm
def rowsN (s : Nat) : Nat → List (List Nat)
  | 0 => [[]]
  | k + 1 => (rowsN s k).flatMap fun r => (List.range s).map fun v => r ++ [v]
namespace Ins
variable (I : Ins)
def q : Nat := I.terms.length
def t (i : Nat) : Trm := I.terms.getD i ⟨0, [], 0⟩
def ar (i : Nat) : Nat := (I.t i).scope.length
def sc (i p : Nat) : Nat := (I.t i).scope.getD p 0
def lot (i : Nat) : List (List Nat) := rowsN I.s (I.ar i)
def ll (i : Nat) : Nat := (I.lot i).length
def lv (i a p : Nat) : Nat := ((I.lot i).getD a []).getD p 0
def tab (i : Nat) : List Int := (I.fns.getD (I.t i).which (0, [])).2
def c (i a : Nat) : Int := (I.tab i).getD a 0 * (I.t i).w
def st (i : Nat) : Nat := offN I.ll (I.n * I.s) i
def of (i : Nat) : Nat := offN (fun t => I.ar t * I.s) I.n i
def W : Nat := I.st I.q
def M : Nat := I.of I.q
def bndE (nm j : Nat) : Int := if nm * I.s ≤ j ∧ j < nm * I.s + I.s then 1 else 0
def lnkE (t p v j : Nat) : Int := (if j = I.sc t p * I.s + v then -1 else 0) + (if I.st t ≤ j ∧ j < I.st t + I.ll t then (if I.lv t (j - I.st t) p = v then 1 else 0) else 0)
def rows : List (List Int) := (List.range I.n).map (fun nm => (List.range I.W).map (I.bndE nm)) ++ (List.range I.q).flatMap fun t => (List.range (I.ar t)).flatMap fun p => (List.range I.s).map fun v => (List.range I.W).map (I.lnkE t p v)
def dues : List Int := (List.range I.n).map (fun _ => (1 : Int)) ++ (List.range I.q).flatMap fun t => (List.range (I.ar t)).flatMap fun _ => (List.range I.s).map fun _ => (0 : Int)
def costs : List Int := (List.range (I.n * I.s)).map (fun _ => (0 : Int)) ++ (List.range I.q).flatMap fun t => (List.range (I.ll t)).map (I.c t)
end Ins
structure WF (I : Ins) : Prop where
  s : I.s = 2 ∨ I.s = 3
  n : I.n ≤ 4
  q : I.q ≤ 5
  ar : ∀ i, i < I.q → I.ar i = 1 ∨ I.ar i = 2
  sc : ∀ i p, i < I.q → p < I.ar i → I.sc i p < I.n
  w : ∀ i, i < I.q → 1 ≤ (I.t i).w ∧ (I.t i).w ≤ 1000
  tl : ∀ i, i < I.q → (I.tab i).length = I.s ^ I.ar i
  tb : ∀ i a, i < I.q → 0 ≤ (I.tab i).getD a 0 ∧ (I.tab i).getD a 0 ≤ 1000
/-- what is true of the lists of rows, by looking at the four of them -/
theorem rowsN_facts : ∀ s, (s = 2 ∨ s = 3) → ∀ k, (k = 1 ∨ k = 2) → (rowsN s k).length = s ^ k ∧ (∀ a, a < s ^ k → ((rowsN s k).getD a []).length = k) ∧ (∀ a, a < s ^ k → ∀ p, p < k → ((rowsN s k).getD a []).getD p 0 < s) ∧
    (∀ p, p < k → ((rowsN s k).getD 0 []).getD p 0 = 0) ∧ (∀ a, a < s ^ k → ((rowsN s k).getD a []).foldl (fun x v => x * s + v) 0 = a) := by
  intro s hs k hk
  rcases hs with rfl | rfl <;> rcases hk with rfl | rfl <;> decide
theorem rowsN_count : ∀ s, (s = 2 ∨ s = 3) → ∀ k, (k = 1 ∨ k = 2) → ∀ p, p < k → ∀ v, v < s → sumN (s ^ k) (fun a => if ((rowsN s k).getD a []).getD p 0 = v then 1 else 0) ≤ 3 := by
  intro s hs k hk
  rcases hs with rfl | rfl <;> rcases hk with rfl | rfl <;> decide
section
variable {I : Ins}
theorem WF.ll (w : WF I) {i : Nat} (hi : i < I.q) : I.ll i = I.s ^ I.ar i := (rowsN_facts _ w.s _ (w.ar i hi)).1
theorem WF.lv (w : WF I) {i a p : Nat} (hi : i < I.q) (ha : a < I.ll i) (hp : p < I.ar i) : I.lv i a p < I.s := (rowsN_facts _ w.s _ (w.ar i hi)).2.2.1 a (by rw [← w.ll hi]; exact ha) p hp
theorem WF.spos (w : WF I) : 0 < I.s := by rcases w.s with e | e <;> omega
theorem WF.llpos (w : WF I) {i : Nat} (hi : i < I.q) : 0 < I.ll i := by
  rw [w.ll hi]
  exact Nat.pow_pos w.spos
theorem rows_len (I : Ins) : I.rows.length = I.M := by
  unfold Ins.rows Ins.M Ins.of
  rw [List.length_append, List.length_map, List.length_range, flat_len (f := fun t => I.ar t * I.s) (fun t _ => by
    rw [flat_len (f := fun _ => I.s) (fun p _ => by rw [List.length_map, List.length_range]), offN_const]), offN_add _ I.n]
theorem dues_len (I : Ins) : I.dues.length = I.M := by
  unfold Ins.dues Ins.M Ins.of
  rw [List.length_append, List.length_map, List.length_range, flat_len (f := fun t => I.ar t * I.s) (fun t _ => by
    rw [flat_len (f := fun _ => I.s) (fun p _ => by rw [List.length_map, List.length_range]), offN_const]), offN_add _ I.n]
theorem costs_len (I : Ins) : I.costs.length = I.W := by
  unfold Ins.costs Ins.W Ins.st
  rw [List.length_append, List.length_map, List.length_range, flat_len (f := I.ll) (fun t _ => by rw [List.length_map, List.length_range]), offN_add _ (I.n * I.s)]
/-- an item of a list of blocks of blocks -/
theorem flat2_get {α : Type} (I : Ins) (pre : List α) (hpre : pre.length = I.n) (G : Nat → Nat → Nat → α) (d : α) {t p v : Nat} (ht : t < I.q) (hp : p < I.ar t) (hv : v < I.s) :
    (pre ++ (List.range I.q).flatMap fun t => (List.range (I.ar t)).flatMap fun p => (List.range I.s).map fun v => G t p v).getD (I.of t + (p * I.s + v)) d = G t p v := by
  have e : I.of t = I.n + offN (fun t => I.ar t * I.s) 0 t := offN_add _ _ _
  have hlt : p * I.s + v < I.ar t * I.s := by
    have := Nat.mul_le_mul_right I.s (show p + 1 ≤ I.ar t from hp)
    rw [Nat.succ_mul] at this; omega
  rw [getD_app_r' _ (by omega), hpre]
  have e2 : I.of t + (p * I.s + v) - I.n = offN (fun t => I.ar t * I.s) 0 t + (p * I.s + v) := by omega
  rw [e2, flat_get d (fun t _ => by
    rw [flat_len (f := fun _ => I.s) (fun p _ => by rw [List.length_map, List.length_range]), offN_const]) ht hlt]
  have e3 : p * I.s + v = offN (fun _ => I.s) 0 p + v := by rw [offN_const]
  rw [e3, flat_get d (fun p _ => by rw [List.length_map, List.length_range]) hp hv, getD_map_range _ _ hv]
theorem rows_b (I : Ins) {nm : Nat} (h : nm < I.n) : I.rows.getD nm [] = (List.range I.W).map (I.bndE nm) := by
  unfold Ins.rows
  rw [getD_app_l' _ (by rw [List.length_map, List.length_range]; exact h), getD_map_range _ _ h]
theorem rows_l (I : Ins) {t p v : Nat} (ht : t < I.q) (hp : p < I.ar t) (hv : v < I.s) : I.rows.getD (I.of t + (p * I.s + v)) [] = (List.range I.W).map (I.lnkE t p v) :=
  flat2_get I _ (by rw [List.length_map, List.length_range]) (fun t p v => (List.range I.W).map (I.lnkE t p v)) [] ht hp hv
theorem dues_b (I : Ins) {nm : Nat} (h : nm < I.n) : I.dues.getD nm 0 = 1 := by
  unfold Ins.dues
  rw [getD_app_l' _ (by rw [List.length_map, List.length_range]; exact h), getD_map_range _ _ h]
theorem dues_l (I : Ins) {t p v : Nat} (ht : t < I.q) (hp : p < I.ar t) (hv : v < I.s) : I.dues.getD (I.of t + (p * I.s + v)) 0 = 0 :=
  flat2_get I _ (by rw [List.length_map, List.length_range]) (fun _ _ _ => (0 : Int)) 0 ht hp hv
theorem costs_b (I : Ins) {j : Nat} (h : j < I.n * I.s) : I.costs.getD j 0 = 0 := by
  unfold Ins.costs
  rw [getD_app_l' _ (by rw [List.length_map, List.length_range]; exact h), getD_map_range _ _ h]
theorem costs_t (I : Ins) {t a : Nat} (ht : t < I.q) (ha : a < I.ll t) : I.costs.getD (I.st t + a) 0 = I.c t a := by
  have e : I.st t = I.n * I.s + offN I.ll 0 t := offN_add _ _ _
  unfold Ins.costs
  rw [getD_app_r' _ (by rw [List.length_map, List.length_range]; omega), List.length_map, List.length_range]
  have e2 : I.st t + a - I.n * I.s = offN I.ll 0 t + a := by omega
  rw [e2, flat_get 0 (fun t _ => by rw [List.length_map, List.length_range]) ht ha, getD_map_range _ _ ha]
theorem st_ge (I : Ins) (t : Nat) : I.n * I.s ≤ I.st t := offN_ge _ _ _
theorem st_le (I : Ins) {t : Nat} (ht : t < I.q) : I.st t + I.ll t ≤ I.W := offN_le I.ll (I.n * I.s) ht
theorem of_le (I : Ins) {t : Nat} (ht : t < I.q) : I.of t + I.ar t * I.s ≤ I.M := offN_le (fun t => I.ar t * I.s) I.n ht
theorem blk_lt {p a s v : Nat} (hp : p < a) (hv : v < s) : p * s + v < a * s := by
  have := Nat.mul_le_mul_right s (show p + 1 ≤ a from hp)
  rw [Nat.succ_mul] at this; omega
theorem blk_eq {p p' s v v' : Nat} (hv : v < s) (hv' : v' < s) (e : p * s + v = p' * s + v') : p = p' ∧ v = v' := by
  have h1 : p = p' := by
    rcases Nat.lt_trichotomy p p' with h | h | h
    · have := Nat.mul_le_mul_right s (show p + 1 ≤ p' from h)
      rw [Nat.succ_mul] at this; omega
    · exact h
    · have := Nat.mul_le_mul_right s (show p' + 1 ≤ p from h)
      rw [Nat.succ_mul] at this; omega
  subst h1
  exact ⟨rfl, by omega⟩
theorem nm_lt (w : WF I) {t p v : Nat} (ht : t < I.q) (hp : p < I.ar t) (hv : v < I.s) : I.sc t p * I.s + v < I.n * I.s := blk_lt (w.sc t p ht hp) hv
/-- the places of the constraints: each is a bound or a link -/
theorem con_cases (I : Ins) (P : Nat → Prop) (hb : ∀ nm, nm < I.n → P nm) (hl : ∀ t p v, t < I.q → p < I.ar t → v < I.s → P (I.of t + (p * I.s + v))) : ∀ i, i < I.M → P i := by
  have key : ∀ q, q ≤ I.q → ∀ i, i < I.of q → P i := by
    intro q
    induction q with
    | zero => intro _ i hi; exact hb i hi
    | succ q ih =>
      intro hq i hi
      by_cases h : i < I.of q
      · exact ih (by omega) i h
      · have e : I.of (q + 1) = I.of q + I.ar q * I.s := rfl
        have hs : 0 < I.s := by
          by_cases z : I.s = 0
          · rw [e, z] at hi; omega
          · omega
        have h1 : (i - I.of q) / I.s < I.ar q := by
          rw [Nat.div_lt_iff_lt_mul hs]; omega
        have h2 := Nat.div_add_mod (i - I.of q) I.s
        have h3 := Nat.mod_lt (i - I.of q) hs
        have := hl q ((i - I.of q) / I.s) ((i - I.of q) % I.s) (by omega) h1 h3
        rw [Nat.mul_comm, h2] at this
        have e3 : I.of q + (i - I.of q) = i := by omega
        rw [e3] at this
        exact this
  exact key I.q (Nat.le_refl _)
theorem rows_w (I : Ins) : ∀ i, i < I.M → (I.rows.getD i []).length = I.W :=
  con_cases I (fun i => (I.rows.getD i []).length = I.W) (fun nm h => by rw [rows_b I h, List.length_map, List.length_range]) fun t p v ht hp hv => by rw [rows_l I ht hp hv, List.length_map, List.length_range]
theorem dues_nn (I : Ins) : ∀ i, i < I.M → 0 ≤ I.dues.getD i 0 ∧ I.dues.getD i 0 ≤ 1 :=
  con_cases I (fun i => 0 ≤ I.dues.getD i 0 ∧ I.dues.getD i 0 ≤ 1) (fun nm h => by rw [dues_b I h]; decide) fun t p v ht hp hv => by rw [dues_l I ht hp hv]; decide
theorem ent_b (I : Ins) {nm j : Nat} (h : nm < I.n) (hj : j < I.W) : ent I.rows nm j = I.bndE nm j := by
  unfold ent
  rw [rows_b I h, getD_map_range _ _ hj]
theorem ent_l (I : Ins) {t p v j : Nat} (ht : t < I.q) (hp : p < I.ar t) (hv : v < I.s) (hj : j < I.W) : ent I.rows (I.of t + (p * I.s + v)) j = I.lnkE t p v j := by
  unfold ent
  rw [rows_l I ht hp hv, getD_map_range _ _ hj]
/-- sums of a constraint over the columns -/
theorem bnd_sum (I : Ins) (x : Nat → Int) {nm : Nat} (h : nm < I.n) : sumN I.W (fun j => I.bndE nm j * x j) = sumN I.s (fun v => x (nm * I.s + v)) := by
  have h1 : nm * I.s + I.s ≤ I.W := by
    have := Nat.mul_le_mul_right I.s (show nm + 1 ≤ I.n from h)
    rw [Nat.succ_mul] at this
    have := st_ge I I.q
    unfold Ins.W
    omega
  have e := sumN_window (fun _ => 1) x h1
  unfold Ins.bndE
  rw [e]
  exact sumN_congr fun v _ => Int.one_mul _
theorem lnk_sum (w : WF I) (x : Nat → Int) {t p v : Nat} (ht : t < I.q) (hp : p < I.ar t) (hv : v < I.s) : sumN I.W (fun j => I.lnkE t p v j * x j) = sumN (I.ll t) (fun a => (if I.lv t a p = v then 1 else 0) * x (I.st t + a)) - x (I.sc t p * I.s + v) := by
  have h1 := nm_lt w ht hp hv
  have h2 := st_ge I t
  have h3 := st_le I ht
  unfold Ins.lnkE
  rw [sumN_congr (fun j _ => Int.add_mul _ _ _), sumN_add, sumN_point x (-1) (by omega), sumN_window (fun a => if I.lv t a p = v then 1 else 0) x h3]
  omega
/-- sums over the constraints -/
theorem con_sum (I : Ins) (F : Nat → Int) : sumN I.M F = sumN I.n F + sumN I.q (fun t => sumN (I.ar t) (fun p => sumN I.s (fun v => F (I.of t + (p * I.s + v))))) := by
  have e := sumN_off (fun t => I.ar t * I.s) I.n F I.q
  refine Eq.trans e ?_
  congr 1
  exact sumN_congr fun t _ => sumN_block I.s (fun i => F (I.of t + i)) (I.ar t)
theorem col_sum (I : Ins) (F : Nat → Int) : sumN I.W F = sumN (I.n * I.s) F + sumN I.q (fun t => sumN (I.ll t) (fun a => F (I.st t + a))) := sumN_off I.ll (I.n * I.s) F I.q
/-! ### what the end of the program says of the instance -/
structure Cert (I : Ins) (sh : Nat → Nat → Int) (rs : Nat → Nat → Int) (top : Nat → Int) (pr : Nat → Nat → Nat → Int) (d : Int) : Prop where
  dpos : 0 < d
  shn : ∀ nm v, nm < I.n → v < I.s → 0 ≤ sh nm v
  rsn : ∀ t a, t < I.q → a < I.ll t → 0 ≤ rs t a
  one : ∀ nm, nm < I.n → sumN I.s (fun v => sh nm v) = d
  mar : ∀ t p v, t < I.q → p < I.ar t → v < I.s → sumN (I.ll t) (fun a => (if I.lv t a p = v then 1 else 0) * rs t a) = sh (I.sc t p) v
  row : ∀ t a, t < I.q → a < I.ll t → sumN (I.ar t) (fun p => pr t p (I.lv t a p)) ≤ d * I.c t a
  val : ∀ nm v, nm < I.n → v < I.s → top nm ≤ sumN I.q (fun t => sumN (I.ar t) (fun p => if I.sc t p = nm then pr t p v else 0))
  tot : sumN I.q (fun t => sumN (I.ll t) (fun a => I.c t a * rs t a)) = sumN I.n top
theorem A0_in {rows : List (List Int)} {dues : List Int} {n m i j : Nat} (h : j < n) : A0 rows dues n m i j = ent rows i j := if_pos h
theorem A0_last {rows : List (List Int)} {dues : List Int} {n m i : Nat} : A0 rows dues n m i (n + m) = dues.getD i 0 := by
  unfold A0
  rw [if_neg (by omega), if_neg (by omega)]
abbrev sysOf (I : Ins) : Sys := S0 I.rows I.dues I.W I.M
theorem cert_of (w : WF I) {x y : Nat → Int} {d : Int} (B : Best (sysOf I) (fun j => I.costs.getD j 0) x y d) : Cert I (fun nm v => x (nm * I.s + v)) (fun t a => x (I.st t + a)) y (fun t p v => y (I.of t + (p * I.s + v))) d := by
  have hW : ∀ nm v, nm < I.n → v < I.s → nm * I.s + v < I.W := fun nm v h1 h2 => by
    have := blk_lt h1 h2
    have := st_ge I I.q
    unfold Ins.W
    omega
  have hst : ∀ t a, t < I.q → a < I.ll t → I.st t + a < I.W := fun t a ht ha => by have := st_le I ht; omega
  have eq : ∀ i, i < I.M → sumN I.W (fun j => A0 I.rows I.dues I.W I.M i j * x j) = d * A0 I.rows I.dues I.W I.M i (I.W + I.M) := B.eq
  have du : ∀ j, j < I.W → sumN I.M (fun i => y i * A0 I.rows I.dues I.W I.M i j) ≤ d * I.costs.getD j 0 := B.du
  have hof : ∀ t p v, t < I.q → p < I.ar t → v < I.s → I.of t + (p * I.s + v) < I.M := fun t p v ht hp hv => by
    have := of_le I ht
    have := blk_lt hp hv
    omega
  refine ⟨B.dpos, fun nm v h1 h2 => B.nn _ (hW nm v h1 h2), fun t a ht ha => B.nn _ (hst t a ht ha), fun nm h => ?_, fun t p v ht hp hv => ?_, fun t a ht ha => ?_, fun nm v h hv => ?_, ?_⟩
  · have hM : nm < I.M := Nat.lt_of_lt_of_le h (offN_ge _ _ _)
    have e := eq nm hM
    rw [A0_last, dues_b I h, Int.mul_one, sumN_congr (g := fun j => I.bndE nm j * x j) (fun j hj => by rw [A0_in hj, ent_b I h hj]), bnd_sum I x h] at e
    exact e
  · have e := eq _ (hof t p v ht hp hv)
    rw [A0_last, dues_l I ht hp hv, Int.mul_zero, sumN_congr (g := fun j => I.lnkE t p v j * x j) (fun j hj => by rw [A0_in hj, ent_l I ht hp hv hj]), lnk_sum w x ht hp hv] at e
    omega
  · have hj := hst t a ht ha
    have e := du _ hj
    rw [costs_t I ht ha, con_sum, sumN_zero (n := I.n) (fun nm hnm => by
      rw [A0_in hj, ent_b I hnm hj]
      unfold Ins.bndE
      have := blk_lt hnm w.spos
      have := st_ge I t
      have h5 : nm * I.s + I.s ≤ I.n * I.s := by
        have := Nat.mul_le_mul_right I.s (show nm + 1 ≤ I.n from hnm)
        rw [Nat.succ_mul] at this; exact this
      rw [if_neg (by omega), Int.mul_zero]), Int.zero_add] at e
    refine Int.le_trans (Int.le_of_eq ?_) e
    rw [sumN_single (k := t) ht (fun u hu ne => sumN_zero fun p hp => sumN_zero fun v hv => by
      rw [A0_in hj, ent_l I hu hp hv hj]
      unfold Ins.lnkE
      have h1 := nm_lt w hu hp hv
      have h2 := st_ge I t
      rw [if_neg (by omega), Int.zero_add]
      have h3 : ¬ (I.st u ≤ I.st t + a ∧ I.st t + a < I.st u + I.ll u) := by
        rcases Nat.lt_trichotomy u t with q | q | q
        · have : I.st u + I.ll u ≤ I.st t := offN_le I.ll (I.n * I.s) q
          omega
        · exact absurd q ne
        · have : I.st t + I.ll t ≤ I.st u := offN_le I.ll (I.n * I.s) q
          omega
      rw [if_neg h3, Int.mul_zero])]
    refine sumN_congr fun p hp => ?_
    have lvs := w.lv ht ha hp
    rw [sumN_single (k := I.lv t a p) lvs (fun v hv ne => by
      rw [A0_in hj, ent_l I ht hp hv hj]
      unfold Ins.lnkE
      have h1 := nm_lt w ht hp hv
      have h2 := st_ge I t
      rw [if_neg (by omega), if_pos ⟨by omega, by omega⟩, Nat.add_sub_cancel_left, if_neg (fun q => ne q.symm), Int.add_zero, Int.mul_zero])]
    rw [A0_in hj, ent_l I ht hp lvs hj]
    unfold Ins.lnkE
    have h1 := nm_lt w ht hp lvs
    have h2 := st_ge I t
    rw [if_neg (by omega), if_pos ⟨by omega, by omega⟩, Nat.add_sub_cancel_left, if_pos rfl, Int.zero_add, Int.mul_one]
  · have hj := hW nm v h hv
    have e := du _ hj
    rw [costs_b I (blk_lt h hv), Int.mul_zero, con_sum] at e
    have e1 : sumN I.n (fun i => y i * A0 I.rows I.dues I.W I.M i (nm * I.s + v)) = y nm := by
      rw [sumN_single (k := nm) h (fun k hk ne => by
        rw [A0_in hj, ent_b I hk hj]
        unfold Ins.bndE
        rw [if_neg (fun z => ?_), Int.mul_zero]
        have := blk_eq (p := nm) (p' := k) (v := v) (v' := nm * I.s + v - k * I.s) hv (by omega) (by omega)
        exact ne this.1.symm)]
      rw [A0_in hj, ent_b I h hj]
      unfold Ins.bndE
      rw [if_pos ⟨by omega, by omega⟩, Int.mul_one]
    have e2 : sumN I.q (fun t => sumN (I.ar t) (fun p => sumN I.s (fun u => y (I.of t + (p * I.s + u)) * A0 I.rows I.dues I.W I.M (I.of t + (p * I.s + u)) (nm * I.s + v)))) = - sumN I.q (fun t => sumN (I.ar t) (fun p => if I.sc t p = nm then y (I.of t + (p * I.s + v)) else 0)) := by
      rw [← sumN_neg]
      refine sumN_congr fun t ht => ?_
      rw [← sumN_neg]
      refine sumN_congr fun p hp => ?_
      have lk : ∀ u, u < I.s → A0 I.rows I.dues I.W I.M (I.of t + (p * I.s + u)) (nm * I.s + v) = if nm * I.s + v = I.sc t p * I.s + u then -1 else 0 := fun u hu => by
        rw [A0_in hj, ent_l I ht hp hu hj]
        unfold Ins.lnkE
        have h2 := st_ge I t
        have := blk_lt h hv
        have hno : ¬ (I.st t ≤ nm * I.s + v ∧ nm * I.s + v < I.st t + I.ll t) := by omega
        rw [if_neg hno, Int.add_zero]
      by_cases q : I.sc t p = nm
      · rw [if_pos q, sumN_single (k := v) hv (fun u hu ne => by
          rw [lk u hu, if_neg (fun z => ?_), Int.mul_zero]
          exact ne (blk_eq hv hu z).2.symm)]
        rw [lk v hv, if_pos (by rw [q])]
        omega
      · rw [if_neg q]
        refine sumN_zero fun u hu => ?_
        rw [lk u hu, if_neg (fun z => ?_), Int.mul_zero]
        exact q (blk_eq hv hu z).1.symm
    rw [e1, e2] at e
    show y nm ≤ _
    omega
  · have e : sumN I.W (fun j => I.costs.getD j 0 * x j) = sumN I.M (fun i => y i * A0 I.rows I.dues I.W I.M i (I.W + I.M)) := B.tot
    rw [col_sum, sumN_zero (n := I.n * I.s) (fun j hj => by rw [costs_b I hj, Int.zero_mul]), Int.zero_add, con_sum] at e
    rw [sumN_congr (n := I.n) (g := y) (fun i hi => by rw [A0_last, dues_b I hi, Int.mul_one]), sumN_zero (n := I.q) (fun t ht => sumN_zero fun p hp => sumN_zero fun v hv => by rw [A0_last, dues_l I ht hp hv, Int.mul_zero]), Int.add_zero] at e
    rw [← e]
    refine sumN_congr fun t ht => sumN_congr fun a ha => ?_
    rw [costs_t I ht ha]
/-- all values 0: some shares have the sums -/
theorem feas_of (w : WF I) : ∃ z, Feas (sysOf I) z := by
  refine ⟨fun j => if j < I.n * I.s then (if j % I.s = 0 then 1 else 0) else (if ∃ t, t < I.q ∧ j = I.st t then 1 else 0), fun j hj => ?_, ?_⟩
  · split
    · split <;> decide
    · split <;> decide
  · show ∀ i, i < I.M → sumN I.W (fun j => A0 I.rows I.dues I.W I.M i j * _) = A0 I.rows I.dues I.W I.M i (I.W + I.M)
    have zst : ∀ t a, t < I.q → a < I.ll t → (if I.st t + a < I.n * I.s then (if (I.st t + a) % I.s = 0 then (1 : Int) else 0) else (if ∃ u, u < I.q ∧ I.st t + a = I.st u then 1 else 0)) = if a = 0 then 1 else 0 := fun t a ht ha => by
      have h2 := st_ge I t
      rw [if_neg (by omega)]
      by_cases q : a = 0
      · rw [if_pos q, if_pos ⟨t, ht, by omega⟩]
      · rw [if_neg q, if_neg]
        rintro ⟨u, hu, e⟩
        rcases Nat.lt_trichotomy u t with z | z | z
        · have : I.st u + I.ll u ≤ I.st t := offN_le I.ll (I.n * I.s) z
          have := w.llpos hu
          omega
        · subst z; omega
        · have : I.st t + I.ll t ≤ I.st u := offN_le I.ll (I.n * I.s) z
          omega
    have znm : ∀ nm v, nm < I.n → v < I.s → (if nm * I.s + v < I.n * I.s then (if (nm * I.s + v) % I.s = 0 then (1 : Int) else 0) else (if ∃ u, u < I.q ∧ nm * I.s + v = I.st u then 1 else 0)) = if v = 0 then 1 else 0 := fun nm v h hv => by
      rw [if_pos (blk_lt h hv)]
      have : (nm * I.s + v) % I.s = v := by rw [Nat.mul_comm, Nat.mul_add_mod, Nat.mod_eq_of_lt hv]
      rw [this]
    refine con_cases I _ (fun nm h => ?_) (fun t p v ht hp hv => ?_)
    · rw [A0_last, dues_b I h, sumN_congr (g := fun j => I.bndE nm j * _) (fun j hj => by rw [A0_in hj, ent_b I h hj]), bnd_sum I _ h]
      rw [sumN_single (k := 0) w.spos (fun v hv ne => by rw [znm nm v h hv, if_neg ne]), znm nm 0 h w.spos, if_pos rfl]
    · rw [A0_last, dues_l I ht hp hv, sumN_congr (g := fun j => I.lnkE t p v j * _) (fun j hj => by rw [A0_in hj, ent_l I ht hp hv hj]), lnk_sum w _ ht hp hv]
      rw [sumN_single (k := 0) (w.llpos ht) (fun a ha ne => by rw [zst t a ht ha, if_neg ne, Int.mul_zero]), zst t 0 ht (w.llpos ht), if_pos rfl, znm _ v (w.sc t p ht hp) hv]
      have l0 : I.lv t 0 p = 0 := (rowsN_facts _ w.s _ (w.ar t ht)).2.2.2.1 p hp
      rw [l0]
      by_cases q : v = 0
      · rw [if_pos q, if_pos q.symm]; rfl
      · rw [if_neg q, if_neg (fun z => q z.symm)]; rfl
/-- each constraint has at most six entries of size one -/
theorem six (w : WF I) : ∀ i, i < I.M → sumN (I.W + I.M + 1) (fun j => ab (A0 I.rows I.dues I.W I.M i j)) ≤ 6 := by
  have head : ∀ i, i < I.M → sumN I.W (fun j => ab (A0 I.rows I.dues I.W I.M i j)) ≤ 4 := by
    refine con_cases I _ (fun nm h => ?_) (fun t p v ht hp hv => ?_)
    · rw [sumN_congr (g := fun j => I.bndE nm j * 1) (fun j hj => by
        rw [A0_in hj, ent_b I h hj, Int.mul_one]
        unfold Ins.bndE
        split <;> rfl), bnd_sum I (fun _ => 1) h, sumN_const]
      rcases w.s with e | e <;> rw [e] <;> decide
    · have h2 := st_ge I t
      have h3 := st_le I ht
      have h1 := nm_lt w ht hp hv
      refine Int.le_trans (sumN_le (g := fun j => (if j = I.sc t p * I.s + v then 1 else 0) * 1 + (if I.st t ≤ j ∧ j < I.st t + I.ll t then (if I.lv t (j - I.st t) p = v then 1 else 0) else 0) * 1) fun j hj => ?_) ?_
      · rw [A0_in hj, ent_l I ht hp hv hj, Int.mul_one, Int.mul_one]
        unfold Ins.lnkE
        refine Int.le_trans (ab_add _ _) ?_
        have a1 : ab (if j = I.sc t p * I.s + v then -1 else 0) = if j = I.sc t p * I.s + v then 1 else 0 := by split <;> rfl
        have a2 : ab (if I.st t ≤ j ∧ j < I.st t + I.ll t then (if I.lv t (j - I.st t) p = v then 1 else 0) else 0) = if I.st t ≤ j ∧ j < I.st t + I.ll t then (if I.lv t (j - I.st t) p = v then 1 else 0) else 0 := by
          split
          · split <;> rfl
          · rfl
        rw [a1, a2]
        exact Int.le_refl _
      · rw [sumN_add, sumN_point (fun _ => 1) 1 (by omega), sumN_window (fun a => if I.lv t a p = v then 1 else 0) (fun _ => 1) h3]
        have := rowsN_count _ w.s _ (w.ar t ht) p hp v hv
        have e : sumN (I.ll t) (fun i => (if I.lv t i p = v then 1 else 0) * 1) = sumN (I.s ^ I.ar t) (fun a => if ((rowsN I.s (I.ar t)).getD a []).getD p 0 = v then 1 else 0) := by
          rw [w.ll ht]
          exact sumN_congr fun a _ => Int.mul_one _
        rw [e]
        omega
  intro i hi
  have tail : sumN I.M (fun k => ab (A0 I.rows I.dues I.W I.M i (I.W + k))) = 1 := by
    rw [sumN_single (k := i) hi (fun k hk ne => by rw [u0 hi hk, if_neg (fun z => ne z.symm), ab_zero]), u0 hi hi, if_pos rfl]; rfl
  have last : ab (A0 I.rows I.dues I.W I.M i (I.W + I.M)) ≤ 1 := by
    rw [A0_last]
    have := dues_nn I i hi
    rw [ab_pos this.1]; exact this.2
  rw [show I.W + I.M + 1 = (I.W + I.M) + 1 from rfl]
  show sumN (I.W + I.M) _ + ab (A0 I.rows I.dues I.W I.M i (I.W + I.M)) ≤ 6
  rw [sumN_split, tail]
  have := head i hi
  omega
end
end Lp
namespace Lp
/-! ### what the law asks, over the certificate -/
section
variable {I : Ins} {sh rs : Nat → Nat → Int} {top : Nat → Int} {pr : Nat → Nat → Nat → Int} {d : Int}
theorem Cert.swap (C : Cert I sh rs top pr d) (w : WF I) (f : Nat → Nat → Int) (v : Nat → Nat) : sumN I.n (fun nm => sumN I.q (fun t => sumN (I.ar t) (fun p => if I.sc t p = nm then pr t p (v nm) else 0))) = sumN I.q (fun t => sumN (I.ar t) (fun p => pr t p (v (I.sc t p)))) := by
  rw [sumN_swap]
  refine sumN_congr fun t ht => ?_
  rw [sumN_swap]
  refine sumN_congr fun p hp => ?_
  rw [sumN_single (w.sc t p ht hp) (fun nm _ ne => if_neg fun z => ne z.symm), if_pos rfl]
/-- no assignment costs less -/
theorem Cert.weak (C : Cert I sh rs top pr d) (w : WF I) {σ at_ : Nat → Nat} (hσ : ∀ nm, nm < I.n → σ nm < I.s) (ha : ∀ t, t < I.q → at_ t < I.ll t) (hl : ∀ t p, t < I.q → p < I.ar t → I.lv t (at_ t) p = σ (I.sc t p)) :
    sumN I.n top ≤ d * sumN I.q (fun t => I.c t (at_ t)) := by
  have h1 : sumN I.n top ≤ sumN I.n (fun nm => sumN I.q (fun t => sumN (I.ar t) (fun p => if I.sc t p = nm then pr t p (σ nm) else 0))) := sumN_le fun nm h => C.val nm (σ nm) h (hσ nm h)
  rw [C.swap w (fun _ _ => 0) σ] at h1
  refine Int.le_trans h1 ?_
  rw [← sumN_mul]
  refine sumN_le fun t ht => ?_
  refine Int.le_trans (Int.le_of_eq ?_) (C.row t _ ht (ha t ht))
  exact sumN_congr fun p hp => by rw [hl t p ht hp]
/-- the prices of a term against any shares of its rows -/
theorem Cert.term (C : Cert I sh rs top pr d) (w : WF I) {t : Nat} (ht : t < I.q) {r : Nat → Int} (hr : ∀ a, a < I.ll t → 0 ≤ r a) (hm : ∀ p v, p < I.ar t → v < I.s → sumN (I.ll t) (fun a => (if I.lv t a p = v then 1 else 0) * r a) = sh (I.sc t p) v) :
    sumN (I.ar t) (fun p => sumN I.s (fun v => pr t p v * sh (I.sc t p) v)) ≤ d * sumN (I.ll t) (fun a => I.c t a * r a) := by
  have e : sumN (I.ar t) (fun p => sumN I.s (fun v => pr t p v * sh (I.sc t p) v)) = sumN (I.ll t) (fun a => sumN (I.ar t) (fun p => pr t p (I.lv t a p)) * r a) := by
    have e1 : sumN (I.ll t) (fun a => sumN (I.ar t) (fun p => pr t p (I.lv t a p)) * r a) = sumN (I.ll t) (fun a => sumN (I.ar t) (fun p => pr t p (I.lv t a p) * r a)) := sumN_congr fun a _ => (sumN_mulR _ _ _).symm
    rw [e1]
    conv => rhs; rw [sumN_swap]
    refine sumN_congr fun p hp => ?_
    have e2 : sumN I.s (fun v => pr t p v * sh (I.sc t p) v) = sumN I.s (fun v => sumN (I.ll t) (fun a => pr t p v * ((if I.lv t a p = v then 1 else 0) * r a))) := sumN_congr fun v hv => by rw [sumN_mul, hm p v hp hv]
    rw [e2, sumN_swap]
    refine sumN_congr fun a ha => ?_
    rw [sumN_single (w.lv ht ha hp) (fun v _ ne => by rw [if_neg (fun z => ne z.symm), Int.zero_mul, Int.mul_zero]), if_pos rfl, Int.one_mul]
  rw [e, ← sumN_mul]
  refine sumN_le fun a ha => ?_
  have := Int.mul_le_mul_of_nonneg_right (C.row t a ht ha) (hr a ha)
  rw [Int.mul_assoc] at this
  exact this
theorem Cert.all (C : Cert I sh rs top pr d) (w : WF I) : d * sumN I.n top ≤ sumN I.q (fun t => sumN (I.ar t) (fun p => sumN I.s (fun v => pr t p v * sh (I.sc t p) v))) := by
  have e : sumN I.q (fun t => sumN (I.ar t) (fun p => sumN I.s (fun v => pr t p v * sh (I.sc t p) v))) = sumN I.n (fun nm => sumN I.s (fun v => sumN I.q (fun t => sumN (I.ar t) (fun p => if I.sc t p = nm then pr t p v else 0)) * sh nm v)) := by
    have e0 : ∀ nm, sumN I.s (fun v => sumN I.q (fun t => sumN (I.ar t) (fun p => if I.sc t p = nm then pr t p v else 0)) * sh nm v) = sumN I.q (fun t => sumN (I.ar t) (fun p => if I.sc t p = nm then sumN I.s (fun v => pr t p v * sh nm v) else 0)) := fun nm => by
      have : ∀ v, sumN I.q (fun t => sumN (I.ar t) (fun p => if I.sc t p = nm then pr t p v else 0)) * sh nm v = sumN I.q (fun t => sumN (I.ar t) (fun p => if I.sc t p = nm then pr t p v * sh nm v else 0)) := fun v => by
        rw [← sumN_mulR]
        refine sumN_congr fun t _ => ?_
        rw [← sumN_mulR]
        refine sumN_congr fun p _ => ?_
        split
        · rfl
        · exact Int.zero_mul _
      rw [sumN_congr (fun v _ => this v), sumN_swap]
      refine sumN_congr fun t _ => ?_
      rw [sumN_swap]
      refine sumN_congr fun p _ => ?_
      by_cases z : I.sc t p = nm
      · rw [if_pos z]; exact sumN_congr fun v _ => if_pos z
      · rw [if_neg z]; exact sumN_zero fun v _ => if_neg z
    rw [sumN_congr (fun nm _ => e0 nm)]
    conv => rhs; rw [sumN_swap]
    refine sumN_congr fun t ht => ?_
    conv => rhs; rw [sumN_swap]
    refine sumN_congr fun p hp => ?_
    rw [sumN_single (w.sc t p ht hp) (fun nm _ ne => if_neg fun z => ne z.symm), if_pos rfl]
  rw [e, ← sumN_mul]
  refine sumN_le fun nm h => ?_
  rw [← C.one nm h, ← sumN_mulR]
  refine sumN_le fun v hv => ?_
  rw [Int.mul_comm]
  exact Int.mul_le_mul_of_nonneg_right (C.val nm v h hv) (C.shn nm v h hv)
/-- the least cost of a term on two values, the shares of 0 being given -/
def edge (t0 t1 t2 t3 P Q D r : Int) : Int := r * t0 + ((P - r) * t1 + (Q - r) * t2 + (D - P - Q + r) * t3)
def cheap2 (t0 t1 t2 t3 P Q D : Int) : Int := min (edge t0 t1 t2 t3 P Q D (max 0 (P + Q - D))) (edge t0 t1 t2 t3 P Q D (min P Q))
def Ins.ch (I : Ins) (sh : Nat → Nat → Int) (d : Int) (t : Nat) : Int :=
  if I.ar t = 1 then (I.t t).w * (sh (I.sc t 0) 0 * (I.tab t).getD 0 0 + (d - sh (I.sc t 0) 0) * (I.tab t).getD 1 0)
  else (I.t t).w * cheap2 ((I.tab t).getD 0 0) ((I.tab t).getD 1 0) ((I.tab t).getD 2 0) ((I.tab t).getD 3 0) (sh (I.sc t 0) 0) (sh (I.sc t 1) 0) d
theorem edge_lin (t0 t1 t2 t3 P Q D r u : Int) : edge t0 t1 t2 t3 P Q D r - edge t0 t1 t2 t3 P Q D u = (r - u) * (t0 - t1 - t2 + t3) := by
  unfold edge
  grind
theorem cheap2_le {t0 t1 t2 t3 P Q D r : Int} (h1 : max 0 (P + Q - D) ≤ r) (h2 : r ≤ min P Q) : cheap2 t0 t1 t2 t3 P Q D ≤ edge t0 t1 t2 t3 P Q D r := by
  unfold cheap2
  have a := edge_lin t0 t1 t2 t3 P Q D r (max 0 (P + Q - D))
  have b := edge_lin t0 t1 t2 t3 P Q D (min P Q) r
  by_cases z : 0 ≤ t0 - t1 - t2 + t3
  · have := Int.mul_nonneg (show 0 ≤ r - max 0 (P + Q - D) by omega) z
    omega
  · have := Int.mul_nonneg (show 0 ≤ min P Q - r by omega) (show 0 ≤ - (t0 - t1 - t2 + t3) by omega)
    rw [Int.mul_neg] at this
    omega
theorem cheap2_is (t0 t1 t2 t3 P Q D : Int) : ∃ r, (r = max 0 (P + Q - D) ∨ r = min P Q) ∧ cheap2 t0 t1 t2 t3 P Q D = edge t0 t1 t2 t3 P Q D r := by
  unfold cheap2
  by_cases z : edge t0 t1 t2 t3 P Q D (max 0 (P + Q - D)) ≤ edge t0 t1 t2 t3 P Q D (min P Q)
  · exact ⟨_, .inl rfl, Int.min_eq_left z⟩
  · exact ⟨_, .inr rfl, Int.min_eq_right (by omega)⟩
theorem lv1 (w : WF I) (hs : I.s = 2) {t : Nat} (ht : t < I.q) (ha : I.ar t = 1) : I.ll t = 2 ∧ I.lv t 0 0 = 0 ∧ I.lv t 1 0 = 1 := by
  unfold Ins.ll Ins.lv Ins.lot
  rw [hs, ha]
  decide
theorem lv2 (w : WF I) (hs : I.s = 2) {t : Nat} (ht : t < I.q) (ha : I.ar t = 2) : I.ll t = 4 ∧ (I.lv t 0 0 = 0 ∧ I.lv t 1 0 = 0 ∧ I.lv t 2 0 = 1 ∧ I.lv t 3 0 = 1) ∧ (I.lv t 0 1 = 0 ∧ I.lv t 1 1 = 1 ∧ I.lv t 2 1 = 0 ∧ I.lv t 3 1 = 1) := by
  unfold Ins.ll Ins.lv Ins.lot
  rw [hs, ha]
  decide
theorem sum2 (f : Nat → Int) : sumN 2 f = f 0 + f 1 := by show 0 + f 0 + f 1 = _; omega
theorem sum4 (f : Nat → Int) : sumN 4 f = f 0 + f 1 + f 2 + f 3 := by show 0 + f 0 + f 1 + f 2 + f 3 = _; omega
theorem Cert.ch_le (C : Cert I sh rs top pr d) (w : WF I) (hs : I.s = 2) {t : Nat} (ht : t < I.q) : I.ch sh d t ≤ sumN (I.ll t) (fun a => I.c t a * rs t a) := by
  have on := fun nm (h : nm < I.n) => C.one nm h
  unfold Ins.ch
  rcases w.ar t ht with ha | ha
  · obtain ⟨el, l0, l1⟩ := lv1 w hs ht ha
    have m0 := C.mar t 0 0 ht (by omega) (by omega)
    have m1 := C.mar t 0 1 ht (by omega) (by omega)
    have o := on _ (w.sc t 0 ht (by omega))
    rw [hs, sum2] at o
    rw [el, sum2, l0, l1] at m0 m1
    rw [if_pos ha, el, sum2]
    unfold Ins.c
    have e0 : rs t 0 = sh (I.sc t 0) 0 := by simpa using m0
    have e1 : rs t 1 = sh (I.sc t 0) 1 := by simpa using m1
    rw [e0, e1]
    have e2 : d - sh (I.sc t 0) 0 = sh (I.sc t 0) 1 := by omega
    rw [e2]
    grind
  · obtain ⟨el, ⟨a0, a1, a2, a3⟩, b0, b1, b2, b3⟩ := lv2 w hs ht ha
    have m0 := C.mar t 0 0 ht (by omega) (by omega)
    have m1 := C.mar t 0 1 ht (by omega) (by omega)
    have n0 := C.mar t 1 0 ht (by omega) (by omega)
    have n1 := C.mar t 1 1 ht (by omega) (by omega)
    have o := on _ (w.sc t 0 ht (by omega))
    have o' := on _ (w.sc t 1 ht (by omega))
    rw [hs, sum2] at o o'
    rw [el, sum4, a0, a1, a2, a3] at m0 m1
    rw [el, sum4, b0, b1, b2, b3] at n0 n1
    rw [if_neg (by omega), el, sum4]
    have g0 : rs t 0 + rs t 1 = sh (I.sc t 0) 0 := by simpa using m0
    have g1 : rs t 2 + rs t 3 = sh (I.sc t 0) 1 := by simpa using m1
    have g2 : rs t 0 + rs t 2 = sh (I.sc t 1) 0 := by simpa using n0
    have g3 : rs t 1 + rs t 3 = sh (I.sc t 1) 1 := by simpa using n1
    have p0 := C.rsn t 0 ht (by omega)
    have p1 := C.rsn t 1 ht (by omega)
    have p2 := C.rsn t 2 ht (by omega)
    have p3 := C.rsn t 3 ht (by omega)
    have le := cheap2_le (t0 := (I.tab t).getD 0 0) (t1 := (I.tab t).getD 1 0) (t2 := (I.tab t).getD 2 0) (t3 := (I.tab t).getD 3 0) (P := sh (I.sc t 0) 0) (Q := sh (I.sc t 1) 0) (D := d) (r := rs t 0) (by omega) (by omega)
    have hw := w.w t ht
    have le2 := Int.mul_le_mul_of_nonneg_left le (show 0 ≤ (I.t t).w by omega)
    refine Int.le_trans le2 (Int.le_of_eq ?_)
    unfold Ins.c edge
    have q1 : sh (I.sc t 0) 0 - rs t 0 = rs t 1 := by omega
    have q2 : sh (I.sc t 1) 0 - rs t 0 = rs t 2 := by omega
    have q3 : d - sh (I.sc t 0) 0 - sh (I.sc t 1) 0 + rs t 0 = rs t 3 := by omega
    rw [q1, q2, q3]
    grind
theorem Cert.ch_ge (C : Cert I sh rs top pr d) (w : WF I) (hs : I.s = 2) {t : Nat} (ht : t < I.q) : sumN (I.ar t) (fun p => sumN I.s (fun v => pr t p v * sh (I.sc t p) v)) ≤ d * I.ch sh d t := by
  rcases w.ar t ht with ha | ha
  · -- one place: the shares are the program's own
    refine Int.le_trans (C.term w ht (C.rsn t · ht) (fun p v hp hv => C.mar t p v ht hp hv)) ?_
    refine Int.mul_le_mul_of_nonneg_left (Int.le_of_eq ?_) (Int.le_of_lt C.dpos)
    obtain ⟨el, l0, l1⟩ := lv1 w hs ht ha
    have m0 := C.mar t 0 0 ht (by omega) (by omega)
    have m1 := C.mar t 0 1 ht (by omega) (by omega)
    have o := C.one _ (w.sc t 0 ht (by omega))
    rw [hs, sum2] at o
    rw [el, sum2, l0, l1] at m0 m1
    unfold Ins.ch
    rw [if_pos ha, el, sum2]
    unfold Ins.c
    have e0 : rs t 0 = sh (I.sc t 0) 0 := by simpa using m0
    have e1 : rs t 1 = sh (I.sc t 0) 1 := by simpa using m1
    rw [e0, e1]
    have e2 : d - sh (I.sc t 0) 0 = sh (I.sc t 0) 1 := by omega
    rw [e2]
    grind
  · obtain ⟨el, ⟨a0, a1, a2, a3⟩, b0, b1, b2, b3⟩ := lv2 w hs ht ha
    have o := C.one _ (w.sc t 0 ht (by omega))
    have o' := C.one _ (w.sc t 1 ht (by omega))
    rw [hs, sum2] at o o'
    have s00 := C.shn _ 0 (w.sc t 0 ht (by omega)) (by omega)
    have s01 := C.shn _ 1 (w.sc t 0 ht (by omega)) (by omega)
    have s10 := C.shn _ 0 (w.sc t 1 ht (by omega)) (by omega)
    have s11 := C.shn _ 1 (w.sc t 1 ht (by omega)) (by omega)
    obtain ⟨r, hr, er⟩ := cheap2_is ((I.tab t).getD 0 0) ((I.tab t).getD 1 0) ((I.tab t).getD 2 0) ((I.tab t).getD 3 0) (sh (I.sc t 0) 0) (sh (I.sc t 1) 0) d
    have T := C.term w ht (r := fun a => if a = 0 then r else if a = 1 then sh (I.sc t 0) 0 - r else if a = 2 then sh (I.sc t 1) 0 - r else d - sh (I.sc t 0) 0 - sh (I.sc t 1) 0 + r)
      (fun a h => by
        rw [el] at h
        match a, h with
        | 0, _ => show 0 ≤ r; omega
        | 1, _ => show 0 ≤ sh (I.sc t 0) 0 - r; omega
        | 2, _ => show 0 ≤ sh (I.sc t 1) 0 - r; omega
        | 3, _ => show 0 ≤ d - sh (I.sc t 0) 0 - sh (I.sc t 1) 0 + r; omega)
      (fun p v hp hv => by
        rw [el, sum4]
        rw [ha] at hp
        rw [hs] at hv
        match p, hp, v, hv with
        | 0, _, 0, _ => rw [a0, a1, a2, a3]; simp; omega
        | 0, _, 1, _ => rw [a0, a1, a2, a3]; simp; omega
        | 1, _, 0, _ => rw [b0, b1, b2, b3]; simp; omega
        | 1, _, 1, _ => rw [b0, b1, b2, b3]; simp; omega)
    refine Int.le_trans T (Int.mul_le_mul_of_nonneg_left (Int.le_of_eq ?_) (Int.le_of_lt C.dpos))
    unfold Ins.ch
    rw [if_neg (by omega), er, el, sum4]
    unfold Ins.c edge
    simp
    grind
/-- on two values the shares have the cost -/
theorem Cert.cheap (C : Cert I sh rs top pr d) (w : WF I) (hs : I.s = 2) : sumN I.q (fun t => I.ch sh d t) = sumN I.n top := by
  have h1 : sumN I.q (fun t => I.ch sh d t) ≤ sumN I.n top := by
    rw [← C.tot]
    exact sumN_le fun t ht => C.ch_le w hs ht
  have h2 : d * sumN I.n top ≤ d * sumN I.q (fun t => I.ch sh d t) := by
    refine Int.le_trans (C.all w) ?_
    rw [← sumN_mul]
    exact sumN_le fun t ht => C.ch_ge w hs ht
  have h3 := Int.le_of_mul_le_mul_left h2 C.dpos
  omega
end
/-! ### ratios -/
def Rep (d X : Int) (p : Int × Int) : Prop := 0 < p.2 ∧ p.1 * d = X * p.2
def ratio (X d : Int) : Int × Int := (X / (Int.gcd X d : Int), d / (Int.gcd X d : Int))
def Low (p : Int × Int) : Prop := Int.gcd p.1 p.2 = 1 ∧ 1 ≤ p.2 ∧ p.2 ≤ 10 ^ 40 ∧ -(10 ^ 40) ≤ p.1 ∧ p.1 ≤ 10 ^ 40
theorem gcd_pos {X d : Int} (h : 0 < d) : 0 < (Int.gcd X d : Int) := by
  have := Int.gcd_pos_of_ne_zero_right X (show d ≠ 0 by omega)
  omega
theorem rep_ratio {X d : Int} (h : 0 < d) : Rep d X (ratio X d) := by
  have g := gcd_pos (X := X) h
  obtain ⟨a, ha⟩ := Int.gcd_dvd_left X d
  obtain ⟨b, hb⟩ := Int.gcd_dvd_right X d
  have e1 : X / (Int.gcd X d : Int) = a := by
    conv => lhs; lhs; rw [ha]
    exact Int.mul_ediv_cancel_left _ (by omega)
  have e2 : d / (Int.gcd X d : Int) = b := by
    conv => lhs; lhs; rw [hb]
    exact Int.mul_ediv_cancel_left _ (by omega)
  unfold Rep ratio
  rw [e1, e2]
  refine ⟨pos_of_mul g (by rw [← hb]; exact h), ?_⟩
  show a * d = X * b
  generalize (Int.gcd X d : Int) = gg at *
  subst ha hb
  grind
theorem low_ratio {X d : Int} (h : 0 < d) (hd : d ≤ 10 ^ 40) (h1 : -(10 ^ 40) ≤ X) (h2 : X ≤ 10 ^ 40) : Low (ratio X d) := by
  have g := gcd_pos (X := X) h
  have hr := rep_ratio (X := X) h
  have gn : 0 < Int.gcd X d := by omega
  have g1 : Int.gcd (X / (Int.gcd X d : Int)) (d / (Int.gcd X d : Int)) = 1 := by
    obtain ⟨a, ha⟩ := Int.gcd_dvd_left X d
    obtain ⟨b, hb⟩ := Int.gcd_dvd_right X d
    have e1 : X / (Int.gcd X d : Int) = a := by
      conv => lhs; lhs; rw [ha]
      exact Int.mul_ediv_cancel_left _ (by omega)
    have e2 : d / (Int.gcd X d : Int) = b := by
      conv => lhs; lhs; rw [hb]
      exact Int.mul_ediv_cancel_left _ (by omega)
    rw [e1, e2]
    have e3 : Int.gcd X d = Int.gcd X d * Int.gcd a b := by
      have e4 := Int.gcd_mul_left (Int.gcd X d : Int) a b
      rw [Int.natAbs_natCast, ← ha, ← hb] at e4
      exact e4
    exact Nat.eq_of_mul_eq_mul_left gn (by rw [← e3, Nat.mul_one])
  refine ⟨g1, hr.1, ?_, ?_, ?_⟩
  · exact Int.le_trans (Int.ediv_le_self _ (by omega)) hd
  · show -(10 ^ 40) ≤ X / _
    rw [Int.le_ediv_iff_mul_le g]
    have : (10 ^ 40 : Int) * 1 ≤ 10 ^ 40 * (Int.gcd X d : Int) := Int.mul_le_mul_of_nonneg_left (by omega) (by omega)
    rw [Int.neg_mul]
    omega
  · show X / _ ≤ 10 ^ 40
    by_cases q : 0 ≤ X
    · exact Int.le_trans (Int.ediv_le_self _ q) h2
    · have : X / (Int.gcd X d : Int) < 0 := Int.ediv_neg_of_neg_of_pos (by omega) g
      omega
theorem rep_same {d X : Int} {p q : Int × Int} (hd : 0 < d) (hp : Rep d X p) (hq : Rep d X q) : p.1 * q.2 = q.1 * p.2 := by
  obtain ⟨p0, hp⟩ := hp
  obtain ⟨q0, hq⟩ := hq
  refine Int.eq_of_mul_eq_mul_right (show d ≠ 0 by omega) ?_
  grind
theorem rep_below {d X Y : Int} {p q : Int × Int} (hd : 0 < d) (hp : Rep d X p) (hq : Rep d Y q) (h : X ≤ Y) : p.1 * q.2 ≤ q.1 * p.2 := by
  obtain ⟨p0, hp⟩ := hp
  obtain ⟨q0, hq⟩ := hq
  refine Int.le_of_mul_le_mul_right (a := d) ?_ hd
  have e1 : p.1 * q.2 * d = X * (p.2 * q.2) := by grind
  have e2 : q.1 * p.2 * d = Y * (p.2 * q.2) := by grind
  rw [e1, e2]
  exact Int.mul_le_mul_of_nonneg_right h (Int.mul_nonneg (Int.le_of_lt p0) (Int.le_of_lt q0))
theorem rep_int (d L : Int) : Rep d (d * L) (L, 1) := ⟨by show (0 : Int) < 1; decide, by show L * d = d * L * 1; rw [Int.mul_one, Int.mul_comm]⟩
theorem rep_add {d X Y : Int} {p q : Int × Int} (hp : Rep d X p) (hq : Rep d Y q) : Rep d (X + Y) (p.1 * q.2 + q.1 * p.2, p.2 * q.2) := by
  obtain ⟨p0, hp⟩ := hp
  obtain ⟨q0, hq⟩ := hq
  refine ⟨Int.mul_pos p0 q0, ?_⟩
  show (p.1 * q.2 + q.1 * p.2) * d = (X + Y) * (p.2 * q.2)
  grind
theorem rep_zero (d : Int) : Rep d 0 (0, 1) := ⟨by show (0 : Int) < 1; decide, by show 0 * d = 0 * 1; rw [Int.zero_mul, Int.zero_mul]⟩
theorem rep_nn {d X : Int} {p : Int × Int} (hd : 0 < d) (hp : Rep d X p) (h : 0 ≤ X) : 0 ≤ p.1 := by
  refine nonneg_of_mul hd ?_
  rw [Int.mul_comm, hp.2]
  exact Int.mul_nonneg h (Int.le_of_lt hp.1)
/-- the sum of ratios as the law makes it -/
def addR (l : List (Int × Int)) : Int × Int := l.foldl (fun z p => (z.1 * p.2 + p.1 * z.2, z.2 * p.2)) (0, 1)
theorem addR_rep {d : Int} : ∀ {l : List (Int × Int)} {Xs : List Int}, l.length = Xs.length → (∀ i, i < l.length → Rep d (Xs.getD i 0) (l.getD i (0, 1))) → ∀ (z : Int × Int) (Z : Int), Rep d Z z → Rep d (Z + Xs.sum) (l.foldl (fun z p => (z.1 * p.2 + p.1 * z.2, z.2 * p.2)) z)
  | [], [], _, _, z, Z, hz => by simpa using hz
  | [], _ :: _, h, _, _, _, _ => by simp at h
  | _ :: _, [], h, _, _, _, _ => by simp at h
  | p :: l, X :: Xs, h, hr, z, Z, hz => by
    have h0 := hr 0 (by simp)
    have := addR_rep (l := l) (Xs := Xs) (by simpa using h) (fun i hi => by
      have := hr (i + 1) (by simpa using hi)
      simpa using this) (z.1 * p.2 + p.1 * z.2, z.2 * p.2) (Z + X) (rep_add hz (by simpa using h0))
    rw [List.sum_cons, ← Int.add_assoc]
    exact this
theorem min_scale {a b k d x y : Int} (hd : 0 < d) (hk : 0 < k) (hx : a * d = k * x) (hy : b * d = k * y) : min a b * d = k * min x y := by
  by_cases z : a ≤ b
  · have : x ≤ y := Int.le_of_mul_le_mul_left (a := k) (by rw [← hx, ← hy]; exact Int.mul_le_mul_of_nonneg_right z (Int.le_of_lt hd)) hk
    rw [Int.min_eq_left z, Int.min_eq_left this, hx]
  · have : y ≤ x := Int.le_of_mul_le_mul_left (a := k) (by rw [← hx, ← hy]; exact Int.mul_le_mul_of_nonneg_right (by omega) (Int.le_of_lt hd)) hk
    rw [Int.min_eq_right (by omega), Int.min_eq_right this, hy]
theorem max_scale {a b k d x y : Int} (hd : 0 < d) (hk : 0 < k) (hx : a * d = k * x) (hy : b * d = k * y) : max a b * d = k * max x y := by
  by_cases z : a ≤ b
  · have : x ≤ y := Int.le_of_mul_le_mul_left (a := k) (by rw [← hx, ← hy]; exact Int.mul_le_mul_of_nonneg_right z (Int.le_of_lt hd)) hk
    rw [Int.max_eq_right z, Int.max_eq_right this, hy]
  · have : y ≤ x := Int.le_of_mul_le_mul_left (a := k) (by rw [← hx, ← hy]; exact Int.mul_le_mul_of_nonneg_right (by omega) (Int.le_of_lt hd)) hk
    rw [Int.max_eq_left (by omega), Int.max_eq_left this, hx]
theorem edge_scale {t0 t1 t2 t3 a b c r P Q D R k d : Int} (ha : a * d = k * P) (hb : b * d = k * Q) (hc : c * d = k * D) (hr : r * d = k * R) : edge t0 t1 t2 t3 a b c r * d = k * edge t0 t1 t2 t3 P Q D R := by
  unfold edge
  grind
/-- the law's cheapest cost of a term stands for Ins.ch -/
theorem rep_ch1 {d X t0 t1 w : Int} {p : Int × Int} (hp : Rep d X p) : Rep d (w * (X * t0 + (d - X) * t1)) (w * (p.1 * t0 + (p.2 - p.1) * t1), p.2) := by
  obtain ⟨p0, hp⟩ := hp
  refine ⟨p0, ?_⟩
  show w * (p.1 * t0 + (p.2 - p.1) * t1) * d = w * (X * t0 + (d - X) * t1) * p.2
  grind
theorem rep_ch2 {d X Y t0 t1 t2 t3 w : Int} {p q : Int × Int} (hd : 0 < d) (hp : Rep d X p) (hq : Rep d Y q) : Rep d (w * cheap2 t0 t1 t2 t3 X Y d) (w * cheap2 t0 t1 t2 t3 (p.1 * q.2) (q.1 * p.2) (p.2 * q.2), p.2 * q.2) := by
  obtain ⟨p0, hp⟩ := hp
  obtain ⟨q0, hq⟩ := hq
  have k0 := Int.mul_pos p0 q0
  refine ⟨k0, ?_⟩
  show w * cheap2 t0 t1 t2 t3 (p.1 * q.2) (q.1 * p.2) (p.2 * q.2) * d = w * cheap2 t0 t1 t2 t3 X Y d * (p.2 * q.2)
  have e1 : p.1 * q.2 * d = (p.2 * q.2) * X := by grind
  have e2 : q.1 * p.2 * d = (p.2 * q.2) * Y := by grind
  have e3 : p.2 * q.2 * d = (p.2 * q.2) * d := rfl
  have e4 : cheap2 t0 t1 t2 t3 (p.1 * q.2) (q.1 * p.2) (p.2 * q.2) * d = (p.2 * q.2) * cheap2 t0 t1 t2 t3 X Y d := by
    unfold cheap2
    refine min_scale hd k0 (edge_scale e1 e2 e3 (max_scale hd k0 (by rw [Int.zero_mul, Int.mul_zero]) ?_)) (edge_scale e1 e2 e3 (min_scale hd k0 e1 e2))
    grind
  rw [Int.mul_assoc, e4]
  grind
end Lp
namespace Lp
/-! ### sizes of an instance's tableaus, and its end -/
theorem offN_bound {f : Nat → Nat} {c : Nat} (a : Nat) : ∀ {q : Nat}, (∀ t, t < q → f t ≤ c) → offN f a q ≤ a + q * c
  | 0, _ => by show a ≤ a + 0 * c; omega
  | q + 1, h => by
    show offN f a q + f q ≤ a + (q + 1) * c
    have := offN_bound (c := c) a (q := q) fun t ht => h t (by omega)
    have := h q (by omega)
    rw [Nat.succ_mul]; omega
section
variable {I : Ins}
theorem WF.M (w : WF I) : I.M ≤ 34 := by
  have h : I.M ≤ I.n + I.q * 6 := offN_bound I.n fun t ht => by
    rcases w.ar t ht with a | a <;> rcases w.s with b | b <;> rw [a, b] <;> decide
  have := w.n
  have := w.q
  omega
theorem WF.W (w : WF I) : I.W ≤ 57 := by
  have h : I.W ≤ I.n * I.s + I.q * 9 := offN_bound (I.n * I.s) fun t ht => by
    rw [w.ll ht]
    rcases w.ar t ht with a | a <;> rcases w.s with b | b <;> rw [a, b] <;> decide
  have := w.n
  have := w.q
  have : I.n * I.s ≤ 4 * 3 := Nat.mul_le_mul w.n (by rcases w.s with b | b <;> omega)
  omega
theorem col_cases (I : Ins) (P : Nat → Prop) (hb : ∀ j, j < I.n * I.s → P j) (hl : ∀ t a, t < I.q → a < I.ll t → P (I.st t + a)) : ∀ j, j < I.W → P j := by
  have key : ∀ q, q ≤ I.q → ∀ i, i < I.st q → P i := by
    intro q
    induction q with
    | zero => intro _ i hi; exact hb i hi
    | succ q ih =>
      intro hq i hi
      by_cases h : i < I.st q
      · exact ih (by omega) i h
      · have e : I.st (q + 1) = I.st q + I.ll q := rfl
        have := hl q (i - I.st q) (by omega) (by omega)
        have e3 : I.st q + (i - I.st q) = i := by omega
        rw [e3] at this
        exact this
  exact key I.q (Nat.le_refl _)
theorem WF.cb (w : WF I) {t : Nat} (a : Nat) (ht : t < I.q) : 0 ≤ I.c t a ∧ I.c t a ≤ 1000000 := by
  have h1 := w.tb t a ht
  have h2 := w.w t ht
  unfold Ins.c
  refine ⟨Int.mul_nonneg h1.1 (by omega), ?_⟩
  exact Int.le_trans (Int.mul_le_mul_of_nonneg_right h1.2 (by omega)) (Int.le_trans (Int.mul_le_mul_of_nonneg_left h2.2 (by decide)) (by decide))
theorem WF.costs (w : WF I) : ∀ j, j < I.W → 0 ≤ I.costs.getD j 0 ∧ I.costs.getD j 0 ≤ 1000000 :=
  col_cases I _ (fun j hj => by rw [costs_b I hj]; decide) fun t a ht ha => by rw [costs_t I ht ha]; exact w.cb a ht
abbrev csOf (I : Ins) : Nat → Int := fun j => I.costs.getD j 0
theorem pow6 : ∀ m, m < 35 → (6 : Int) ^ m ≤ 10 ^ 27 := by decide +kernel
theorem sixS (w : WF I) : ∀ i, i < (sysOf I).m → sumN ((sysOf I).n + (sysOf I).m + 1) (fun j => ab ((sysOf I).A i j)) ≤ 6 := six w
structure Small (I : Ins) (X : Tab) : Prop where
  T : ∀ k j, k < I.M → j < I.W + I.M + 1 → ab (X.T k j) ≤ 10 ^ 27
  G : ∀ g j, g < 2 → j < I.W + I.M + 1 → ab (X.G g j) ≤ 10 ^ 35
  d0 : 0 < X.scale
  d : X.scale ≤ 10 ^ 27
theorem small_of (w : WF I) {X : Tab} (V : LInv (sysOf I) (csOf I) X) : Small I X := by
  have hM := w.M
  have p6 := pow6 I.M (by omega)
  have m0 : (0 : Int) ≤ 6 := by decide
  have gb : ∀ (cf : Nat → Int) (g : Nat), GInv (sysOf I) cf X.T X.b X.scale (X.G g) → (∀ j, ab (cf j) ≤ 1000000) → ∀ j, j < I.W + I.M + 1 → ab (X.G g j) ≤ 10 ^ 35 := fun cf g J hC j hj => by
    have h := gsize V.I J m0 (sixS w) (by decide) hC hj
    have e : ((sysOf I).m : Int) = (I.M : Int) := rfl
    have e2 : (6 : Int) ^ (sysOf I).m = 6 ^ I.M := rfl
    rw [e, e2] at h
    refine Int.le_trans h ?_
    have h1 : (1000000 : Int) * 6 ^ I.M ≤ 1000000 * 10 ^ 27 := Int.mul_le_mul_of_nonneg_left p6 (by decide)
    have h2 : ((I.M : Int) + 1) * (1000000 * 6 ^ I.M) ≤ ((I.M : Int) + 1) * (1000000 * 10 ^ 27) := Int.mul_le_mul_of_nonneg_left h1 (by omega)
    refine Int.le_trans h2 ?_
    have h3 : ((I.M : Int) + 1) * (1000000 * 10 ^ 27) ≤ 35 * (1000000 * 10 ^ 27) := Int.mul_le_mul_of_nonneg_right (by omega) (by decide)
    exact Int.le_trans h3 (by decide)
  refine ⟨fun k j hk hj => Int.le_trans (V.size m0 (sixS w) hk hj) p6, fun g j hg hj => ?_, V.I.dpos, Int.le_trans (V.I.dbound m0 (sixS w)) p6⟩
  match g, hg with
  | 0, _ => exact gb _ 0 V.J0 (fun j => by unfold cf0; split <;> decide) j hj
  | 1, _ =>
    refine gb _ 1 V.J1 (fun j => ?_) j hj
    unfold cf1
    split
    · rename_i q
      have := w.costs j q
      show ab (I.costs.getD j 0) ≤ _
      rw [ab_pos this.1]; exact this.2
    · decide
/-- the end: lists of shares and prices, and what they are worth -/
def Tab.xs (X : Tab) (I : Ins) : List Int := (List.range I.W).map (xOf (sysOf I) X)
def Tab.ys (X : Tab) (I : Ins) : List Int := (List.range I.M).map (yOf (sysOf I) X)
def shO (I : Ins) (X : Tab) (nm v : Nat) : Int := xOf (sysOf I) X (nm * I.s + v)
def rsO (I : Ins) (X : Tab) (t a : Nat) : Int := xOf (sysOf I) X (I.st t + a)
def topO (I : Ins) (X : Tab) : Nat → Int := yOf (sysOf I) X
def prO (I : Ins) (X : Tab) (t p v : Nat) : Int := yOf (sysOf I) X (I.of t + (p * I.s + v))
structure Fin (I : Ins) (X : Tab) : Prop where
  C : Cert I (shO I X) (rsO I X) (topO I X) (prO I X) X.scale
  sm : Small I X
  x : ∀ j, j < I.W → ab (xOf (sysOf I) X j) ≤ 10 ^ 29
  y : ∀ i, i < I.M → ab (yOf (sysOf I) X i) ≤ 10 ^ 35
  tot : sumN I.W (fun j => xOf (sysOf I) X j * I.costs.getD j 0) = sumN I.n (topO I X)
  totb : ab (sumN I.n (topO I X)) ≤ 10 ^ 36
theorem fin_of (w : WF I) {X : Tab} (V : LInv (sysOf I) (csOf I) X) (Z : Z2 (sysOf I) X) (h : ∀ j, j < I.W → 0 ≤ X.G 1 j) : Fin I X := by
  obtain ⟨z, F⟩ := feas_of w
  have B := best F V Z h
  have C := cert_of w B
  have sm := small_of w V
  have hM := w.M
  have hy : ∀ i, i < I.M → ab (yOf (sysOf I) X i) ≤ 10 ^ 35 := fun i hi => by
    unfold yOf
    rw [ab_neg]
    exact sm.G 1 _ (by decide) (by show I.W + i < _; omega)
  refine ⟨C, sm, fun j hj => ?_, hy, ?_, ?_⟩
  · unfold xOf
    refine Int.le_trans (sumN_ab _ _) ?_
    refine Int.le_trans (sumN_le (g := fun _ => 10 ^ 27) fun k hk => ?_) ?_
    · split
      · exact sm.T k _ hk (by show I.W + I.M < _; omega)
      · decide
    · rw [sumN_const]
      have e : ((sysOf I).m : Int) = (I.M : Int) := rfl
      rw [e]
      have : (I.M : Int) * 10 ^ 27 ≤ 34 * 10 ^ 27 := Int.mul_le_mul_of_nonneg_right (by omega) (by decide)
      exact Int.le_trans this (by decide)
  · have e1 := C.tot
    have e2 : sumN I.W (fun j => xOf (sysOf I) X j * I.costs.getD j 0) = sumN I.q (fun t => sumN (I.ll t) (fun a => I.c t a * xOf (sysOf I) X (I.st t + a))) := by
      rw [col_sum, sumN_zero (n := I.n * I.s) (fun j hj => by rw [costs_b I hj, Int.mul_zero]), Int.zero_add]
      exact sumN_congr fun t ht => sumN_congr fun a ha => by rw [costs_t I ht ha, Int.mul_comm]
    rw [e2]
    exact e1
  · refine Int.le_trans (sumN_ab _ _) ?_
    have hn : I.n ≤ I.M := offN_ge _ _ _
    refine Int.le_trans (sumN_le (g := fun _ => 10 ^ 35) fun k hk => hy k (by omega)) ?_
    rw [sumN_const]
    have hn4 := w.n
    have : (I.n : Int) * 10 ^ 35 ≤ 4 * 10 ^ 35 := Int.mul_le_mul_of_nonneg_right (by omega) (by decide)
    exact Int.le_trans this (by decide)
end
end Lp
namespace KV
open PySem PySem.Spec PyProof.Rows L2
def topS (i : Nat) : Stmt := PySem.Challenge.pw_templates_k83_whole_relaxed_costs.main.body.getD i (.Pass ⟨0, 0, 0, 0⟩)
abbrev s_is_int : Stmt := topS 5
abbrev s_is_in : Stmt := topS 6
abbrev s_is_row : Stmt := topS 7
abbrev s_all_rows : Stmt := topS 8
abbrev s_power_of : Stmt := topS 10
abbrev s_place_of : Stmt := topS 11
abbrev s_tb_init : Stmt := inClass (topS 13) 0
abbrev s_tb_pivot : Stmt := inClass (topS 13) 1
abbrev s_tb_entering : Stmt := inClass (topS 13) 2
abbrev s_tb_leaving : Stmt := inClass (topS 13) 3
abbrev s_tb_run : Stmt := inClass (topS 13) 4
abbrev s_tb_drive_out : Stmt := inClass (topS 13) 5
abbrev s_tb_shares : Stmt := inClass (topS 13) 6
abbrev s_tb_prices : Stmt := inClass (topS 13) 7
abbrev s_lowered : Stmt := topS 14
abbrev s_least_sum : Stmt := topS 15
abbrev s_is_function : Stmt := topS 23
abbrev s_need_costs : Stmt := topS 24
abbrev s_is_term : Stmt := topS 25
abbrev s_need_terms : Stmt := topS 26
abbrev s_need_sum : Stmt := topS 27
abbrev s_cost_of : Stmt := topS 28
abbrev s_relaxation : Stmt := topS 29
abbrev s_ratio_of : Stmt := topS 30
abbrev s_relaxed : Stmt := topS 31
abbrev s_law_taken : Stmt := topS 33
abbrev s_law_pick : Stmt := topS 34
abbrev s_law_whole : Stmt := topS 35
abbrev s_law_rows : Stmt := topS 36
abbrev s_law_costs : Stmt := topS 37
abbrev s_law_terms : Stmt := topS 38
abbrev s_law_total : Stmt := topS 39
abbrev s_law_least : Stmt := topS 40
abbrev s_law_ratio : Stmt := topS 41
abbrev s_law_added : Stmt := topS 42
abbrev s_law_same : Stmt := topS 43
abbrev s_law_below : Stmt := topS 44
abbrev s_law_bounded : Stmt := topS 45
abbrev s_law_cheapest : Stmt := topS 46
abbrev s_law : Stmt := topS 47
/-- what the top has made of the text -/
structure Txt (K : PySem.W.Frag) (mg : Str → Option Value) where
  a_is_int : Addr
  d_is_int : FuncData
  F_is_int : Fun K "is_int" "is_int" s_is_int a_is_int d_is_int
  b_is_int : Binds K d_is_int ["value"] []
  g_is_int : mg "is_int" = some (.ref a_is_int)
  a_is_in : Addr
  d_is_in : FuncData
  F_is_in : Fun K "is_in" "is_in" s_is_in a_is_in d_is_in
  b_is_in : Binds K d_is_in ["value", "least", "most"] []
  g_is_in : mg "is_in" = some (.ref a_is_in)
  a_is_row : Addr
  d_is_row : FuncData
  F_is_row : Fun K "is_row" "is_row" s_is_row a_is_row d_is_row
  b_is_row : Binds K d_is_row ["size", "arity", "value"] []
  g_is_row : mg "is_row" = some (.ref a_is_row)
  a_all_rows : Addr
  d_all_rows : FuncData
  F_all_rows : Fun K "all_rows" "all_rows" s_all_rows a_all_rows d_all_rows
  b_all_rows : Binds K d_all_rows ["size", "arity"] []
  g_all_rows : mg "all_rows" = some (.ref a_all_rows)
  a_power_of : Addr
  d_power_of : FuncData
  F_power_of : Fun K "power_of" "power_of" s_power_of a_power_of d_power_of
  b_power_of : Binds K d_power_of ["size", "exponent"] []
  g_power_of : mg "power_of" = some (.ref a_power_of)
  a_place_of : Addr
  d_place_of : FuncData
  F_place_of : Fun K "place_of" "place_of" s_place_of a_place_of d_place_of
  b_place_of : Binds K d_place_of ["size", "arguments"] []
  g_place_of : mg "place_of" = some (.ref a_place_of)
  a_tb_init : Addr
  d_tb_init : FuncData
  F_tb_init : Fun K "__init__" "Tableau.__init__" s_tb_init a_tb_init d_tb_init
  b_tb_init : Binds K d_tb_init ["self", "rows", "dues", "costs"] []
  a_tb_pivot : Addr
  d_tb_pivot : FuncData
  F_tb_pivot : Fun K "pivot" "Tableau.pivot" s_tb_pivot a_tb_pivot d_tb_pivot
  b_tb_pivot : Binds K d_tb_pivot ["self", "at", "column"] []
  a_tb_entering : Addr
  d_tb_entering : FuncData
  F_tb_entering : Fun K "entering" "Tableau.entering" s_tb_entering a_tb_entering d_tb_entering
  b_tb_entering : Binds K d_tb_entering ["self", "goal"] []
  a_tb_leaving : Addr
  d_tb_leaving : FuncData
  F_tb_leaving : Fun K "leaving" "Tableau.leaving" s_tb_leaving a_tb_leaving d_tb_leaving
  b_tb_leaving : Binds K d_tb_leaving ["self", "column"] []
  a_tb_run : Addr
  d_tb_run : FuncData
  F_tb_run : Fun K "run" "Tableau.run" s_tb_run a_tb_run d_tb_run
  b_tb_run : Binds K d_tb_run ["self", "goal"] []
  a_tb_drive_out : Addr
  d_tb_drive_out : FuncData
  F_tb_drive_out : Fun K "drive_out" "Tableau.drive_out" s_tb_drive_out a_tb_drive_out d_tb_drive_out
  b_tb_drive_out : Binds K d_tb_drive_out ["self"] []
  a_tb_shares : Addr
  d_tb_shares : FuncData
  F_tb_shares : Fun K "shares" "Tableau.shares" s_tb_shares a_tb_shares d_tb_shares
  b_tb_shares : Binds K d_tb_shares ["self"] []
  a_tb_prices : Addr
  d_tb_prices : FuncData
  F_tb_prices : Fun K "prices" "Tableau.prices" s_tb_prices a_tb_prices d_tb_prices
  b_tb_prices : Binds K d_tb_prices ["self"] []
  a_lowered : Addr
  d_lowered : FuncData
  F_lowered : Fun K "lowered" "lowered" s_lowered a_lowered d_lowered
  b_lowered : Binds K d_lowered ["row", "head", "column", "center", "old"] []
  g_lowered : mg "lowered" = some (.ref a_lowered)
  a_least_sum : Addr
  d_least_sum : FuncData
  F_least_sum : Fun K "least_sum" "least_sum" s_least_sum a_least_sum d_least_sum
  b_least_sum : Binds K d_least_sum ["rows", "dues", "costs"] []
  g_least_sum : mg "least_sum" = some (.ref a_least_sum)
  a_is_function : Addr
  d_is_function : FuncData
  F_is_function : Fun K "is_function" "is_function" s_is_function a_is_function d_is_function
  b_is_function : Binds K d_is_function ["size", "value"] []
  g_is_function : mg "is_function" = some (.ref a_is_function)
  a_need_costs : Addr
  d_need_costs : FuncData
  F_need_costs : Fun K "need_costs" "need_costs" s_need_costs a_need_costs d_need_costs
  b_need_costs : Binds K d_need_costs ["value"] []
  g_need_costs : mg "need_costs" = some (.ref a_need_costs)
  a_is_term : Addr
  d_is_term : FuncData
  F_is_term : Fun K "is_term" "is_term" s_is_term a_is_term d_is_term
  b_is_term : Binds K d_is_term ["costs", "many", "value"] []
  g_is_term : mg "is_term" = some (.ref a_is_term)
  a_need_terms : Addr
  d_need_terms : FuncData
  F_need_terms : Fun K "need_terms" "need_terms" s_need_terms a_need_terms d_need_terms
  b_need_terms : Binds K d_need_terms ["costs", "value"] []
  g_need_terms : mg "need_terms" = some (.ref a_need_terms)
  a_need_sum : Addr
  d_need_sum : FuncData
  F_need_sum : Fun K "need_sum" "need_sum" s_need_sum a_need_sum d_need_sum
  b_need_sum : Binds K d_need_sum ["costs", "instance"] []
  g_need_sum : mg "need_sum" = some (.ref a_need_sum)
  a_cost_of : Addr
  d_cost_of : FuncData
  F_cost_of : Fun K "cost_of" "cost_of" s_cost_of a_cost_of d_cost_of
  b_cost_of : Binds K d_cost_of ["costs", "term", "row"] []
  g_cost_of : mg "cost_of" = some (.ref a_cost_of)
  a_relaxation : Addr
  d_relaxation : FuncData
  F_relaxation : Fun K "relaxation" "relaxation" s_relaxation a_relaxation d_relaxation
  b_relaxation : Binds K d_relaxation ["costs", "instance"] []
  g_relaxation : mg "relaxation" = some (.ref a_relaxation)
  a_ratio_of : Addr
  d_ratio_of : FuncData
  F_ratio_of : Fun K "ratio_of" "ratio_of" s_ratio_of a_ratio_of d_ratio_of
  b_ratio_of : Binds K d_ratio_of ["numerator", "denominator"] []
  g_ratio_of : mg "ratio_of" = some (.ref a_ratio_of)
  a_relaxed : Addr
  d_relaxed : FuncData
  F_relaxed : Fun K "relaxed" "relaxed" s_relaxed a_relaxed d_relaxed
  b_relaxed : Binds K d_relaxed ["costs", "instance"] []
  g_relaxed : mg "relaxed" = some (.ref a_relaxed)
  a_law_taken : Addr
  d_law_taken : FuncData
  F_law_taken : Fun K "_law_taken" "_law_taken" s_law_taken a_law_taken d_law_taken
  b_law_taken : Binds K d_law_taken ["_law_row", "_law_many"] []
  g_law_taken : mg "_law_taken" = some (.ref a_law_taken)
  a_law_pick : Addr
  d_law_pick : FuncData
  F_law_pick : Fun K "_law_pick" "_law_pick" s_law_pick a_law_pick d_law_pick
  b_law_pick : Binds K d_law_pick ["_law_row", "_law_things"] []
  g_law_pick : mg "_law_pick" = some (.ref a_law_pick)
  a_law_whole : Addr
  d_law_whole : FuncData
  F_law_whole : Fun K "_law_whole" "_law_whole" s_law_whole a_law_whole d_law_whole
  b_law_whole : Binds K d_law_whole ["_law_value", "_law_least_here", "_law_most"] []
  g_law_whole : mg "_law_whole" = some (.ref a_law_whole)
  a_law_rows : Addr
  d_law_rows : FuncData
  F_law_rows : Fun K "_law_rows" "_law_rows" s_law_rows a_law_rows d_law_rows
  b_law_rows : Binds K d_law_rows ["_law_size", "_law_arity"] []
  g_law_rows : mg "_law_rows" = some (.ref a_law_rows)
  a_law_costs : Addr
  d_law_costs : FuncData
  F_law_costs : Fun K "_law_costs" "_law_costs" s_law_costs a_law_costs d_law_costs
  b_law_costs : Binds K d_law_costs ["_law_row", "_law_size", "_law_many", "_law_most"] []
  g_law_costs : mg "_law_costs" = some (.ref a_law_costs)
  a_law_terms : Addr
  d_law_terms : FuncData
  F_law_terms : Fun K "_law_terms" "_law_terms" s_law_terms a_law_terms d_law_terms
  b_law_terms : Binds K d_law_terms ["_law_row", "_law_costs_here", "_law_variables", "_law_most", "_law_weight"] []
  g_law_terms : mg "_law_terms" = some (.ref a_law_terms)
  a_law_total : Addr
  d_law_total : FuncData
  F_law_total : Fun K "_law_total" "_law_total" s_law_total a_law_total d_law_total
  b_law_total : Binds K d_law_total ["_law_costs_here", "_law_instance", "_law_values"] []
  g_law_total : mg "_law_total" = some (.ref a_law_total)
  a_law_least : Addr
  d_law_least : FuncData
  F_law_least : Fun K "_law_least" "_law_least" s_law_least a_law_least d_law_least
  b_law_least : Binds K d_law_least ["_law_costs_here", "_law_instance"] []
  g_law_least : mg "_law_least" = some (.ref a_law_least)
  a_law_ratio : Addr
  d_law_ratio : FuncData
  F_law_ratio : Fun K "_law_ratio" "_law_ratio" s_law_ratio a_law_ratio d_law_ratio
  b_law_ratio : Binds K d_law_ratio ["_law_value"] []
  g_law_ratio : mg "_law_ratio" = some (.ref a_law_ratio)
  a_law_added : Addr
  d_law_added : FuncData
  F_law_added : Fun K "_law_added" "_law_added" s_law_added a_law_added d_law_added
  b_law_added : Binds K d_law_added ["_law_some"] []
  g_law_added : mg "_law_added" = some (.ref a_law_added)
  a_law_same : Addr
  d_law_same : FuncData
  F_law_same : Fun K "_law_same" "_law_same" s_law_same a_law_same d_law_same
  b_law_same : Binds K d_law_same ["_law_one", "_law_other"] []
  g_law_same : mg "_law_same" = some (.ref a_law_same)
  a_law_below : Addr
  d_law_below : FuncData
  F_law_below : Fun K "_law_below" "_law_below" s_law_below a_law_below d_law_below
  b_law_below : Binds K d_law_below ["_law_one", "_law_other"] []
  g_law_below : mg "_law_below" = some (.ref a_law_below)
  a_law_bounded : Addr
  d_law_bounded : FuncData
  F_law_bounded : Fun K "_law_bounded" "_law_bounded" s_law_bounded a_law_bounded d_law_bounded
  b_law_bounded : Binds K d_law_bounded ["_law_costs_here", "_law_instance", "_law_tops", "_law_prices"] []
  g_law_bounded : mg "_law_bounded" = some (.ref a_law_bounded)
  a_law_cheapest : Addr
  d_law_cheapest : FuncData
  F_law_cheapest : Fun K "_law_cheapest" "_law_cheapest" s_law_cheapest a_law_cheapest d_law_cheapest
  b_law_cheapest : Binds K d_law_cheapest ["_law_table", "_law_given", "_law_weight"] []
  g_law_cheapest : mg "_law_cheapest" = some (.ref a_law_cheapest)
  a_law : Addr
  d_law : FuncData
  F_law : Fun K "law" "law" s_law a_law d_law
  b_law : Binds K d_law ["_law_script"] []
  g_law : mg "law" = some (.ref a_law)
  t_MOST_COST : Tok
  c_MOST_COST : mg "MOST_COST" = some (.int 1000 t_MOST_COST)
  t_MOST_FUNCTIONS : Tok
  c_MOST_FUNCTIONS : mg "MOST_FUNCTIONS" = some (.int 4 t_MOST_FUNCTIONS)
  t_MOST_COST_SIZE : Tok
  c_MOST_COST_SIZE : mg "MOST_COST_SIZE" = some (.int 3 t_MOST_COST_SIZE)
  t_MOST_COST_ARITY : Tok
  c_MOST_COST_ARITY : mg "MOST_COST_ARITY" = some (.int 2 t_MOST_COST_ARITY)
  t_MOST_NAMES : Tok
  c_MOST_NAMES : mg "MOST_NAMES" = some (.int 8 t_MOST_NAMES)
  t_MOST_TERMS : Tok
  c_MOST_TERMS : mg "MOST_TERMS" = some (.int 40 t_MOST_TERMS)
  z_isinstance : mg "isinstance" = none
  z_int : mg "int" = none
  z_bool : mg "bool" = none
  z_tuple : mg "tuple" = none
  z_len : mg "len" = none
  z_all : mg "all" = none
  z_range : mg "range" = none
  z_enumerate : mg "enumerate" = none
  z_zip : mg "zip" = none
  z_list : mg "list" = none
  z_sum : mg "sum" = none
  z_abs : mg "abs" = none
  z_max : mg "max" = none
  z_min : mg "min" = none
  C : Addr
  cl : Cls K C
  mgC : mg "Tableau" = some (.ref C)
  mkC : Mk K C a_tb_init
  n_many : NoAttr K C "many"
  n_size : NoAttr K C "size"
  n_rows : NoAttr K C "rows"
  n_base : NoAttr K C "base"
  n_goals : NoAttr K C "goals"
  n_scale : NoAttr K C "scale"
  m_tb_pivot : Meth K C "pivot" a_tb_pivot
  m_tb_entering : Meth K C "entering" a_tb_entering
  m_tb_leaving : Meth K C "leaving" a_tb_leaving
  m_tb_run : Meth K C "run" a_tb_run
  m_tb_drive_out : Meth K C "drive_out" a_tb_drive_out
  m_tb_shares : Meth K C "shares" a_tb_shares
  m_tb_prices : Meth K C "prices" a_tb_prices

/-! ### heaps and data -/
theorem same_upd {H : Hp} {p : Addr} {o : HO} (h : H p = none) : Same H (upd H p o) := fun b x e => by
  rw [upd_ne (ne_of_none e h)]
  exact e
/-- tuples stand as they stood -/
def SameT (H H' : Hp) : Prop := ∀ b xs, Rd H b (.tup xs) → Rd H' b (.tup xs)
theorem Same.toT {H H' : Hp} (s : Same H H') : SameT H H' := fun b xs h => h.elim (fun e => .inl (s _ _ e)) fun ⟨o, e⟩ => .inr ⟨o, s _ _ e⟩
theorem SameT.refl (H : Hp) : SameT H H := fun _ _ h => h
theorem SameT.trans {H H1 H2 : Hp} (a : SameT H H1) (b : SameT H1 H2) : SameT H H2 := fun c xs h => b c xs (a c xs h)
/-- all but the things at some places stand as they stood -/
def SameX (R : Addr → Prop) (H H' : Hp) : Prop := ∀ b o, H b = some o → ¬ R b → H' b = some o
theorem SameX.refl (R : Addr → Prop) (H : Hp) : SameX R H H := fun _ _ h _ => h
theorem SameX.trans {R : Addr → Prop} {H H1 H2 : Hp} (a : SameX R H H1) (b : SameX R H1 H2) : SameX R H H2 := fun c o h n => b c o (a c o h n) n
theorem Same.toX {R : Addr → Prop} {H H' : Hp} (s : Same H H') : SameX R H H' := fun b o h _ => s b o h
theorem SameX.mono {R R' : Addr → Prop} {H H' : Hp} (s : SameX R H H') (h : ∀ b, R b → R' b) : SameX R' H H' := fun b o e n => s b o e fun z => n (h b z)
theorem SameX.upd {R : Addr → Prop} {H : Hp} {a : Addr} {o : HO} (h : R a) : SameX R H (upd H a o) := fun b u e n => by
  rw [upd_ne (fun z => n (by rw [z]; exact h))]; exact e
/-- what is no tuple may change -/
theorem SameX.toT {R : Addr → Prop} {H H' : Hp} (s : SameX R H H') (h : ∀ b, R b → ∀ xs, ¬ Rd H b (.tup xs)) : SameT H H' := fun b xs e => by
  have n : ¬ R b := fun z => h b z xs e
  exact e.elim (fun e => .inl (s _ _ e n)) fun ⟨o, e⟩ => .inr ⟨o, s _ _ e n⟩
theorem no_tup_lst {H : Hp} {a : Addr} {ys xs : List V} (h : H a = some (.lst ys)) : ¬ Rd H a (.tup xs) := fun z => by
  rcases z with z | ⟨o, z⟩ <;> rw [h] at z <;> cases z
theorem no_tup_ins {H : Hp} {a C dx : Addr} {fs : List (Str × V)} {xs : List V} (h : H a = some (.ins C dx fs)) : ¬ Rd H a (.tup xs) := fun z => by
  rcases z with z | ⟨o, z⟩ <;> rw [h] at z <;> cases z
theorem SameT.upd_lst {H : Hp} {a : Addr} {ys zs : List V} (h : H a = some (.lst ys)) : SameT H (upd H a (.lst zs)) :=
  SameX.toT (R := fun b => b = a) (SameX.upd rfl) fun b e xs => by rw [e]; exact no_tup_lst h
section
variable {K : PySem.W.Frag}
theorem SameT.seq {H H' : Hp} {a : Addr} {xs : List V} (s : SameT H H') (h : SqT K H a xs) : SqT K H' a xs := h.elim (fun e => .inl (s _ _ e)) .inr
theorem sqT {H : Hp} {a : Addr} {xs : List V} (h : H a = some (.tup xs)) : SqT K H a xs := .inl (.inl h)
theorem sqL {H : Hp} {a : Addr} {xs : List V} (h : H a = some (.lst xs)) : SqL K H a xs := .inl (.inl h)
theorem tyT {H : Hp} {a : Addr} {xs : List V} (h : SqT K H a xs) : TyX K H (.ref a) (.type "tuple") := by
  rcases h with (h | ⟨o, h⟩) | ⟨o, its, n, h, hc, _⟩
  · exact .base (.tup h)
  · exact .fTuple h
  · exact .kTuple h hc
end
/-- ints and tuples of such -/
inductive Dat where
  | i (n : Int)
  | t (ds : List Dat)
mutual
def At (K : PySem.W.Frag) (H : Hp) : Dat → V → Prop
  | .i n, v => v = .int n
  | .t ds, v => ∃ a vs, v = .ref a ∧ SqT K H a vs ∧ Ats K H ds vs
def Ats (K : PySem.W.Frag) (H : Hp) : List Dat → List V → Prop
  | [], vs => vs = []
  | d :: ds, vs => ∃ v r, vs = v :: r ∧ At K H d v ∧ Ats K H ds r
end
section
variable {K : PySem.W.Frag} {H H' : Hp}
mutual
theorem At.same (s : SameT H H') : ∀ {d : Dat} {v : V}, At K H d v → At K H' d v
  | .i n, v, h => h
  | .t ds, v, ⟨a, vs, e, q, h⟩ => ⟨a, vs, e, s.seq q, Ats.same s h⟩
theorem Ats.same (s : SameT H H') : ∀ {ds : List Dat} {vs : List V}, Ats K H ds vs → Ats K H' ds vs
  | [], vs, h => h
  | d :: ds, vs, ⟨v, r, e, h1, h2⟩ => ⟨v, r, e, At.same s h1, Ats.same s h2⟩
end
theorem Ats.length : ∀ {ds : List Dat} {vs : List V}, Ats K H ds vs → vs.length = ds.length
  | [], vs, h => by
    have h : vs = [] := h
    rw [h]; rfl
  | d :: ds, vs, ⟨v, r, e, h1, h2⟩ => by
    rw [e, List.length_cons, List.length_cons, Ats.length h2]
theorem Ats.get : ∀ {ds : List Dat} {vs : List V}, Ats K H ds vs → ∀ {j : Nat} {d : Dat}, ds[j]? = some d → ∃ v, vs[j]? = some v ∧ At K H d v
  | [], _, _, j, d, e => by simp at e
  | d :: ds, vs, ⟨v, r, e, h1, h2⟩, 0, d', q => by
    simp at q
    subst q
    exact ⟨v, by rw [e]; rfl, h1⟩
  | d :: ds, vs, ⟨v, r, e, h1, h2⟩, j + 1, d', q => by
    obtain ⟨u, hu, h⟩ := Ats.get h2 (j := j) (d := d') (by simpa using q)
    exact ⟨u, by rw [e]; simpa using hu, h⟩
theorem Ats.item {ds : List Dat} {vs : List V} (h : Ats K H ds vs) {j : Nat} {v : V} (e : vs[j]? = some v) : ∃ d, ds[j]? = some d ∧ At K H d v := by
  have hl := h.length
  have hj : j < vs.length := (List.getElem?_eq_some_iff.mp e).1
  obtain ⟨u, hu, q⟩ := h.get (j := j) (d := ds[j]'(by omega)) (List.getElem?_eq_getElem (by omega))
  rw [e] at hu
  cases hu
  exact ⟨_, List.getElem?_eq_getElem (by omega), q⟩
theorem Ats.append : ∀ {ds es : List Dat} {vs us : List V}, Ats K H ds vs → Ats K H es us → Ats K H (ds ++ es) (vs ++ us)
  | [], es, vs, us, h, h' => by
    have h : vs = [] := h
    rw [h]; exact h'
  | d :: ds, es, vs, us, ⟨v, r, e, h1, h2⟩, h' => ⟨v, r ++ us, by rw [e]; rfl, h1, Ats.append h2 h'⟩
theorem Ats.one {d : Dat} {v : V} (h : At K H d v) : Ats K H [d] [v] := ⟨v, [], rfl, h, rfl⟩
theorem Ats.ints : ∀ (ns : List Int), Ats K H (ns.map Dat.i) (ns.map V.int)
  | [] => rfl
  | n :: ns => ⟨.int n, _, rfl, rfl, Ats.ints ns⟩
theorem Ats.ints' : ∀ {ns : List Int} {vs : List V}, Ats K H (ns.map Dat.i) vs → vs = ns.map V.int
  | [], vs, h => h
  | n :: ns, vs, ⟨v, r, e, h1, h2⟩ => by
    have h1 : v = .int n := h1
    rw [e, h1, Ats.ints' h2]; rfl
/-- item j of a tuple of data -/
theorem At.tup {ds : List Dat} {v : V} (h : At K H (.t ds) v) : ∃ a vs, v = .ref a ∧ SqT K H a vs ∧ Ats K H ds vs := h
theorem at_i {n : Int} {v : V} (h : At K H (.i n) v) : v = .int n := h
end
end KV
namespace KV
open PySem PySem.Spec PyProof.Rows L2
/-! ### small helpers of the reading -/
/-- turns over the heap alone -/
theorem hp_it {J : It} {n : Nat} {G : Hp → Prop} {Y : Nat → Hp → V → Hp → Prop} (w : Walk J n G Y) {B : (Hp → Prop) → V → Hp → Prop} {H0 : Hp} {Qd : Hp → Prop} (Pv : Nat → Hp → Prop) (h0 : Pv 0 H0) (hG : ∀ i H, i ≤ n → Pv i H → G H)
    (hs : ∀ i x H H', i < n → Pv i H → Y i H x H' → B (Pv (i + 1)) x H') (hd : ∀ H, Pv n H → Qd H) :
    ∃ W : Nat → Nat → Hp → Prop, (∃ m, W 0 m H0) ∧ ∀ i m H, W i m H →
      (J.stop i H ∧ Qd H) ∨ (J.go i H ∧ ∃ Nx : Hp → Prop, (∀ H', Nx H' → ∃ m', m' < m ∧ W (i + 1) m' H') ∧ ∀ x H', J.yld i H x H' → B Nx x H') := by
  refine ⟨fun i m H => m = n - i ∧ i ≤ n ∧ Pv i H, ⟨n, by simp, Nat.zero_le _, h0⟩, ?_⟩
  rintro i m H ⟨rfl, hi, p⟩
  have q := hG i H hi p
  by_cases hlt : i < n
  · exact .inr ⟨w.goes i H hlt q, Pv (i + 1), fun H' p' => ⟨n - (i + 1), by omega, rfl, hlt, p'⟩, fun x H' y => hs i x H H' hlt p (w.yields i H x H' hlt q y)⟩
  · have e : i = n := by omega
    subst e
    exact .inl ⟨w.stops H q, hd H p⟩
/-- range(n): the i-th number is i -/
theorem walk_rg {n : Nat} : Walk (Itr 0 n) n (fun _ => True) (fun i H x H' => H' = H ∧ x = V.int (i : Int)) :=
  ⟨fun _ _ hi _ => hi, fun _ _ => Nat.le_refl _, fun _ _ _ _ _ _ y => ⟨y.1, by rw [y.2, Int.zero_add]⟩⟩
theorem same_put {H H1 : Hp} {D : Addr} {o : HO} (s : Same H H1) (h : H D = none) : Same H (upd H1 D o) := fun b u e => by
  rw [upd_ne (ne_of_none e h)]
  exact s b u e
theorem szl {n : Nat} (h : n ≤ 1000000) : n < sizeLine := Nat.lt_of_le_of_lt h (by decide)
theorem szl' {n : Nat} (h : n ≤ 1000000) : n ≤ sizeLine := Nat.le_of_lt (szl h)
theorem abs64 {n : Int} (h0 : -1000000000000000000 ≤ n) (h1 : n ≤ 1000000000000000000) : n.natAbs < 2 ^ 64 := by omega
def rowD (r : List Nat) : Dat := .t (r.map fun x : Nat => Dat.i (x : Int))
theorem at_row {K : PySem.W.Frag} {H : Hp} {r : List Nat} {v : V} (h : At K H (rowD r) v) : ∃ a, v = .ref a ∧ SqT K H a (r.map fun x : Nat => V.int (x : Int)) := by
  obtain ⟨a, vs, e, q, hs⟩ := h
  have e2 : (r.map fun x : Nat => Dat.i (x : Int)) = (r.map fun x : Nat => (x : Int)).map Dat.i := by rw [List.map_map]; rfl
  rw [e2] at hs
  rw [hs.ints', List.map_map] at q
  exact ⟨a, e, q⟩
theorem at_row_mk {K : PySem.W.Frag} {H : Hp} {r : List Nat} {a : Addr} (q : SqT K H a (r.map fun x : Nat => V.int (x : Int))) : At K H (rowD r) (.ref a) := by
  refine ⟨a, _, rfl, q, ?_⟩
  have e2 : (r.map fun x : Nat => Dat.i (x : Int)) = (r.map fun x : Nat => (x : Int)).map Dat.i := by rw [List.map_map]; rfl
  have e3 : (r.map fun x : Nat => V.int (x : Int)) = (r.map fun x : Nat => (x : Int)).map V.int := by rw [List.map_map]; rfl
  rw [e2, e3]
  exact Ats.ints _
/-! ### rules with the written part named (for use within comprehensions) -/
section
variable {X : Cx} {a b e : Expr} {es : List Expr} {ta tb te : TE} {t : TA} {tgs : TGs} {p pos : Pos} {f : Str} {k n : Nat}
theorem kix_list (K : PySem.W.Frag) (hK : X.K = K) (ha : PE X a ta) (hb : PE X b tb) (hs : PlainIx b) : PE X (.Subscript a b pos) (tOp (rIxL K) ta tb) := by
  subst hK; exact pe_ix ix_list ha hb hs
theorem kix_tup (K : PySem.W.Frag) (hK : X.K = K) (ha : PE X a ta) (hb : PE X b tb) (hs : PlainIx b) : PE X (.Subscript a b pos) (tOp (rIxT K) ta tb) := by
  subst hK; exact pe_ix ix_tup ha hb hs
theorem kfld (K : PySem.W.Frag) (hK : X.K = K) (ha : PE X e te) (hb : attributeBase e f X.env (eval e X.env) = eval e X.env) : PE X (.Attribute e f pos) (tFld K te f) := by
  subst hK; exact pe_fld ha hb
theorem kstar (K : PySem.W.Frag) (hK : X.K = K) (he : PE X e te) (hr : PA X es t) (hs : starEach (.Starred e p :: es) X.env = (true, eval e X.env) :: starEach es X.env := by rfl) : PA X (.Starred e p :: es) (StX.tStar K te t) := by
  subst hK; exact StX.pa_star he hr hs
theorem kg_tup (K : PySem.W.Frag) (hK : X.K = K) (hc : X.calm = true) (h : PGs X es tgs) (hn : (assignEach es X.env).length = n := by rfl) (hst : (assignEach es X.env).findIdx? (·.1) = none := by rfl) : PG X (.Tuple es k pos) (gTup K n tgs) := by
  subst hK; exact pg_tup hc h hn hst
def rLenS (K : PySem.W.Frag) : List V → Hp → VK → Prop := fun xs H Q => ∃ p ys, xs = [.ref p] ∧ (SqL K H p ys ∨ SqT K H p ys) ∧ Q (.int ys.length) H
theorem klen (K : PySem.W.Frag) (hK : X.K = K) : CallR X (.builtin "len") (rLenS K) := by
  subst hK; exact call_len_seq
theorem kop_catA (K : PySem.W.Frag) (hK : X.K = K) : OpR X (binaryOp .Add) (rCatA K) := by
  subst hK; exact op_catA
end
section
variable {P : Program} {w : World} {K : PySem.W.Frag} {mg : Str → Option Value} {base : Heap}
/-! ### is_int, is_in, is_row -/
theorem sc_is_int : FnScope ["value"] ["value"] (defScope s_is_int) := ⟨rfl, rfl, rfl, by decide +kernel, rfl, by decide +kernel, by decide +kernel⟩
def sp_is_int : Sp := fun vs H Q _ => ∃ n : Int, vs = [.int n] ∧ Q (.bl true) H
theorem ok_is_int (T : Txt K mg) : FnOk P w K mg base CX0 1 T.a_is_int T.d_is_int ["value"] sp_is_int := by
  refine T.F_is_int.ok sc_is_int (fun vs H Q E h => ?_) (fun cdv A outer s H vs Q E hr h => ?_)
  · obtain ⟨n, rfl, _⟩ := h; rfl
  · obtain ⟨n, rfl, q⟩ := h
    refine ⟨_, (pss_one (ps_ret (pe_and (pe_callB call_isi (by rfl) T.z_isinstance (by decide +kernel) (pa_cons (pv 0) (pa_cons (pe_bltn (v := .ty "int") (u := .type "int") (by rfl) T.z_int (by decide +kernel) rfl) pa_nil))) (pe_one (pe_not (pe_callB call_isi (by rfl) T.z_isinstance (by decide +kernel) (pa_cons (pv 0) (pa_cons (pe_bltn (v := .ty "bool") (u := .type "bool") (by rfl) T.z_bool (by decide +kernel) rfl) pa_nil)))))))), ?_⟩
    refine ⟨_, rfl, _, _, _, _, true, rfl, .ty "int", .base (.int n), kit_ty (by decide +kernel), true, rfl, iteT ?_⟩
    exact ⟨_, rfl, _, _, _, _, false, rfl, .ty "bool", .base (.int n), kit_ty (by decide +kernel), false, rfl, q⟩
theorem sc_is_in : FnScope ["value", "least", "most"] ["value", "least", "most"] (defScope s_is_in) := ⟨rfl, rfl, rfl, by decide +kernel, rfl, by decide +kernel, by decide +kernel⟩
def sp_is_in : Sp := fun vs H Q _ => ∃ n lo hi : Int, vs = [.int n, .int lo, .int hi] ∧ lo ≤ n ∧ n ≤ hi ∧ Q (.bl true) H
theorem ok_is_in (T : Txt K mg) : FnOk P w K mg base CX0 2 T.a_is_in T.d_is_in ["value", "least", "most"] sp_is_in := by
  have G_is_int : FnOk P w K mg base CX0 1 T.a_is_int T.d_is_int ["value"] sp_is_int := ok_is_int T
  refine T.F_is_in.ok sc_is_in (fun vs H Q E h => ?_) (fun cdv A outer s H vs Q E hr h => ?_)
  · obtain ⟨n, lo, hi, rfl, _⟩ := h; rfl
  · obtain ⟨n, lo, hi, rfl, h1, h2, q⟩ := h
    refine ⟨_, (pss_one (ps_ret (pe_and (pe_call G_is_int (hr.mono (by decide)) (by rfl) T.g_is_int T.F_is_int.kp T.b_is_int .nil pass0 (pa_cons (pv 0) pa_nil)) (pe_one (pe_chain op_le op_le (pv 1) (pv 0) (pv 2)))))), ?_⟩
    refine ⟨_, rfl, n, rfl, true, rfl, iteT ?_⟩
    refine ⟨_, rfl, _, rfl, _, _, rfl, rfl, true, congrArg V.bl (decide_eq_true h1), iteT ?_⟩
    refine ⟨_, rfl, _, _, rfl, rfl, ?_⟩
    show Q (V.bl (decide (n ≤ hi))) H
    rw [decide_eq_true h2]
    exact q
theorem sc_is_row : FnScope ["size", "arity", "value", "told"] ["size", "arity", "value"] (defScope s_is_row) := ⟨rfl, rfl, rfl, by decide +kernel, rfl, by decide +kernel, by decide +kernel⟩
/-- a tuple of so many ints below a size -/
def sp_is_row (K : PySem.W.Frag) : Sp := fun vs H Q _ => ∃ (s : Nat) (k : Nat) (a : Addr) (r : List Nat), vs = [.int s, .int k, .ref a] ∧ SqT K H a (r.map fun x : Nat => V.int (x : Int)) ∧ r.length = k ∧ k ≤ 1000 ∧ (∀ x, x ∈ r → x < s) ∧ ∀ H', Same H H' → Q (.bl true) H'
theorem ok_is_row (T : Txt K mg) : FnOk P w K mg base CX0 3 T.a_is_row T.d_is_row ["size", "arity", "value"] (sp_is_row K) := by
  have G_is_in : FnOk P w K mg base CX0 2 T.a_is_in T.d_is_in ["value", "least", "most"] sp_is_in := ok_is_in T
  refine T.F_is_row.ok sc_is_row (fun vs H Q E h => ?_) (fun cdv A outer s H vs Q E hr h => ?_)
  · obtain ⟨s, k, a, r, rfl, _⟩ := h; rfl
  · obtain ⟨z, k, a, r, rfl, hT, hl, hk, hx, q⟩ := h
    refine ⟨_, (pss_one (ps_ret (pe_and (pe_callB call_isi (by rfl) T.z_isinstance (by decide +kernel) (pa_cons (pv 2) (pa_cons (pe_bltn (v := .ty "tuple") (u := .type "tuple") (by rfl) T.z_tuple (by decide +kernel) rfl) pa_nil))) (pe_and (pe_cmpR op_eq (pe_callB call_len_seq (by rfl) T.z_len (by decide +kernel) (pa_cons (pv 2) pa_nil)) (pv 1) (nomark _)) (pe_one (pe_callB (cr_all rfl) (by rfl) T.z_all (by decide +kernel) (pa_cons (pe_lc (own := [("told", 3)]) (by rfl) sc_is_row.nd (pi_tup (pv 2)) (blkOk_by (own := [("told", 3)]) (N := ["size", "arity", "value", "told"]) (sc := defScope s_is_row) (by decide +kernel)) (fun _ _ _ _ _ => (pg_name (i := 3) sc_is_row.nd rfl (Or.inl rfl))) (fun _ _ _ _ _ => pts_nil) (fun _ _ _ _ _ => (pe_call G_is_in (hr.mono (by decide)) (by rfl) T.g_is_in T.F_is_in.kp T.b_is_in .nil pass0 (pa_cons (pv 3) (pa_cons pe_int (pa_cons (pe_op op_sub (pv 0) pe_int) pa_nil)))))) pa_nil))))))), ?_⟩
    refine ⟨_, rfl, _, _, _, _, true, rfl, .ty "tuple", tyT hT, kit_ty (by decide +kernel), true, rfl, iteT ?_⟩
    refine ⟨_, rfl, a, _, rfl, .inr hT, _, rfl, rfl, true, ?_, iteT ?_⟩
    · exact congrArg V.bl (decide_eq_true (by rw [List.length_map, hl]))
    -- all([is_in(told, 0, size - 1) for told in value])
    refine ⟨_, rfl, a, rfl, ⟨_, hT⟩, fun D hD => lc_it walk_tup (fun i H1 => Same H H1 ∧ H1 D = some (.lst ((List.replicate i true).map V.bl))) ?_ (fun i H1 _ h => (Same.toT h.1).seq hT) ?_ ?_⟩
    · exact ⟨same_upd hD, upd_same⟩
    · rintro i x H1 H1' hi ⟨h2, h3⟩ ⟨rfl, hxi⟩
      rw [List.getElem?_map] at hxi
      obtain ⟨y, hy, rfl⟩ := Option.map_eq_some_iff.mp hxi
      have hy2 := hx y (List.mem_of_getElem? hy)
      rw [List.length_map, hl] at hi
      refine ⟨rfl, _, rfl, _, rfl, _, _, rfl, rfl, (y : Int), 0, (z : Int) - 1, rfl, by omega, by omega, _, h3, szl ?_, same_put h2 hD, ?_⟩
      · rw [List.length_map, List.length_replicate]
        omega
      · rw [upd_same, List.replicate_succ', List.map_append]
        rfl
    · rintro H1 ⟨h2, h3⟩
      refine ⟨D, _, rfl, sqL h3, ?_⟩
      have e : (List.replicate (r.map fun x : Nat => V.int (x : Int)).length true).all id = true := by simp
      rw [e]
      exact q H1 h2
/-! ### power_of, place_of, all_rows -/
theorem sc_power_of : FnScope ["size", "exponent", "found", "turn"] ["size", "exponent"] (defScope s_power_of) := ⟨rfl, rfl, rfl, by decide +kernel, rfl, by decide +kernel, by decide +kernel⟩
def sp_power_of : Sp := fun vs H Q _ => ∃ z k : Nat, vs = [.int z, .int k] ∧ z ≤ 3 ∧ k ≤ 4 ∧ Q (.int ((z ^ k : Nat) : Int)) H
theorem ok_power_of (T : Txt K mg) : FnOk P w K mg base CX0 1 T.a_power_of T.d_power_of ["size", "exponent"] sp_power_of := by
  refine T.F_power_of.ok sc_power_of (fun vs H Q E h => ?_) (fun cdv A outer s H vs Q E hr h => ?_)
  · obtain ⟨z, k, rfl, _⟩ := h; rfl
  · obtain ⟨z, k, rfl, hz, hk, q⟩ := h
    refine ⟨_, (pss_cons (ps_set (i := 2) sc_power_of.nd rfl (Or.inl rfl) pe_int)
      (pss_cons (ps_for PassesOwn.never rfl (pi_range1 (by rfl) T.z_range (pa_cons (pv 1) pa_nil)) (pg_name (i := 3) sc_power_of.nd rfl (Or.inl rfl))
        (pss_one (ps_set (i := 2) sc_power_of.nd rfl (Or.inl rfl) (pe_op op_mulW (pv 2) (pv 0)))))
      (pss_one (ps_ret (pv 2))))), ?_⟩
    refine ⟨_, rfl, (k : Int), rfl, by omega, by omega, for_it (walk_rg (n := k)) (fun i σ H1 => ∃ v3 : Option V, σ = [some (.int z), some (.int k), some (.int ((z ^ i : Nat) : Int)), v3] ∧ H1 = H) ⟨none, rfl, rfl⟩ (fun _ _ _ _ _ => trivial) ?_ ?_⟩
    · rintro i x σ H1 H1' hi ⟨v3, rfl, rfl⟩ ⟨rfl, rfl⟩
      have hi' : i < k := hi
      have b1 : z ^ i ≤ 3 ^ 4 := Nat.le_trans (Nat.pow_le_pow_left hz i) (Nat.pow_le_pow_right (by decide) (by omega))
      refine ⟨_, rfl, _, rfl, _, _, rfl, rfl, wide_mul (a := 8) (b := 8) (by rw [Int.natAbs_natCast]; omega) (by rw [Int.natAbs_natCast]; omega) (by decide) (by decide) (by decide), ?_⟩
      refine ⟨some (.int (i : Int)), ?_, rfl⟩
      show [_, _, some (V.int (((z ^ i : Nat) : Int) * (z : Int))), _] = _
      rw [← Int.natCast_mul, ← Nat.pow_succ]
    · rintro σ H1 ⟨v3, rfl, rfl⟩
      exact ⟨_, rfl, q⟩
theorem sc_place_of : FnScope ["size", "arguments", "found", "argument"] ["size", "arguments"] (defScope s_place_of) := ⟨rfl, rfl, rfl, by decide +kernel, rfl, by decide +kernel, by decide +kernel⟩
def placeN (z : Nat) (r : List Nat) : Nat := r.foldl (fun x v => x * z + v) 0
def sp_place_of (K : PySem.W.Frag) : Sp := fun vs H Q _ => ∃ (z : Nat) (a : Addr) (r : List Nat), vs = [.int z, .ref a] ∧ SqT K H a (r.map fun x : Nat => V.int (x : Int)) ∧ z ≤ 3 ∧ r.length ≤ 2 ∧ (∀ x, x ∈ r → x < 3) ∧ Q (.int ((placeN z r : Nat) : Int)) H
theorem place_lt {z : Nat} (hz : z ≤ 3) : ∀ (r : List Nat) (x : Nat), r.length ≤ 2 → (∀ y, y ∈ r → y < 3) → x ≤ 1000 → r.foldl (fun x v => x * z + v) x ≤ 100000
  | [], x, _, _, h => by show x ≤ 100000; omega
  | [a], x, _, _, h => by
    show x * z + a ≤ 100000
    have := Nat.mul_le_mul h hz
    have := (‹∀ y, y ∈ [a] → y < 3›) a (by simp)
    omega
  | [a, b], x, _, hy, h => by
    show (x * z + a) * z + b ≤ 100000
    have h1 := hy a (by simp)
    have h2 := hy b (by simp)
    have h3 := Nat.mul_le_mul h hz
    have h4 := Nat.mul_le_mul (show x * z + a ≤ 3002 by omega) hz
    omega
  | _ :: _ :: _ :: _, _, h, _, _ => by simp at h
theorem ok_place_of (T : Txt K mg) : FnOk P w K mg base CX0 1 T.a_place_of T.d_place_of ["size", "arguments"] (sp_place_of K) := by
  refine T.F_place_of.ok sc_place_of (fun vs H Q E h => ?_) (fun cdv A outer s H vs Q E hr h => ?_)
  · obtain ⟨z, a, r, rfl, _⟩ := h; rfl
  · obtain ⟨z, a, r, rfl, hT, hz, hl, hx, q⟩ := h
    refine ⟨_, (pss_cons (ps_set (i := 2) sc_place_of.nd rfl (Or.inl rfl) pe_int)
      (pss_cons (ps_for PassesOwn.never rfl (pi_tup (pv 1)) (pg_name (i := 3) sc_place_of.nd rfl (Or.inl rfl))
        (pss_one (ps_set (i := 2) sc_place_of.nd rfl (Or.inl rfl) (pe_op op_add (pe_op op_mulW (pv 2) (pv 0)) (pv 3)))))
      (pss_one (ps_ret (pv 2))))), ?_⟩
    refine ⟨_, rfl, a, rfl, ⟨_, hT⟩, for_it walk_tup (fun i σ H1 => ∃ v3 : Option V, σ = [some (.int z), some (.ref a), some (.int ((placeN z (r.take i) : Nat) : Int)), v3] ∧ H1 = H) ⟨none, rfl, rfl⟩ (fun i σ H1 _ ⟨_, _, e⟩ => by rw [e]; exact hT) ?_ ?_⟩
    · rintro i x σ H1 H1' hi ⟨v3, rfl, rfl⟩ ⟨rfl, hxi⟩
      rw [List.getElem?_map] at hxi
      obtain ⟨y, hy, rfl⟩ := Option.map_eq_some_iff.mp hxi
      have hp : placeN z (r.take i) ≤ 100000 := place_lt hz _ 0 (by rw [List.length_take]; omega) (fun y hy => hx y (List.mem_of_mem_take hy)) (by decide)
      refine ⟨_, rfl, _, rfl, _, _, rfl, rfl, wide_mul (a := 20) (b := 8) (by rw [Int.natAbs_natCast]; omega) (by rw [Int.natAbs_natCast]; omega) (by decide) (by decide) (by decide), _, rfl, _, _, rfl, rfl, ?_⟩
      refine ⟨some (.int (y : Int)), ?_, rfl⟩
      rw [List.take_add_one, hy]
      unfold placeN
      rw [List.foldl_append]
      rfl
    · rintro σ H1 ⟨v3, rfl, rfl⟩
      refine ⟨_, rfl, ?_⟩
      rw [List.take_of_length_le (by rw [List.length_map]; exact Nat.le_refl _)]
      exact q
theorem sc_all_rows : FnScope ["size", "arity", "found", "turn", "row", "value"] ["size", "arity"] (defScope s_all_rows) := ⟨rfl, rfl, rfl, by decide +kernel, rfl, by decide +kernel, by decide +kernel⟩
def sp_all_rows (K : PySem.W.Frag) : Sp := fun vs H Q _ => ∃ z k : Nat, vs = [.int z, .int k] ∧ z ≤ 3 ∧ k ≤ 4 ∧ ∀ H' l vs', Same H H' → H l = none → H' l = some (.lst vs') → Ats K H' ((Lp.rowsN z k).map rowD) vs' → Q (.ref l) H'
theorem rowsN_len (z : Nat) : ∀ k, (Lp.rowsN z k).length = z ^ k
  | 0 => rfl
  | k + 1 => by
    have h : ∀ l : List (List Nat), (l.flatMap fun r => (List.range z).map fun v => r ++ [v]).length = l.length * z := by
      intro l
      induction l with
      | nil => simp
      | cons a l ih => rw [List.flatMap_cons, List.length_append, ih, List.length_map, List.length_range, List.length_cons, Nat.succ_mul]; omega
    show ((Lp.rowsN z k).flatMap _).length = z ^ (k + 1)
    rw [h, rowsN_len z k, Nat.pow_succ]
theorem rowsN_elt (z : Nat) : ∀ k, ∀ r ∈ Lp.rowsN z k, r.length = k
  | 0, r, h => by
    have e : r = [] := by simpa [Lp.rowsN] using h
    rw [e]; rfl
  | k + 1, r, h => by
    obtain ⟨r', h', hr⟩ := List.mem_flatMap.mp h
    obtain ⟨v, _, rfl⟩ := List.mem_map.mp hr
    rw [List.length_append, rowsN_elt z k r' h']; rfl
theorem ok_all_rows (T : Txt K mg) : FnOk P w K mg base CX0 1 T.a_all_rows T.d_all_rows ["size", "arity"] (sp_all_rows K) := by
  refine T.F_all_rows.ok sc_all_rows (fun vs H Q E h => ?_) (fun cdv A outer s H vs Q E hr h => ?_)
  · obtain ⟨z, k, rfl, _⟩ := h; rfl
  · obtain ⟨z, k, rfl, hz, hk, q⟩ := h
    refine ⟨_, (pss_cons (ps_set (i := 2) sc_all_rows.nd rfl (Or.inl rfl) (pe_lst (pa_cons (pe_tup pa_nil) pa_nil)))
      (pss_cons (ps_for PassesOwn.never rfl (pi_range1 (by rfl) T.z_range (pa_cons (pv 1) pa_nil)) (pg_name (i := 3) sc_all_rows.nd rfl (Or.inl rfl))
        (pss_one (ps_setLc2 (i := 2) (own := [("row", 4), ("value", 5)]) (vs1 := [5]) (by rfl) sc_all_rows.nd rfl rfl (sw_true rfl rfl rfl (by decide +kernel)) (pi_list (pv 2)) (blkOk_by (own := [("row", 4), ("value", 5)]) (N := ["size", "arity", "found", "turn", "row", "value"]) (sc := defScope s_all_rows) (by decide +kernel)) (by decide) (fun _ _ _ _ _ => (pg_name (i := 4) sc_all_rows.nd rfl (Or.inl rfl))) (fun _ _ _ _ _ => pts_nil) (fun _ _ _ _ _ => (pi_range1 (by rfl) T.z_range (pa_cons (pv 0) pa_nil))) (fun _ _ _ _ _ => (pg_name (i := 5) sc_all_rows.nd rfl (Or.inl rfl))) (fun _ _ _ _ _ => pts_nil) (fun _ _ _ _ _ => (pe_tup (kstar K rfl (pv 4) (pa_cons (pv 5) pa_nil)))))))
      (pss_one (ps_ret (pv 2))))), ?_⟩
    -- found = [()]
    refine ⟨Nat.zero_le _, fun t0 n0 => ⟨szl' (by show 1 ≤ 1000000; decide), fun l0 m0 => ?_⟩⟩
    have s0 : Same H (upd H t0 (.tup [])) := same_upd n0
    have s1 : Same (upd H t0 (.tup [])) (upd (upd H t0 (.tup [])) l0 (.lst [.ref t0])) := same_upd m0
    refine ⟨_, rfl, (k : Int), rfl, by omega, by omega, for_it (walk_rg (n := k)) (fun i σ H1 => ∃ (l : Addr) (vs' : List V) (v3 : Option V), σ = [some (.int z), some (.int k), some (.ref l), v3, none, none] ∧ Same H H1 ∧ H l = none ∧ H1 l = some (.lst vs') ∧ Ats K H1 ((Lp.rowsN z i).map rowD) vs')
      ⟨l0, [.ref t0], none, rfl, s0.trans s1, s0.free m0, upd_same, ⟨_, _, rfl, ⟨t0, [], rfl, sqT (s1 _ _ upd_same), rfl⟩, rfl⟩⟩ (fun _ _ _ _ _ => trivial) ?_ ?_⟩
    · rintro i x σ H1 H1' hi ⟨l, vs', v3, rfl, sm, nl, el, hA⟩ ⟨rfl, rfl⟩
      have hlen : vs'.length = z ^ i := by rw [hA.length, List.length_map, rowsN_len]
      have b1 : z ^ i ≤ 3 ^ 4 := Nat.le_trans (Nat.pow_le_pow_left hz i) (Nat.pow_le_pow_right (by decide) (by omega))
      -- [(*row, value) for row in found for value in range(size)]
      refine ⟨_, rfl, l, rfl, ⟨_, sqL el⟩, fun D hD => ?_⟩
      have hlD : l ≠ D := ne_of_none el hD
      refine hp_it walk_list (fun j H2 => ∃ acc, Same H1' H2 ∧ H2 D = some (.lst acc) ∧ Ats K H2 (((Lp.rowsN z i).take j).flatMap (fun r => (List.range z).map fun v => r ++ [v]) |>.map rowD) acc)
        ⟨[], same_upd hD, upd_same, rfl⟩ (fun j H2 _ ⟨_, s2, _⟩ => Same.seq s2 (sqL el)) ?_ ?_
      · rintro j x H2 H2' hj ⟨acc, s2, eD, hacc⟩ ⟨rfl, hxj⟩
        obtain ⟨dd, hd, hdx⟩ := hA.item hxj
        rw [List.getElem?_map] at hd
        obtain ⟨r, hr', rfl⟩ := Option.map_eq_some_iff.mp hd
        have hdx2 := At.same (Same.toT s2) hdx
        obtain ⟨ra, rfl, hra⟩ := at_row hdx2
        have hrl : r.length = i := rowsN_elt z i r (List.mem_of_getElem? hr')
        refine ⟨rfl, _, rfl, (z : Int), rfl, by omega, by omega, ?_⟩
        refine hp_it (walk_rg (n := z)) (fun v H3 => ∃ acc', Same H1' H3 ∧ SameT H2' H3 ∧ H3 D = some (.lst acc') ∧ Ats K H3 ((((Lp.rowsN z i).take j).flatMap (fun r => (List.range z).map fun v => r ++ [v]) ++ (List.range v).map fun v => r ++ [v]).map rowD) acc')
          ⟨acc, s2, SameT.refl _, eD, by simpa using hacc⟩ (fun _ _ _ _ => trivial) ?_ ?_
        · rintro v x H3 H3' hv ⟨acc', s3, s3t, eD3, hacc3⟩ ⟨rfl, rfl⟩
          refine ⟨rfl, _, rfl, ra, _, rfl, .inl (s3t.seq hra), _, rfl, ?_, fun p hp => ?_⟩
          · rw [List.length_append, List.length_map, hrl]
            exact szl' (by show i + 1 ≤ _; omega)
          · have nDp : D ≠ p := ne_of_none eD3 hp
            refine ⟨acc', by rw [upd_ne nDp]; exact eD3, szl ?_, ?_⟩
            · have hl3 := hacc3.length
              rw [List.length_map, List.length_append, List.length_map, List.length_range] at hl3
              have hf : ∀ l : List (List Nat), (l.flatMap fun r => (List.range z).map fun v => r ++ [v]).length = l.length * z := by
                intro l
                induction l with
                | nil => simp
                | cons a l ih => rw [List.flatMap_cons, List.length_append, ih, List.length_map, List.length_range, List.length_cons, Nat.succ_mul]; omega
              rw [hf, List.length_take] at hl3
              have h5 : min j (Lp.rowsN z i).length * z ≤ 81 * 3 := Nat.mul_le_mul (by rw [rowsN_len]; omega) hz
              omega
            · have sp : Same H3' (upd H3' p (.tup ((r.map fun x : Nat => V.int (x : Int)) ++ [.int (v : Int)]))) := same_upd hp
              refine ⟨acc' ++ [.ref p], same_put (s3.trans sp) hD, SameT.trans s3t (SameT.trans (Same.toT sp) (SameT.upd_lst (by rw [upd_ne nDp]; exact eD3))), upd_same, ?_⟩
              have er : (((Lp.rowsN z i).take j).flatMap (fun r => (List.range z).map fun v => r ++ [v]) ++ (List.range (v + 1)).map fun v => r ++ [v]).map rowD = (((Lp.rowsN z i).take j).flatMap (fun r => (List.range z).map fun v => r ++ [v]) ++ (List.range v).map fun v => r ++ [v]).map rowD ++ [rowD (r ++ [v])] := by
                simp [List.range_succ]
              rw [er]
              have st : SameT H3' (upd (upd H3' p (.tup ((r.map fun x : Nat => V.int (x : Int)) ++ [.int (v : Int)]))) D (.lst (acc' ++ [.ref p]))) := SameT.trans (Same.toT sp) (SameT.upd_lst (by rw [upd_ne nDp]; exact eD3))
              refine Ats.append (Ats.same st hacc3) (Ats.one (at_row_mk ?_))
              refine sqT ?_
              rw [upd_ne nDp.symm, upd_same, List.map_append]
              rfl
        · rintro H3 ⟨acc', s3, s3t, eD3, hacc3⟩
          refine ⟨acc', s3, eD3, ?_⟩
          rw [List.take_add_one, hr', List.flatMap_append]
          simpa using hacc3
      · rintro H2 ⟨acc, s2, eD, hacc⟩
        refine ⟨D, acc, some (.int (i : Int)), rfl, sm.trans s2, sm.free hD, eD, ?_⟩
        rw [List.take_of_length_le (by rw [rowsN_len, hlen]; exact Nat.le_refl _)] at hacc
        exact hacc
    · rintro σ H1 ⟨l, vs', v3, rfl, sm, nl, el, hA⟩
      exact ⟨_, rfl, q H1 l vs' sm nl el hA⟩
end
end KV
namespace KV
open PySem PySem.Spec PyProof.Rows L2
/-! ### enumerate(tuple), zip(tuple, list): the turns, made of the library's own draws -/
theorem enum_one {v : Value} {o : Obj} {G : Heap → Prop} (B : Begins v o G) :
    Meets (Builtin.«enumerate.__new__» ⟨[.type "enumerate", v], []⟩) (fun _ R s => G s.heap ∧
      R (.ok (.ret (.ref (s.heap.push o).objs.size))) { s with heap := (s.heap.push o).push { cls := .type "enumerate", data := .fields #[.none, .bool false, .ref s.heap.objs.size, rawInt 0, .none, .none] } }) :=
  .of_wp fun prog w A R s hh => by
    obtain ⟨hp, g, d, tk, os⟩ := s
    obtain ⟨g1, last⟩ := hh
    have hsub := sub_enumerate
    have it1 : ∀ {A' : Around} {E Q : Value → Shared → Prop}, Q (.ref hp.objs.size) ⟨hp.push o, g, d, tk, os⟩ → wpAny (model prog w) A' (pyIter v) Q E ⟨hp, g, d, tk, os⟩ :=
      fun z => B.iter prog w _ _ ⟨hp, g, d, tk, os⟩ _ g1 z
    wp_walk using it1
    refine wpAny_stack_any fun st => wpAny_pure ?_
    split
    · rename_i c _ _ _ _ _
      cases (c == Value.type "enumerate") <;> (wp_walk using it1; exact ⟨_, rfl, last⟩)
    · wp_walk using it1
      exact ⟨_, rfl, last⟩
theorem enum_call {prog : Program} {w : World} {A : Around} {E : Value → Shared → Prop} {s : Shared} {v : Value} {o : Obj} {G : Heap → Prop} {Q : Value → Shared → Prop} (B : Begins v o G) (g1 : G s.heap)
    (last : ∀ h', IsEnum h' (s.heap.objs.size + 1) s.heap.objs.size 0 .none → h'.get? s.heap.objs.size = some o → (∀ b u, s.heap.get? b = some u → h'.get? b = some u) → Q (.ref (s.heap.objs.size + 1)) { s with heap := h' }) :
    wpAny (model prog w) A (call (.type "enumerate") [v]) Q E s := by
  refine callType_new F.called_enumerate (by decide) (F.typeCall_enumerate_1 _) (F.newCall_enumerate_1 _) (fun obj => F.args_object_init_2 obj _) F.entry_enumerate_new (enum_one B) ⟨g1, ?_⟩
  have z : (s.heap.push o).objs.size = s.heap.objs.size + 1 := Heap.size_push ..
  show _ ∧ _
  rw [z]
  have here : IsEnum ((s.heap.push o).push { cls := .type "enumerate", data := .fields #[.none, .bool false, .ref s.heap.objs.size, rawInt 0, .none, .none] }) (s.heap.objs.size + 1) s.heap.objs.size 0 .none := by
    have q := Heap.get?_push_size (s.heap.push o) (o := { cls := .type "enumerate", data := .fields #[.none, .bool false, .ref s.heap.objs.size, rawInt 0, .none, .none] }) rfl
    rw [z] at q
    exact q
  exact ⟨⟨_, here, rfl⟩, last _ here (Heap.get?_push_of_some _ (Heap.get?_push_size _ B.free)) fun b u e => Heap.get?_push_of_some _ (Heap.get?_push_of_some _ e)⟩
theorem cls_ne {h : Heap} {a b : Addr} {o u : Obj} {x y : String} (ha : h.get? a = some o) (hb : h.get? b = some u) (ho : o.cls = .type x) (hu : u.cls = .type y) (n : x ≠ y) : a ≠ b := fun e => by
  subst e
  rw [ha] at hb
  cases hb
  rw [ho] at hu
  exact n (by injection hu)
/-- the tuple at a, each item with its number in a new pair -/
def Iet (K : PySem.W.Frag) (a : Addr) : It where
  go := fun i H => ∃ (xs : List V) (x : V), SqT K H a xs ∧ xs[i]? = some x
  yld := fun i H v H' => ∃ T x, v = .ref T ∧ H T = none ∧ H' = upd H T (.tup [.int (i : Nat), x]) ∧ ∀ xs, SqT K H a xs → xs[i]? = some x
  stop := fun i H => ∃ xs : List V, SqT K H a xs ∧ xs.length = i
theorem turn_et {P : Program} {w : World} {K : PySem.W.Frag} {elts : List Expr} {kk : Nat} {tpos : Pos} (a e it : Addr) :
    Turn P w K (.Tuple elts kk tpos) (Iet K a) [e, it] e (fun i h => (∃ old, IsEnum h e it ((i : Nat) : Int) old) ∧ h.IsTupleIter it a i) where
  mem := by simp
  obj := fun i h st b hb => by
    obtain ⟨⟨old, h1⟩, o, h2, _, h3⟩ := st
    rcases List.mem_cons.mp hb with z | z
    · rw [z]; exact ⟨_, h1, fun v q => nomatch q⟩
    · rw [List.mem_singleton.mp z]; exact ⟨o, h2, fun v q => by rw [h3] at q; cases q⟩
  keep := fun i h h' st k => by
    obtain ⟨⟨old, h1⟩, h2⟩ := st
    exact ⟨⟨old, k e (by simp) _ h1⟩, h2.at fun o q => k it (by simp) o q⟩
  item := by
    intro X hP hw hK hc i pins s σ H E I hf st hg
    subst hP hw hK
    obtain ⟨⟨old, he⟩, hit⟩ := st
    obtain ⟨xs, x, hq, hx⟩ := hg
    obtain ⟨its, rv, p, hz⟩ := I.tuple hq
    obtain ⟨u, hu, ru⟩ := rv.get hx
    have hlt : i < its.toArray.size := by
      have := (List.getElem?_eq_some_iff.mp hu).1
      simpa using this
    have hne : e ≠ it := by
      obtain ⟨o, h2, c2, _⟩ := id hit
      exact cls_ne he h2 rfl c2 (by decide)
    have hai : a ≠ it := by
      obtain ⟨o, h2, c2, _⟩ := id hit
      obtain ⟨o', h3, c3, _⟩ := id p
      exact cls_ne h3 h2 c3 c2 (by decide)
    have hea : e ≠ a := by
      obtain ⟨o', h3, c3, _⟩ := id p
      exact cls_ne he h3 rfl c3 (by decide)
    have hel : e < s.heap.objs.size := Heap.lt_size he
    have hil : it < s.heap.objs.size := by
      obtain ⟨_, q, _⟩ := id hit
      exact Heap.lt_size q
    refine wpAny_pyNext_enum_itemD (Draws.tuple (prog := X.prog) (w := X.w) (A := X.A.in1) (show X.A.in1.handled = none from I.ok.hd hc) it a hai its.toArray) he ⟨hit, p⟩ hlt hne (by simp [hne, hea]) fun y h' tk hy ho hs hT hsz hk => ?_
    have ey : y = u := by
      have h1 : its.toArray[i]? = some u := by simpa using hu
      have h2 : its.toArray[i]? = some y := hy
      rw [h1] at h2
      exact (Option.some.inj h2).symm
    subst ey
    refine ⟨_, rfl, wpAny_letOwnedTupleGo_enum (s := { s with heap := h', toks := tk + 1 }) ho fun h'' he' sb => ?_⟩
    have hT2 : h''.get? s.heap.objs.size = some { cls := .type "tuple", data := .seq #[.int i tk, y] } := (sb.2 _ (Nat.ne_of_gt hel)).trans hT
    have nw : ObjOk X.prog X.w (upd H s.heap.objs.size (.tup [.int (i : Nat), x])) h'' s.heap.objs.size (.tup [.int (i : Nat), x]) :=
      ⟨by show 2 ≤ sizeLine; decide, [.int i tk, y], .cons ⟨_, rfl⟩ (.cons ru .nil), ⟨_, hT2, rfl, _, rfl⟩⟩
    have I1 : Inv X pins σ (upd H s.heap.objs.size (.tup [.int (i : Nat), x])) { s with heap := h'', toks := tk + 1 } :=
      I.turnedNew (ch := [e, it]) (fun b ob hb q => (sb.2 b fun z => hb (by simp [z])).trans (hk b ob (fun z => hb (by simp [z])) (fun z => hb (by simp [z])) q)) hf (Nat.le_refl _) nw
    refine ⟨.ref s.heap.objs.size, _, I1, rfl, ⟨_, x, rfl, I.hok.fresh (Nat.le_refl _), rfl, fun ys hy => by rw [I.tuple_inj hy hq]; exact hx⟩, ⟨⟨y, ?_⟩, hs.1.at fun o q => (sb.2 it (Ne.symm hne)).trans q⟩, fun b hb => ?_⟩
    · rw [show ((i + 1 : Nat) : Int) = (i : Int) + 1 by omega]
      exact he'
    · have hb' : b < s.heap.objs.size := by
        rcases List.mem_cons.mp hb with z | z
        · rw [z]; exact hel
        · rw [List.mem_singleton.mp z]; exact hil
      rw [upd_ne (Nat.ne_of_lt hb')]
      exact (hf b hb).1
  done := by
    intro X hP hw hK hc i pins s σ H E I hf st hg
    subst hP hw hK
    obtain ⟨⟨old, he⟩, hit⟩ := st
    obtain ⟨xs, hq, hx⟩ := hg
    obtain ⟨its, rv, p, hz⟩ := I.tuple hq
    obtain ⟨f0, f1, f2, f3, f4, f5⟩ := hf it (by simp)
    have hl : its.toArray.size = i := by rw [List.size_toArray, ← rv.length, hx]
    have hai : a ≠ it := by
      obtain ⟨o, h2, c2, _⟩ := id hit
      obtain ⟨o', h3, c3, _⟩ := id p
      exact cls_ne h3 h2 c3 c2 (by decide)
    have st' : s.heap.IsTupleIter it a its.toArray.size ∧ s.heap.IsTuple a its.toArray := ⟨by rw [hl]; exact hit, p⟩
    exact wpAny_pyNext_enum_endD (Draws.tuple (prog := X.prog) (w := X.w) (A := X.A.in1) (show X.A.in1.handled = none from I.ok.hd hc) it a hai its.toArray) he st' fun h' eb => ⟨rfl, I.turned (t' := s.toks) (fun b o hb q => eb b o hb q) f0 f1 f3 f4 f5⟩
  self := fun A i s Q E st h => by
    obtain ⟨⟨old, h1⟩, h2⟩ := st
    exact wpAny_pyIter_enum h1 h
def iet (K : PySem.W.Frag) (ta : TA) : TI := fun σ H R => ta σ H fun vs H1 => ∃ a xs, vs = [.ref a] ∧ SqT K H1 a xs ∧ R (Iet K a) H1
theorem pi_enumT {X : Cx} {e : Expr} {ta : TA} {p pos tpos : Pos} {elts : List Expr} {kk : Nat} (hg : Gl X "enumerate") (hm : X.mg "enumerate" = none) (ha : PA X [e] ta) (hs : starEach [e] X.env = [(false, eval e X.env)] := by rfl) :
    PI X (.Tuple elts kk tpos) (.Call (.Name "enumerate" p) [e] [] pos) (iet X.K ta) := by
  constructor
  intro pins s σ H R I h
  refine Call_ (ld_blt I hg hm boot_enumerate (PyProof.Rows.callWith_type1 (thn (ha.run pos pins s σ H _ I h) fun us s1 ⟨vs, H1, I1, r1, a, xs, ex, hq, q⟩ => ?_) hs rfl))
  subst ex
  obtain ⟨u, rfl, ru⟩ : ∃ u, us = [u] ∧ RelV (.ref a) u := by
    cases r1 with
    | cons r rr => cases rr; exact ⟨_, rfl, r⟩
  cases ru
  obtain ⟨its, rv, p', hz⟩ := I1.tuple hq
  refine enum_call (begins_tuple a its.toArray) p' fun h' he hit hk => wpAny_pyIter_enum he ?_
  have I2 : Inv X pins σ H1 { s1 with heap := h' } := I1.kept (t' := s1.toks) hk
  refine ⟨s1.heap.objs.size + 1, [s1.heap.objs.size + 1, s1.heap.objs.size], _, _, H1, rfl, I2, turn_et a (s1.heap.objs.size + 1) s1.heap.objs.size, ⟨⟨.none, he⟩, _, hit, rfl, rfl⟩, fun b hb => ?_, q⟩
  have hle : s1.heap.objs.size ≤ b := by
    rcases List.mem_cons.mp hb with z | z
    · rw [z]; exact Nat.le_succ _
    · rw [List.mem_singleton.mp z]; exact Nat.le_refl _
  exact I1.fpOk hle (I1.hok.fresh hle)
theorem walk_et {K : PySem.W.Frag} {a : Addr} {xs : List V} : Walk (Iet K a) xs.length (fun H => SqT K H a xs) (YPair (fun i => some (.int (i : Nat))) (fun i => xs[i]?)) := by
  refine ⟨fun i _ hi q => ⟨xs, xs[i], q, List.getElem?_eq_getElem hi⟩, fun _ q => ⟨xs, q, rfl⟩, fun i H v H' _ q y => ?_⟩
  obtain ⟨T, x, h1, h2, h3, h4⟩ := y
  exact ⟨T, .int (i : Nat), x, h1, h2, h3, rfl, h4 xs q⟩
/-- zip of a tuple and a list of one length, the items in new pairs -/
def Izt (K : PySem.W.Frag) (a b : Addr) : It where
  go := fun i H => ∃ (xs ys : List V) (x y : V), SqT K H a xs ∧ SqL K H b ys ∧ xs[i]? = some x ∧ ys[i]? = some y
  yld := fun i H v H' => ∃ T x y, v = .ref T ∧ H T = none ∧ H' = upd H T (.tup [x, y]) ∧ (∀ xs, SqT K H a xs → xs[i]? = some x) ∧ ∀ ys, SqL K H b ys → ys[i]? = some y
  stop := fun i H => ∃ xs ys : List V, SqT K H a xs ∧ SqL K H b ys ∧ xs.length = i ∧ ys.length = i
theorem sep_of {h : Heap} {z TI TO i1 i2 a b : Addr} (hz : ∃ o, h.get? z = some o ∧ o.cls = .type "zip") (t1 : ∃ o, h.get? i1 = some o ∧ o.cls = .type "tuple_iterator") (t2 : ∃ o, h.get? i2 = some o ∧ o.cls = .type "list_iterator") (hT : ∃ o, h.get? TI = some o ∧ o.cls = .type "tuple")
    (hO : ∃ o, h.get? TO = some o ∧ o.cls = .type "tuple") (ha : ∃ o, h.get? a = some o ∧ o.cls = .type "tuple") (hb : ∃ o, h.get? b = some o ∧ o.cls = .type "list") (n1 : TI ≠ TO) (n2 : TO ≠ a) : ZipSep2 z TI TO i1 i2 [i1, a] [i2, b] := by
  obtain ⟨oz, ez, cz⟩ := hz
  obtain ⟨o1, e1, c1⟩ := t1
  obtain ⟨o2, e2, c2⟩ := t2
  obtain ⟨o3, e3, c3⟩ := hT
  obtain ⟨o4, e4, c4⟩ := hO
  obtain ⟨o5, e5, c5⟩ := ha
  obtain ⟨o6, e6, c6⟩ := hb
  have m2 : ∀ {x p q : Addr}, x ≠ p → x ≠ q → x ∉ [p, q] := fun h1 h2 m => by
    rcases List.mem_cons.mp m with e | m
    · exact h1 e
    · exact h2 (List.mem_singleton.mp m)
  exact ⟨cls_ne e3 ez c3 cz (by decide), cls_ne e4 ez c4 cz (by decide), n1, cls_ne e3 e1 c3 c1 (by decide), by simp, m2 (cls_ne ez e1 cz c1 (by decide)) (cls_ne ez e5 cz c5 (by decide)), m2 (cls_ne e4 e1 c4 c1 (by decide)) n2,
    cls_ne e3 e2 c3 c2 (by decide), by simp, m2 (cls_ne ez e2 cz c2 (by decide)) (cls_ne ez e6 cz c6 (by decide)), m2 (cls_ne e4 e2 c4 c2 (by decide)) (cls_ne e4 e6 c4 c6 (by decide)), m2 (cls_ne e1 e2 c1 c2 (by decide)) (cls_ne e1 e6 c1 c6 (by decide)), m2 (cls_ne e2 e1 c2 c1 (by decide)) (cls_ne e2 e5 c2 c5 (by decide))⟩
theorem turn_zt {P : Program} {w : World} {K : PySem.W.Frag} {elts : List Expr} {kk : Nat} {tpos : Pos} {a b z TI TO i1 i2 : Addr} (n1 : TI ≠ TO) (n2 : TO ≠ a) :
    Turn P w K (.Tuple elts kk tpos) (Izt K a b) [z, TI, TO, i1, i2] z (fun i h => IsZip h z TI TO .none ∧ IsTupOf2 h TI (.ref i1) (.ref i2) ∧ (∃ x y, IsTupOf2 h TO x y) ∧ h.IsTupleIter i1 a i ∧ h.IsListIter i2 b i) where
  mem := by simp
  obj := fun i h st c hc => by
    obtain ⟨hz, hTI, ⟨x, y, hTO⟩, ⟨o1, e1, _, d1⟩, ⟨o2, e2, _, d2⟩⟩ := st
    simp only [List.mem_cons, List.not_mem_nil, or_false] at hc
    rcases hc with q | q | q | q | q
    · rw [q]; exact ⟨_, hz, fun v q => nomatch q⟩
    · rw [q]; exact ⟨_, hTI, fun v q => nomatch q⟩
    · rw [q]; exact ⟨_, hTO, fun v q => nomatch q⟩
    · rw [q]; exact ⟨o1, e1, fun v q => by rw [d1] at q; cases q⟩
    · rw [q]; exact ⟨o2, e2, fun v q => by rw [d2] at q; cases q⟩
  keep := fun i h h' st k => ⟨k z (by simp) _ st.1, k TI (by simp) _ st.2.1, let ⟨x, y, hTO⟩ := st.2.2.1; ⟨x, y, k TO (by simp) _ hTO⟩, st.2.2.2.1.at fun o q => k i1 (by simp) o q, st.2.2.2.2.at fun o q => k i2 (by simp) o q⟩
  item := by
    intro X hP hw hK hc i pins s σ H E I hf st hg
    subst hP hw hK
    obtain ⟨hz, hTI, ⟨x0, y0, hTO⟩, h1, h2⟩ := st
    obtain ⟨xs, ys, x, y, hqx, hqy, hx, hy⟩ := hg
    obtain ⟨its, rv, p, _⟩ := I.tuple hqx
    obtain ⟨its2, rv2, p2, _⟩ := I.list hqy
    obtain ⟨u, hu, ru⟩ := rv.get hx
    obtain ⟨u2, hu2, ru2⟩ := rv2.get hy
    have l1 : i < its.toArray.size := by simpa using (List.getElem?_eq_some_iff.mp hu).1
    have l2 : i < its2.toArray.size := by simpa using (List.getElem?_eq_some_iff.mp hu2).1
    obtain ⟨o1, e1, c1, _⟩ := id h1
    obtain ⟨o2, e2, c2, _⟩ := id h2
    obtain ⟨o3, e3, c3, _⟩ := id p
    obtain ⟨o4, e4, c4, _⟩ := id p2.isList
    have S : ZipSep2 z TI TO i1 i2 [i1, a] [i2, b] := sep_of ⟨_, hz, rfl⟩ ⟨o1, e1, c1⟩ ⟨o2, e2, c2⟩ ⟨_, hTI, rfl⟩ ⟨_, hTO, rfl⟩ ⟨o3, e3, c3⟩ ⟨o4, e4, c4⟩ n1 n2
    have hzl : z < s.heap.objs.size := Heap.lt_size hz
    refine wpAny_pyNext_zipD2_item S (Draws.tuple (prog := X.prog) (w := X.w) (A := X.A.in1) (show X.A.in1.handled = none from I.ok.hd hc) i1 a (cls_ne e3 e1 c3 c1 (by decide)) its.toArray) (Draws.list (prog := X.prog) (w := X.w) (A := X.A.in1) (show X.A.in1.handled = none from I.ok.hd hc) i2 b (cls_ne e4 e2 c4 c2 (by decide)) its2.toArray) hz hTI hTO ⟨h1, p⟩ ⟨h2, p2.isList⟩ l1 l2 fun v1 v2 h' tk y1 y2 z' TO' s1' s2' hT hsz hk => ?_
    have ev1 : v1 = u := by
      have q1 : its.toArray[i]? = some u := by simpa using hu
      have q2 : its.toArray[i]? = some v1 := y1
      rw [q1] at q2
      exact (Option.some.inj q2).symm
    have ev2 : v2 = u2 := by
      have q1 : its2.toArray[i]? = some u2 := by simpa using hu2
      have q2 : its2.toArray[i]? = some v2 := y2
      rw [q1] at q2
      exact (Option.some.inj q2).symm
    subst ev1 ev2
    refine ⟨_, rfl, wpAny_letOwnedTupleGo_zip (s := { s with heap := h', toks := tk }) z' fun h'' z'' sb => ?_⟩
    have hT2 : h''.get? s.heap.objs.size = some { cls := .type "tuple", data := .seq #[v1, v2] } := (sb.2 _ (Nat.ne_of_gt hzl)).trans hT
    have nw : ObjOk X.prog X.w (upd H s.heap.objs.size (.tup [x, y])) h'' s.heap.objs.size (.tup [x, y]) :=
      ⟨by show 2 ≤ sizeLine; decide, [v1, v2], .cons ru (.cons ru2 .nil), ⟨_, hT2, rfl, _, rfl⟩⟩
    have I1 : Inv X pins σ (upd H s.heap.objs.size (.tup [x, y])) { s with heap := h'', toks := tk } :=
      I.turnedNew (ch := [z, TI, TO, i1, i2]) (fun c o hb q => (sb.2 c fun q' => hb (by simp [q'])).trans (hk c o (fun q' => hb (by simp [q'])) (fun q' => hb (by simp [q'])) (fun q' => hb (by simp [q'])) (fun q' => hb (by simp [q'])) q)) hf (Nat.le_refl _) nw
    refine ⟨.ref s.heap.objs.size, _, I1, rfl, ⟨_, x, y, rfl, I.hok.fresh (Nat.le_refl _), rfl, fun l hl => by rw [I.tuple_inj hl hqx]; exact hx, fun l hl => by rw [I.list_inj hl hqy]; exact hy⟩, ⟨z'', ?_, ⟨v1, v2, ?_⟩, ?_, ?_⟩, fun c hcm => ?_⟩
    · exact (sb.2 _ S.TIz).trans (hk _ _ S.TIz S.TITO S.TIi1 S.TIi2 hTI)
    · exact (sb.2 _ S.TOz).trans TO'
    · exact s1'.1.at fun o q => (sb.2 _ (Ne.symm S.zi1)).trans q
    · exact s2'.1.at fun o q => (sb.2 _ (Ne.symm S.zi2)).trans q
    · have hlt : c < s.heap.objs.size := by
        simp only [List.mem_cons, List.not_mem_nil, or_false] at hcm
        rcases hcm with q | q | q | q | q <;> rw [q]
        · exact hzl
        · exact Heap.lt_size hTI
        · exact Heap.lt_size hTO
        · exact Heap.lt_size e1
        · exact Heap.lt_size e2
      rw [upd_ne (Nat.ne_of_lt hlt)]
      exact (hf c hcm).1
  done := by
    intro X hP hw hK hc i pins s σ H E I hf st hg
    subst hP hw hK
    obtain ⟨hz, hTI, ⟨x0, y0, hTO⟩, h1, h2⟩ := st
    obtain ⟨xs, ys, hqx, hqy, hx, hy⟩ := hg
    obtain ⟨its, rv, p, _⟩ := I.tuple hqx
    obtain ⟨its2, rv2, p2, _⟩ := I.list hqy
    have l1 : its.toArray.size = i := by rw [List.size_toArray, ← rv.length, hx]
    have l2 : its2.toArray.size = i := by rw [List.size_toArray, ← rv2.length, hy]
    obtain ⟨o1, e1, c1, _⟩ := id h1
    obtain ⟨o2, e2, c2, _⟩ := id h2
    obtain ⟨o3, e3, c3, _⟩ := id p
    obtain ⟨o4, e4, c4, _⟩ := id p2.isList
    have S : ZipSep2 z TI TO i1 i2 [i1, a] [i2, b] := sep_of ⟨_, hz, rfl⟩ ⟨o1, e1, c1⟩ ⟨o2, e2, c2⟩ ⟨_, hTI, rfl⟩ ⟨_, hTO, rfl⟩ ⟨o3, e3, c3⟩ ⟨o4, e4, c4⟩ n1 n2
    exact wpAny_pyNext_zipD2_end S (Draws.tuple (prog := X.prog) (w := X.w) (A := X.A.in1) (show X.A.in1.handled = none from I.ok.hd hc) i1 a (cls_ne e3 e1 c3 c1 (by decide)) its.toArray) (Draws.list (prog := X.prog) (w := X.w) (A := X.A.in1) (show X.A.in1.handled = none from I.ok.hd hc) i2 b (cls_ne e4 e2 c4 c2 (by decide)) its2.toArray) hz hTI hTO ⟨h1, p⟩ ⟨h2, p2.isList⟩ (by omega) (by omega) (.inl l1.symm) fun h' tk hk =>
      ⟨rfl, I.turnedL (ch := [z, TI, TO, i1, i2]) (fun c o hb q => hk c o (fun q' => hb (by simp [q'])) (fun q' => hb (by simp [q'])) (fun q' => hb (by simp [q'])) (fun q' => hb (by simp [q'])) q) hf⟩
  self := fun A i s Q E st h => wpAny_pyIter_zip st.1 h
def izt (K : PySem.W.Frag) (ta : TA) : TI := fun σ H R => ta σ H fun vs H1 => ∃ a b xs ys, vs = [.ref a, .ref b] ∧ SqT K H1 a xs ∧ SqL K H1 b ys ∧ R (Izt K a b) H1
theorem pi_zipTL {X : Cx} {e e2 : Expr} {ta : TA} {p pos tpos : Pos} {elts : List Expr} {kk : Nat} (hg : Gl X "zip") (hm : X.mg "zip" = none) (ha : PA X [e, e2] ta)
    (hs : starEach [e, e2] X.env = (false, eval e X.env) :: starEach [e2] X.env := by rfl) (hpl : (backTo pos (starEach [e2] X.env)).any (·.1) = false := by rfl) : PI X (.Tuple elts kk tpos) (.Call (.Name "zip" p) [e, e2] [] pos) (izt X.K ta) := by
  constructor
  intro pins s σ H R I h
  refine Call_ (ld_blt I hg hm PyProof.Rows.boot_zip (PyProof.Rows.callWith_type1 (thn (ha.run pos pins s σ H _ I h) fun us s1 ⟨vs, H1, I1, r1, a, b, xs, ys, ex, hqx, hqy, q⟩ => ?_) hs hpl))
  subst ex
  obtain ⟨u1, u2, rfl, ru1, ru2⟩ : ∃ u1 u2, us = [u1, u2] ∧ RelV (.ref a) u1 ∧ RelV (.ref b) u2 := by
    cases r1 with
    | cons r rr =>
      cases rr with
      | cons r' rr => cases rr; exact ⟨_, _, rfl, r, r'⟩
  cases ru1
  cases ru2
  obtain ⟨its, rv, p1, _⟩ := I1.tuple hqx
  obtain ⟨its2, rv2, p2, _⟩ := I1.list hqy
  obtain ⟨o3, e3, _⟩ := id p1
  have hal : a < s1.heap.objs.size := Heap.lt_size e3
  have hne : s1.heap.objs.size + 3 ≠ a := Nat.ne_of_gt (Nat.lt_of_lt_of_le hal (Nat.le_add_right _ _))
  refine zip_begins2 (begins_tuple a its.toArray) (begins_list b its2.toArray) p1 p2.isList fun h' hz hTI hTO g1 g2 hsz hk => wpAny_pyIter_zip hz ?_
  have I2 : Inv X pins σ H1 { s1 with heap := h' } := I1.kept (t' := s1.toks) hk
  refine ⟨s1.heap.objs.size + 4, [s1.heap.objs.size + 4, s1.heap.objs.size + 2, s1.heap.objs.size + 3, s1.heap.objs.size, s1.heap.objs.size + 1], _, _, H1, rfl, I2, turn_zt (Nat.ne_of_lt (Nat.lt_succ_self _)) hne, ⟨hz, hTI, ⟨_, _, hTO⟩, ⟨_, g1, rfl, rfl⟩, ⟨_, g2, rfl, rfl⟩⟩, fun c hcm => ?_, q⟩
  have hle : s1.heap.objs.size ≤ c := by
    simp only [List.mem_cons, List.not_mem_nil, or_false] at hcm
    rcases hcm with e | e | e | e | e <;> rw [e] <;> first | exact Nat.le_refl _ | exact Nat.le_add_right _ _
  exact I1.fpOk hle (I1.hok.fresh hle)
theorem walk_zt {K : PySem.W.Frag} {a b : Addr} {xs ys : List V} (hl : ys.length = xs.length) : Walk (Izt K a b) xs.length (fun H => SqT K H a xs ∧ SqL K H b ys) (YPair (fun i => xs[i]?) (fun i => ys[i]?)) := by
  refine ⟨fun i _ hi q => ⟨xs, ys, xs[i], ys[i]'(by omega), q.1, q.2, List.getElem?_eq_getElem hi, List.getElem?_eq_getElem (by omega)⟩, fun _ q => ⟨xs, ys, q.1, q.2, rfl, hl⟩, fun i H v H' _ q y => ?_⟩
  obtain ⟨T, x, z, h1, h2, h3, h4, h5⟩ := y
  exact ⟨T, x, z, h1, h2, h3, h4 xs q.1, h5 ys q.2⟩
end KV
namespace KV
open PySem PySem.Spec PyProof.Rows L2
/-! ### costs and instances as data -/
def fnD (f : Nat × List Int) : Dat := .t [.i (f.1 : Int), .t (f.2.map Dat.i)]
def costsD (I : Lp.Ins) : Dat := .t [.i (I.s : Int), .t (I.fns.map fnD)]
def scD (r : List Nat) : Dat := rowD r
def trmD (t : Lp.Trm) : Dat := .t [.i (t.which : Int), rowD t.scope, .i t.w]
def insD (I : Lp.Ins) : Dat := .t [.i (I.n : Int), .t (I.terms.map trmD)]
/-- what the law draws -/
structure WF2 (I : Lp.Ins) : Prop where
  s : I.s = 2 ∨ I.s = 3
  n : I.n ≤ 4
  q : I.terms.length ≤ 5
  fl : I.fns.length ≤ 4
  f : ∀ f, f ∈ I.fns → (f.1 = 1 ∨ f.1 = 2) ∧ f.2.length = I.s ^ f.1 ∧ ∀ c, c ∈ f.2 → 0 ≤ c ∧ c ≤ 1000
  t : ∀ t, t ∈ I.terms → t.which < I.fns.length ∧ t.scope.length = (I.fns.getD t.which (0, [])).1 ∧ (∀ x, x ∈ t.scope → x < I.n) ∧ 1 ≤ t.w ∧ t.w ≤ 1000
theorem WF2.s3 {I : Lp.Ins} (w : WF2 I) : I.s ≤ 3 := by rcases w.s with e | e <;> omega
theorem WF2.fn {I : Lp.Ins} (w : WF2 I) {i : Nat} (h : i < I.fns.length) : I.fns[i]? = some (I.fns.getD i (0, [])) ∧ I.fns.getD i (0, []) ∈ I.fns := by
  have e : I.fns.getD i (0, []) = I.fns[i] := by simp [List.getD_eq_getElem?_getD, h]
  rw [e]
  exact ⟨List.getElem?_eq_getElem h, List.getElem_mem h⟩
theorem WF2.tm {I : Lp.Ins} (w : WF2 I) {i : Nat} (h : i < I.q) : I.terms[i]? = some (I.t i) ∧ I.t i ∈ I.terms := by
  have h' : i < I.terms.length := h
  have e : I.t i = I.terms[i] := by
    unfold Lp.Ins.t
    simp [List.getD_eq_getElem?_getD, h']
  rw [e]
  exact ⟨List.getElem?_eq_getElem h', List.getElem_mem h'⟩
theorem WF2.wf {I : Lp.Ins} (w : WF2 I) : Lp.WF I where
  s := w.s
  n := w.n
  q := w.q
  ar := fun i hi => by
    have ht := w.t _ (w.tm hi).2
    have hf := w.f _ (w.fn ht.1).2
    show (I.t i).scope.length = 1 ∨ (I.t i).scope.length = 2
    rw [ht.2.1]; exact hf.1
  sc := fun i p hi hp => by
    have ht := w.t _ (w.tm hi).2
    have hp' : p < (I.t i).scope.length := hp
    refine ht.2.2.1 _ ?_
    unfold Lp.Ins.sc
    rw [show (I.t i).scope.getD p 0 = (I.t i).scope[p] by simp [List.getD_eq_getElem?_getD, hp']]
    exact List.getElem_mem hp'
  w := fun i hi => (w.t _ (w.tm hi).2).2.2.2
  tl := fun i hi => by
    have ht := w.t _ (w.tm hi).2
    have hf := w.f _ (w.fn ht.1).2
    show (I.fns.getD (I.t i).which (0, [])).2.length = I.s ^ (I.t i).scope.length
    rw [ht.2.1]; exact hf.2.1
  tb := fun i a hi => by
    have ht := w.t _ (w.tm hi).2
    have hf := w.f _ (w.fn ht.1).2
    show 0 ≤ (I.fns.getD (I.t i).which (0, [])).2.getD a 0 ∧ _
    by_cases h : a < (I.fns.getD (I.t i).which (0, [])).2.length
    · exact hf.2.2 _ (by rw [Lp.getD_lt 0 h]; exact List.getElem_mem h)
    · have z : (I.fns.getD (I.t i).which (0, [])).2.getD a 0 = 0 := by rw [List.getD_eq_getElem?_getD, List.getElem?_eq_none (by omega)]; rfl
      have z' : (I.tab i).getD a 0 = 0 := z
      rw [z, z']; decide
section
variable {K : PySem.W.Frag} {H : Hp}
theorem At.ix {ds : List Dat} {v : V} (h : At K H (.t ds) v) : ∃ a vs, v = .ref a ∧ SqT K H a vs ∧ vs.length = ds.length ∧ Ats K H ds vs ∧ ∀ (j : Nat) d, ds[j]? = some d → ∃ u, atI vs (j : Int) = some u ∧ At K H d u := by
  obtain ⟨a, vs, e, q, hs⟩ := h
  refine ⟨a, vs, e, q, hs.length, hs, fun j d hd => ?_⟩
  obtain ⟨u, hu, hA⟩ := hs.get hd
  exact ⟨u, atI_nat hu, hA⟩
theorem at_ints {ns : List Int} {v : V} (h : At K H (.t (ns.map Dat.i)) v) : ∃ a, v = .ref a ∧ SqT K H a (ns.map V.int) := by
  obtain ⟨a, vs, e, q, hs⟩ := h
  rw [hs.ints'] at q
  exact ⟨a, e, q⟩
end
section
variable {P : Program} {w : World} {K : PySem.W.Frag} {mg : Str → Option Value} {base : Heap}
/-! ### is_function, need_costs -/
theorem sc_is_function : FnScope ["size", "value", "cost"] ["size", "value"] (defScope s_is_function) := ⟨rfl, rfl, rfl, by decide +kernel, rfl, by decide +kernel, by decide +kernel⟩
def sp_is_function (K : PySem.W.Frag) : Sp := fun vs H Q _ => ∃ (z : Nat) (f : Nat × List Int) (v : V), vs = [.int z, v] ∧ At K H (fnD f) v ∧ z ≤ 3 ∧ (f.1 = 1 ∨ f.1 = 2) ∧ f.2.length = z ^ f.1 ∧ (∀ c, c ∈ f.2 → 0 ≤ c ∧ c ≤ 1000) ∧ ∀ H', Same H H' → Q (.bl true) H'
theorem ok_is_function (T : Txt K mg) : FnOk P w K mg base CX0 3 T.a_is_function T.d_is_function ["size", "value"] (sp_is_function K) := by
  have G_is_in : FnOk P w K mg base CX0 2 T.a_is_in T.d_is_in ["value", "least", "most"] sp_is_in := ok_is_in T
  have G_power_of : FnOk P w K mg base CX0 1 T.a_power_of T.d_power_of ["size", "exponent"] sp_power_of := ok_power_of T
  refine T.F_is_function.ok sc_is_function (fun vs H Q E h => ?_) (fun cdv A outer s H vs Q E hr h => ?_)
  · obtain ⟨z, f, v, rfl, _⟩ := h; rfl
  · obtain ⟨z, f, v, rfl, hA, hz, hf1, hf2, hf3, q⟩ := h
    obtain ⟨a, us, rfl, hT, hl, _, hi⟩ := hA.ix
    obtain ⟨u0, e0, h0⟩ := hi 0 _ rfl
    obtain rfl := at_i h0
    obtain ⟨u1, e1, h1⟩ := hi 1 _ rfl
    obtain ⟨b, rfl, hb⟩ := at_ints h1
    have b9 : z ^ f.1 ≤ 9 := by
      have : z ^ f.1 ≤ 3 ^ f.1 := Nat.pow_le_pow_left hz _
      rcases hf1 with e | e <;> rw [e] at this ⊢ <;> omega
    refine ⟨_, (pss_cons (ps_if (PW.pt (pw_or (pt_not (pt_val (pe_callB call_isi (by rfl) T.z_isinstance (by decide +kernel) (pa_cons (pv 1) (pa_cons (pe_bltn (v := .ty "tuple") (u := .type "tuple") (by rfl) T.z_tuple (by decide +kernel) rfl) pa_nil))))) (pw_or (pt_cmpR op_ne (pe_callB call_len_seq (by rfl) T.z_len (by decide +kernel) (pa_cons (pv 1) pa_nil)) pe_int (nomark _)) (pw_or1 (pt_not (pt_val (pe_call G_is_in (hr.mono (by decide)) (by rfl) T.g_is_in T.F_is_in.kp T.b_is_in .nil pass0 (pa_cons (pe_ix ix_tup (pv 1) pe_int (fun _ _ => rfl)) (pa_cons pe_int (pa_cons (pe_glob (v := .int 2) (by rfl) T.c_MOST_COST_ARITY ⟨_, rfl⟩) pa_nil))))))))))
        (pss_one (ps_ret pe_bl))
        pss_nil)
      (pss_cons (ps_if (PW.pt (pw_or (pt_not (pt_val (pe_callB call_isi (by rfl) T.z_isinstance (by decide +kernel) (pa_cons (pe_ix ix_tup (pv 1) pe_int (fun _ _ => rfl)) (pa_cons (pe_bltn (v := .ty "tuple") (u := .type "tuple") (by rfl) T.z_tuple (by decide +kernel) rfl) pa_nil))))) (pw_or1 (pt_cmpR op_ne (pe_callB call_len_seq (by rfl) T.z_len (by decide +kernel) (pa_cons (pe_ix ix_tup (pv 1) pe_int (fun _ _ => rfl)) pa_nil)) (pe_call G_power_of (hr.mono (by decide)) (by rfl) T.g_power_of T.F_power_of.kp T.b_power_of .nil pass0 (pa_cons (pv 0) (pa_cons (pe_ix ix_tup (pv 1) pe_int (fun _ _ => rfl)) pa_nil))) (nomark _)))))
        (pss_one (ps_ret pe_bl))
        pss_nil)
      (pss_one (ps_ret (pe_callB (cr_all rfl) (by rfl) T.z_all (by decide +kernel) (pa_cons (pe_lc (own := [("cost", 2)]) (by rfl) sc_is_function.nd (pi_tup (pe_ix ix_tup (pv 1) pe_int (fun _ _ => rfl))) (blkOk_by (own := [("cost", 2)]) (N := ["size", "value", "cost"]) (sc := defScope s_is_function) (by decide +kernel)) (fun _ _ _ _ _ => (pg_name (i := 2) sc_is_function.nd rfl (Or.inl rfl))) (fun _ _ _ _ _ => pts_nil) (fun _ _ _ _ _ => (pe_call G_is_in (hr.mono (by decide)) (by rfl) T.g_is_in T.F_is_in.kp T.b_is_in .nil pass0 (pa_cons (pv 2) (pa_cons pe_int (pa_cons (pe_glob (v := .int 1000) (by rfl) T.c_MOST_COST ⟨_, rfl⟩) pa_nil)))))) pa_nil)))))), ?_⟩
    refine ⟨_, rfl, _, _, _, _, true, rfl, .ty "tuple", tyT hT, kit_ty (by decide +kernel), true, rfl, ?_⟩
    refine ⟨_, rfl, a, us, rfl, .inr hT, rfl, _, rfl, iteNS (by rw [hl]; rfl) ?_⟩
    refine ⟨_, rfl, a, us, 0, _, rfl, rfl, hT, e0, (f.1 : Int), 1, 2, rfl, by omega, by omega, true, rfl, ?_⟩
    -- the second test
    refine ⟨_, rfl, a, us, 1, _, rfl, rfl, hT, e1, _, _, _, _, true, rfl, .ty "tuple", tyT hb, kit_ty (by decide +kernel), true, rfl, ?_⟩
    refine ⟨_, rfl, a, us, 1, _, rfl, rfl, hT, e1, b, _, rfl, .inr hb, _, rfl, _, rfl, a, us, 0, _, rfl, rfl, hT, e0, z, f.1, rfl, hz, by omega, rfl, _, rfl, iteNS ?_ ?_⟩
    · rw [List.length_map, hf2]
    -- all([..])
    refine ⟨_, rfl, a, us, 1, _, rfl, rfl, hT, e1, b, rfl, ⟨_, hb⟩, fun D hD => lc_it walk_tup (fun i H1 => Same H H1 ∧ H1 D = some (.lst ((List.replicate i true).map V.bl))) ⟨same_upd hD, upd_same⟩ (fun i H1 _ h => (Same.toT h.1).seq hb) ?_ ?_⟩
    · rintro i x H1 H1' hi ⟨h2, h3⟩ ⟨rfl, hxi⟩
      rw [List.getElem?_map] at hxi
      obtain ⟨y, hy, rfl⟩ := Option.map_eq_some_iff.mp hxi
      have hy2 := hf3 y (List.mem_of_getElem? hy)
      rw [List.length_map, hf2] at hi
      refine ⟨rfl, _, rfl, y, 0, 1000, rfl, hy2.1, hy2.2, _, h3, szl ?_, same_put h2 hD, ?_⟩
      · rw [List.length_map, List.length_replicate]; omega
      · rw [upd_same, List.replicate_succ', List.map_append]; rfl
    · rintro H1 ⟨h2, h3⟩
      refine ⟨D, _, rfl, sqL h3, ?_⟩
      have e : (List.replicate (f.2.map V.int).length true).all id = true := by simp
      rw [e]
      exact q H1 h2
theorem sc_need_costs : FnScope ["value", "index", "function"] ["value"] (defScope s_need_costs) := ⟨rfl, rfl, rfl, by decide +kernel, rfl, by decide +kernel, by decide +kernel⟩
def sp_need_costs (K : PySem.W.Frag) : Sp := fun vs H Q _ => ∃ (I : Lp.Ins) (v : V), vs = [v] ∧ At K H (costsD I) v ∧ WF2 I ∧ ∀ H', Same H H' → Q .non H'
theorem ok_need_costs (T : Txt K mg) : FnOk P w K mg base CX0 4 T.a_need_costs T.d_need_costs ["value"] (sp_need_costs K) := by
  have G_is_in : FnOk P w K mg base CX0 2 T.a_is_in T.d_is_in ["value", "least", "most"] sp_is_in := ok_is_in T
  have G_is_function : FnOk P w K mg base CX0 3 T.a_is_function T.d_is_function ["size", "value"] (sp_is_function K) := ok_is_function T
  refine T.F_need_costs.ok sc_need_costs (fun vs H Q E h => ?_) (fun cdv A outer s H vs Q E hr h => ?_)
  · obtain ⟨I, v, rfl, _⟩ := h; rfl
  · obtain ⟨I, v, rfl, hA, w, q⟩ := h
    obtain ⟨a, us, rfl, hT, hl, _, hi⟩ := hA.ix
    obtain ⟨u0, e0, h0⟩ := hi 0 _ rfl
    obtain rfl := at_i h0
    obtain ⟨u1, e1, h1⟩ := hi 1 _ rfl
    obtain ⟨b, fs, rfl, hb, hfl, hfs, _⟩ := h1.ix
    rw [List.length_map] at hfl
    have hw := w.fl
    have hs := w.s3
    refine ⟨_, (pss_cons (ps_if (PW.pt (pw_or (pt_not (pt_val (pe_callB call_isi (by rfl) T.z_isinstance (by decide +kernel) (pa_cons (pv 0) (pa_cons (pe_bltn (v := .ty "tuple") (u := .type "tuple") (by rfl) T.z_tuple (by decide +kernel) rfl) pa_nil))))) (pw_or (pt_cmpR op_ne (pe_callB call_len_seq (by rfl) T.z_len (by decide +kernel) (pa_cons (pv 0) pa_nil)) pe_int (nomark _)) (pw_or1 (pt_not (pt_val (pe_call G_is_in (hr.mono (by decide)) (by rfl) T.g_is_in T.F_is_in.kp T.b_is_in .nil pass0 (pa_cons (pe_ix ix_tup (pv 0) pe_int (fun _ _ => rfl)) (pa_cons pe_int (pa_cons (pe_glob (v := .int 3) (by rfl) T.c_MOST_COST_SIZE ⟨_, rfl⟩) pa_nil))))))))))
        (pss_one ps_never)
        pss_nil)
      (pss_cons (ps_if (PW.pt (pw_or (pt_not (pt_val (pe_callB call_isi (by rfl) T.z_isinstance (by decide +kernel) (pa_cons (pe_ix ix_tup (pv 0) pe_int (fun _ _ => rfl)) (pa_cons (pe_bltn (v := .ty "tuple") (u := .type "tuple") (by rfl) T.z_tuple (by decide +kernel) rfl) pa_nil))))) (pw_or1 (pt_cmpR op_gt (pe_callB call_len_seq (by rfl) T.z_len (by decide +kernel) (pa_cons (pe_ix ix_tup (pv 0) pe_int (fun _ _ => rfl)) pa_nil)) (pe_glob (v := .int 4) (by rfl) T.c_MOST_FUNCTIONS ⟨_, rfl⟩) (nomark _)))))
        (pss_one ps_never)
        pss_nil)
      (pss_one (ps_for PassesOwn.never rfl (pi_enumT (by rfl) T.z_enumerate (pa_cons (pe_ix ix_tup (pv 0) pe_int (fun _ _ => rfl)) pa_nil)) (pg_tup rfl (pgs_cons (pg_name (i := 1) sc_need_costs.nd rfl (Or.inl rfl)) (pgs_cons (pg_name (i := 2) sc_need_costs.nd rfl (Or.inl rfl)) pgs_nil)))
        (pss_one (ps_if (pt_not (pt_val (pe_call G_is_function (hr.mono (by decide)) (by rfl) T.g_is_function T.F_is_function.kp T.b_is_function .nil pass0 (pa_cons (pe_ix ix_tup (pv 0) pe_int (fun _ _ => rfl)) (pa_cons (pv 2) pa_nil)))))
            (pss_one ps_never)
            pss_nil)))))), ?_⟩
    refine ⟨_, rfl, _, _, _, _, true, rfl, .ty "tuple", tyT hT, kit_ty (by decide +kernel), true, rfl, ?_⟩
    refine ⟨_, rfl, a, us, rfl, .inr hT, rfl, _, rfl, iteNS (by rw [hl]; rfl) ?_⟩
    refine ⟨_, rfl, a, us, 0, _, rfl, rfl, hT, e0, (I.s : Int), 1, 3, rfl, by have := w.s; omega, by omega, true, rfl, ?_⟩
    refine ⟨_, rfl, a, us, 1, _, rfl, rfl, hT, e1, _, _, _, _, true, rfl, .ty "tuple", tyT hb, kit_ty (by decide +kernel), true, rfl, ?_⟩
    refine ⟨_, rfl, a, us, 1, _, rfl, rfl, hT, e1, b, _, rfl, .inr hb, _, _, rfl, rfl, _, rfl, ?_⟩
    show if decide ((4 : Int) < (fs.length : Int)) = true then _ else _
    rw [decide_eq_false (by omega)]
    -- the functions in turn
    refine ⟨_, rfl, a, us, 1, _, rfl, rfl, hT, e1, b, fs, rfl, hb, for_it walk_et (fun i σ H1 => ∃ v1 v2 : Option V, σ = [some (.ref a), v1, v2] ∧ Same H H1) ⟨none, none, rfl, Same.refl H⟩ (fun i σ H1 _ ⟨_, _, _, sm⟩ => (Same.toT sm).seq hb) ?_ ?_⟩
    · rintro i x σ H1 H1' hi ⟨v1, v2, rfl, sm⟩ ⟨t, y1, y2, rfl, nt, rfl, e3, e4⟩
      cases e3
      have st : Same H1 (upd H1 t (.tup [.int (i : Nat), y2])) := same_upd nt
      obtain ⟨dd, hd, hdy⟩ := hfs.item e4
      rw [List.getElem?_map] at hd
      obtain ⟨f, hf, rfl⟩ := Option.map_eq_some_iff.mp hd
      obtain ⟨f1, f2, f3⟩ := w.f f (List.mem_of_getElem? hf)
      have s2 := sm.trans st
      refine ⟨t, _, rfl, sqT upd_same, rfl, _, _, rfl, _, _, rfl, rfl, ?_⟩
      refine ⟨_, rfl, a, us, 0, _, rfl, rfl, (Same.toT s2).seq hT, e0, _, rfl, I.s, f, y2, rfl, At.same (Same.toT s2) hdy, hs, f1, f2, f3, fun H2 s3 => ?_⟩
      exact ⟨true, rfl, _, _, rfl, s2.trans s3⟩
    · rintro σ H1 ⟨v1, v2, rfl, sm⟩
      exact q H1 sm
/-! ### is_term, need_terms, need_sum -/
theorem sc_is_term : FnScope ["costs", "many", "value"] ["costs", "many", "value"] (defScope s_is_term) := ⟨rfl, rfl, rfl, by decide +kernel, rfl, by decide +kernel, by decide +kernel⟩
def sp_is_term (K : PySem.W.Frag) : Sp := fun vs H Q _ => ∃ (I : Lp.Ins) (t : Lp.Trm) (c v : V), vs = [c, .int I.n, v] ∧ At K H (costsD I) c ∧ At K H (trmD t) v ∧ WF2 I ∧ t ∈ I.terms ∧ ∀ H', Same H H' → Q (.bl true) H'
theorem ok_is_term (T : Txt K mg) : FnOk P w K mg base CX0 4 T.a_is_term T.d_is_term ["costs", "many", "value"] (sp_is_term K) := by
  have G_is_in : FnOk P w K mg base CX0 2 T.a_is_in T.d_is_in ["value", "least", "most"] sp_is_in := ok_is_in T
  have G_is_int : FnOk P w K mg base CX0 1 T.a_is_int T.d_is_int ["value"] sp_is_int := ok_is_int T
  have G_is_row : FnOk P w K mg base CX0 3 T.a_is_row T.d_is_row ["size", "arity", "value"] (sp_is_row K) := ok_is_row T
  refine T.F_is_term.ok sc_is_term (fun vs H Q E h => ?_) (fun cdv A outer s H vs Q E hr h => ?_)
  · obtain ⟨I, t, c, v, rfl, _⟩ := h; rfl
  · obtain ⟨I, t, c, v, rfl, hC, hA, w, ht, q⟩ := h
    obtain ⟨ca, cs, rfl, hcT, hcl, _, hci⟩ := hC.ix
    obtain ⟨c1, ec1, hc1⟩ := hci 1 _ rfl
    obtain ⟨fa, fs, rfl, hfT, hfl, _, hfi⟩ := hc1.ix
    rw [List.length_map] at hfl
    obtain ⟨a, us, rfl, hT, hl, _, hi⟩ := hA.ix
    obtain ⟨u0, e0, h0⟩ := hi 0 _ rfl
    obtain rfl := at_i h0
    obtain ⟨u1, e1, h1⟩ := hi 1 _ rfl
    obtain ⟨sa, rfl, hsa⟩ := at_row h1
    obtain ⟨u2, e2, h2⟩ := hi 2 _ rfl
    obtain rfl := at_i h2
    obtain ⟨t1, t2, t3, t4, t5⟩ := w.t t ht
    obtain ⟨hfn, hfm⟩ := w.fn t1
    obtain ⟨fu, efu, hfu⟩ := hfi t.which (fnD (I.fns.getD t.which (0, []))) (by rw [List.getElem?_map, hfn]; rfl)
    obtain ⟨ga, gs, rfl, hgT, hgl, _, hgi⟩ := hfu.ix
    obtain ⟨g0, eg0, hg0⟩ := hgi 0 _ rfl
    obtain rfl := at_i hg0
    have hf1 := (w.f _ hfm).1
    refine ⟨_, (pss_cons (ps_if (PW.pt (pw_or (pt_not (pt_val (pe_callB call_isi (by rfl) T.z_isinstance (by decide +kernel) (pa_cons (pv 2) (pa_cons (pe_bltn (v := .ty "tuple") (u := .type "tuple") (by rfl) T.z_tuple (by decide +kernel) rfl) pa_nil))))) (pw_or (pt_cmpR op_ne (pe_callB call_len_seq (by rfl) T.z_len (by decide +kernel) (pa_cons (pv 2) pa_nil)) pe_int (nomark _)) (pw_or1 (pt_not (pt_val (pe_call G_is_in (hr.mono (by decide)) (by rfl) T.g_is_in T.F_is_in.kp T.b_is_in .nil pass0 (pa_cons (pe_ix ix_tup (pv 2) pe_int (fun _ _ => rfl)) (pa_cons pe_int (pa_cons (pe_op op_sub (pe_callB call_len_seq (by rfl) T.z_len (by decide +kernel) (pa_cons (pe_ix ix_tup (pv 0) pe_int (fun _ _ => rfl)) pa_nil)) pe_int) pa_nil))))))))))
        (pss_one (ps_ret pe_bl))
        pss_nil)
      (pss_one (ps_ret (pe_and (pe_call G_is_row (hr.mono (by decide)) (by rfl) T.g_is_row T.F_is_row.kp T.b_is_row .nil pass0 (pa_cons (pv 1) (pa_cons (pe_ix ix_tup (pe_ix ix_tup (pe_ix ix_tup (pv 0) pe_int (fun _ _ => rfl)) (pe_ix ix_tup (pv 2) pe_int (fun _ _ => rfl)) (fun _ _ => rfl)) pe_int (fun _ _ => rfl)) (pa_cons (pe_ix ix_tup (pv 2) pe_int (fun _ _ => rfl)) pa_nil)))) (pe_and (pe_call G_is_int (hr.mono (by decide)) (by rfl) T.g_is_int T.F_is_int.kp T.b_is_int .nil pass0 (pa_cons (pe_ix ix_tup (pv 2) pe_int (fun _ _ => rfl)) pa_nil)) (pe_one (pe_cmpR op_gt (pe_ix ix_tup (pv 2) pe_int (fun _ _ => rfl)) pe_int (nomark _)))))))), ?_⟩
    refine ⟨_, rfl, _, _, _, _, true, rfl, .ty "tuple", tyT hT, kit_ty (by decide +kernel), true, rfl, ?_⟩
    refine ⟨_, rfl, a, us, rfl, .inr hT, rfl, _, rfl, iteNS (by rw [hl]; rfl) ?_⟩
    refine ⟨_, rfl, a, us, 0, _, rfl, rfl, hT, e0, _, rfl, ca, cs, 1, _, rfl, rfl, hcT, ec1, fa, fs, rfl, .inr hfT, _, _, rfl, rfl, (t.which : Int), 0, (fs.length : Int) - 1, rfl, by omega, by omega, true, rfl, ?_⟩
    -- is_row(many, costs[1][value[0]][0], value[1]) and ..
    refine ⟨_, rfl, _, rfl, ca, cs, 1, _, rfl, rfl, hcT, ec1, _, rfl, a, us, 0, _, rfl, rfl, hT, e0, fa, fs, _, _, rfl, rfl, hfT, efu, ga, gs, 0, _, rfl, rfl, hgT, eg0, _, rfl, a, us, 1, _, rfl, rfl, hT, e1, ?_⟩
    refine ⟨I.n, _, sa, t.scope, rfl, hsa, t2, by omega, t3, fun H1 s1 => ⟨true, rfl, ?_⟩⟩
    have hT1 := (Same.toT s1).seq hT
    refine ⟨_, rfl, a, us, 2, _, rfl, rfl, hT1, e2, t.w, rfl, true, rfl, ?_⟩
    refine ⟨_, rfl, a, us, 2, _, rfl, rfl, hT1, e2, _, _, rfl, rfl, ?_⟩
    show Q (V.bl (decide ((0 : Int) < t.w))) H1
    rw [decide_eq_true (by omega)]
    exact q H1 s1
theorem sc_need_terms : FnScope ["costs", "value", "index", "term"] ["costs", "value"] (defScope s_need_terms) := ⟨rfl, rfl, rfl, by decide +kernel, rfl, by decide +kernel, by decide +kernel⟩
def sp_need_terms (K : PySem.W.Frag) : Sp := fun vs H Q _ => ∃ (I : Lp.Ins) (c v : V), vs = [c, v] ∧ At K H (costsD I) c ∧ At K H (insD I) v ∧ WF2 I ∧ ∀ H', Same H H' → Q .non H'
theorem ok_need_terms (T : Txt K mg) : FnOk P w K mg base CX0 5 T.a_need_terms T.d_need_terms ["costs", "value"] (sp_need_terms K) := by
  have G_is_in : FnOk P w K mg base CX0 2 T.a_is_in T.d_is_in ["value", "least", "most"] sp_is_in := ok_is_in T
  have G_is_term : FnOk P w K mg base CX0 4 T.a_is_term T.d_is_term ["costs", "many", "value"] (sp_is_term K) := ok_is_term T
  refine T.F_need_terms.ok sc_need_terms (fun vs H Q E h => ?_) (fun cdv A outer s H vs Q E hr h => ?_)
  · obtain ⟨I, c, v, rfl, _⟩ := h; rfl
  · obtain ⟨I, c, v, rfl, hC, hA, w, q⟩ := h
    obtain ⟨a, us, rfl, hT, hl, _, hi⟩ := hA.ix
    obtain ⟨u0, e0, h0⟩ := hi 0 _ rfl
    obtain rfl := at_i h0
    obtain ⟨u1, e1, h1⟩ := hi 1 _ rfl
    obtain ⟨b, fs, rfl, hb, hfl, hfs, _⟩ := h1.ix
    rw [List.length_map] at hfl
    have hw := w.q
    have hn := w.n
    refine ⟨_, (pss_cons (ps_if (PW.pt (pw_or (pt_not (pt_val (pe_callB call_isi (by rfl) T.z_isinstance (by decide +kernel) (pa_cons (pv 1) (pa_cons (pe_bltn (v := .ty "tuple") (u := .type "tuple") (by rfl) T.z_tuple (by decide +kernel) rfl) pa_nil))))) (pw_or (pt_cmpR op_ne (pe_callB call_len_seq (by rfl) T.z_len (by decide +kernel) (pa_cons (pv 1) pa_nil)) pe_int (nomark _)) (pw_or1 (pt_not (pt_val (pe_call G_is_in (hr.mono (by decide)) (by rfl) T.g_is_in T.F_is_in.kp T.b_is_in .nil pass0 (pa_cons (pe_ix ix_tup (pv 1) pe_int (fun _ _ => rfl)) (pa_cons pe_int (pa_cons (pe_glob (v := .int 8) (by rfl) T.c_MOST_NAMES ⟨_, rfl⟩) pa_nil))))))))))
        (pss_one ps_never)
        pss_nil)
      (pss_cons (ps_if (PW.pt (pw_or (pt_not (pt_val (pe_callB call_isi (by rfl) T.z_isinstance (by decide +kernel) (pa_cons (pe_ix ix_tup (pv 1) pe_int (fun _ _ => rfl)) (pa_cons (pe_bltn (v := .ty "tuple") (u := .type "tuple") (by rfl) T.z_tuple (by decide +kernel) rfl) pa_nil))))) (pw_or1 (pt_cmpR op_gt (pe_callB call_len_seq (by rfl) T.z_len (by decide +kernel) (pa_cons (pe_ix ix_tup (pv 1) pe_int (fun _ _ => rfl)) pa_nil)) (pe_glob (v := .int 40) (by rfl) T.c_MOST_TERMS ⟨_, rfl⟩) (nomark _)))))
        (pss_one ps_never)
        pss_nil)
      (pss_one (ps_for PassesOwn.never rfl (pi_enumT (by rfl) T.z_enumerate (pa_cons (pe_ix ix_tup (pv 1) pe_int (fun _ _ => rfl)) pa_nil)) (pg_tup rfl (pgs_cons (pg_name (i := 2) sc_need_terms.nd rfl (Or.inl rfl)) (pgs_cons (pg_name (i := 3) sc_need_terms.nd rfl (Or.inl rfl)) pgs_nil)))
        (pss_one (ps_if (pt_not (pt_val (pe_call G_is_term (hr.mono (by decide)) (by rfl) T.g_is_term T.F_is_term.kp T.b_is_term .nil pass0 (pa_cons (pv 0) (pa_cons (pe_ix ix_tup (pv 1) pe_int (fun _ _ => rfl)) (pa_cons (pv 3) pa_nil))))))
            (pss_one ps_never)
            pss_nil)))))), ?_⟩
    refine ⟨_, rfl, _, _, _, _, true, rfl, .ty "tuple", tyT hT, kit_ty (by decide +kernel), true, rfl, ?_⟩
    refine ⟨_, rfl, a, us, rfl, .inr hT, rfl, _, rfl, iteNS (by rw [hl]; rfl) ?_⟩
    refine ⟨_, rfl, a, us, 0, _, rfl, rfl, hT, e0, (I.n : Int), 0, 8, rfl, by omega, by omega, true, rfl, ?_⟩
    refine ⟨_, rfl, a, us, 1, _, rfl, rfl, hT, e1, _, _, _, _, true, rfl, .ty "tuple", tyT hb, kit_ty (by decide +kernel), true, rfl, ?_⟩
    refine ⟨_, rfl, a, us, 1, _, rfl, rfl, hT, e1, b, _, rfl, .inr hb, _, _, rfl, rfl, _, rfl, ?_⟩
    show if decide ((40 : Int) < (fs.length : Int)) = true then _ else _
    rw [decide_eq_false (by omega)]
    refine ⟨_, rfl, a, us, 1, _, rfl, rfl, hT, e1, b, fs, rfl, hb, for_it walk_et (fun i σ H1 => ∃ v1 v2 : Option V, σ = [some c, some (.ref a), v1, v2] ∧ Same H H1) ⟨none, none, rfl, Same.refl H⟩ (fun i σ H1 _ ⟨_, _, _, sm⟩ => (Same.toT sm).seq hb) ?_ ?_⟩
    · rintro i x σ H1 H1' hi ⟨v1, v2, rfl, sm⟩ ⟨t, y1, y2, rfl, nt, rfl, e3, e4⟩
      cases e3
      have st : Same H1 (upd H1 t (.tup [.int (i : Nat), y2])) := same_upd nt
      obtain ⟨dd, hd, hdy⟩ := hfs.item e4
      rw [List.getElem?_map] at hd
      obtain ⟨tm, htm, rfl⟩ := Option.map_eq_some_iff.mp hd
      have s2 := sm.trans st
      refine ⟨t, _, rfl, sqT upd_same, rfl, _, _, rfl, _, _, rfl, rfl, ?_⟩
      refine ⟨_, rfl, _, rfl, a, us, 0, _, rfl, rfl, (Same.toT s2).seq hT, e0, _, rfl, I, tm, c, y2, rfl, At.same (Same.toT s2) hC, At.same (Same.toT s2) hdy, w, List.mem_of_getElem? htm, fun H2 s3 => ?_⟩
      exact ⟨true, rfl, _, _, rfl, s2.trans s3⟩
    · rintro σ H1 ⟨v1, v2, rfl, sm⟩
      exact q H1 sm
theorem sc_need_sum : FnScope ["costs", "instance"] ["costs", "instance"] (defScope s_need_sum) := ⟨rfl, rfl, rfl, by decide +kernel, rfl, by decide +kernel, by decide +kernel⟩
theorem ok_need_sum (T : Txt K mg) : FnOk P w K mg base CX0 6 T.a_need_sum T.d_need_sum ["costs", "instance"] (sp_need_terms K) := by
  have G_need_costs : FnOk P w K mg base CX0 4 T.a_need_costs T.d_need_costs ["value"] (sp_need_costs K) := ok_need_costs T
  have G_need_terms : FnOk P w K mg base CX0 5 T.a_need_terms T.d_need_terms ["costs", "value"] (sp_need_terms K) := ok_need_terms T
  refine T.F_need_sum.ok sc_need_sum (fun vs H Q E h => ?_) (fun cdv A outer s H vs Q E hr h => ?_)
  · obtain ⟨I, c, v, rfl, _⟩ := h; rfl
  · obtain ⟨I, c, v, rfl, hC, hA, w, q⟩ := h
    refine ⟨_, (pss_cons (ps_expr (pe_call G_need_costs (hr.mono (by decide)) (by rfl) T.g_need_costs T.F_need_costs.kp T.b_need_costs .nil pass0 (pa_cons (pv 0) pa_nil)))
      (pss_one (ps_expr (pe_call G_need_terms (hr.mono (by decide)) (by rfl) T.g_need_terms T.F_need_terms.kp T.b_need_terms .nil pass0 (pa_cons (pv 0) (pa_cons (pv 1) pa_nil)))))), ?_⟩
    refine ⟨_, rfl, I, c, rfl, hC, w, fun H1 s1 => ?_⟩
    refine ⟨_, rfl, _, rfl, I, c, v, rfl, At.same (Same.toT s1) hC, At.same (Same.toT s1) hA, w, fun H2 s2 => ?_⟩
    exact q H2 (s1.trans s2)
/-! ### cost_of -/
theorem sc_cost_of : FnScope ["costs", "term", "row"] ["costs", "term", "row"] (defScope s_cost_of) := ⟨rfl, rfl, rfl, by decide +kernel, rfl, by decide +kernel, by decide +kernel⟩
def sp_cost_of (K : PySem.W.Frag) : Sp := fun vs H Q _ => ∃ (I : Lp.Ins) (t : Lp.Trm) (r : List Nat) (c v u : V), vs = [c, v, u] ∧ At K H (costsD I) c ∧ At K H (trmD t) v ∧ At K H (rowD r) u ∧ WF2 I ∧ t ∈ I.terms ∧ r.length ≤ 2 ∧ (∀ x, x ∈ r → x < 3) ∧
  placeN I.s r < (I.fns.getD t.which (0, [])).2.length ∧ Q (.int ((I.fns.getD t.which (0, [])).2.getD (placeN I.s r) 0 * t.w)) H
theorem ok_cost_of (T : Txt K mg) : FnOk P w K mg base CX0 2 T.a_cost_of T.d_cost_of ["costs", "term", "row"] (sp_cost_of K) := by
  have G_place_of : FnOk P w K mg base CX0 1 T.a_place_of T.d_place_of ["size", "arguments"] (sp_place_of K) := ok_place_of T
  refine T.F_cost_of.ok sc_cost_of (fun vs H Q E h => ?_) (fun cdv A outer s H vs Q E hr h => ?_)
  · obtain ⟨I, t, r, c, v, u, rfl, _⟩ := h; rfl
  · obtain ⟨I, t, r, c, v, u, rfl, hC, hA, hR, w, ht, hr2, hx, hp, q⟩ := h
    obtain ⟨ca, cs, rfl, hcT, hcl, _, hci⟩ := hC.ix
    obtain ⟨c0, ec0, hc0⟩ := hci 0 _ rfl
    obtain rfl := at_i hc0
    obtain ⟨c1, ec1, hc1⟩ := hci 1 _ rfl
    obtain ⟨fa, fs, rfl, hfT, hfl, _, hfi⟩ := hc1.ix
    obtain ⟨a, us, rfl, hT, hl, _, hi⟩ := hA.ix
    obtain ⟨u0, e0, h0⟩ := hi 0 _ rfl
    obtain rfl := at_i h0
    obtain ⟨u2, e2, h2⟩ := hi 2 _ rfl
    obtain rfl := at_i h2
    obtain ⟨ra, rfl, hra⟩ := at_row hR
    obtain ⟨t1, t2, t3, t4, t5⟩ := w.t t ht
    obtain ⟨hfn, hfm⟩ := w.fn t1
    obtain ⟨fu, efu, hfu⟩ := hfi t.which (fnD (I.fns.getD t.which (0, []))) (by rw [List.getElem?_map, hfn]; rfl)
    obtain ⟨ga, gs, rfl, hgT, hgl, _, hgi⟩ := hfu.ix
    obtain ⟨g1, eg1, hg1⟩ := hgi 1 _ rfl
    obtain ⟨ta, rfl, hta⟩ := at_ints hg1
    have hb := (w.f _ hfm).2.2 ((I.fns.getD t.which (0, [])).2.getD (placeN I.s r) 0) (by rw [Lp.getD_lt 0 hp]; exact List.getElem_mem hp)
    refine ⟨_, (pss_one (ps_ret (pe_op op_mulW (pe_ix ix_tup (pe_ix ix_tup (pe_ix ix_tup (pe_ix ix_tup (pv 0) pe_int (fun _ _ => rfl)) (pe_ix ix_tup (pv 1) pe_int (fun _ _ => rfl)) (fun _ _ => rfl)) pe_int (fun _ _ => rfl)) (pe_call G_place_of (hr.mono (by decide)) (by rfl) T.g_place_of T.F_place_of.kp T.b_place_of .nil pass0 (pa_cons (pe_ix ix_tup (pv 0) pe_int (fun _ _ => rfl)) (pa_cons (pv 2) pa_nil))) (fun _ _ => rfl)) (pe_ix ix_tup (pv 1) pe_int (fun _ _ => rfl))))), ?_⟩
    refine ⟨_, rfl, ca, cs, 1, _, rfl, rfl, hcT, ec1, _, rfl, a, us, 0, _, rfl, rfl, hT, e0, fa, fs, _, _, rfl, rfl, hfT, efu, ga, gs, 1, _, rfl, rfl, hgT, eg1, ?_⟩
    refine ⟨_, rfl, ca, cs, 0, _, rfl, rfl, hcT, ec0, _, rfl, I.s, ra, r, rfl, hra, w.s3, hr2, hx, ?_⟩
    refine ⟨ta, _, _, .int ((I.fns.getD t.which (0, [])).2.getD (placeN I.s r) 0), rfl, rfl, hta, atI_nat ?_, ?_⟩
    · rw [List.getElem?_map, List.getElem?_eq_getElem hp, Lp.getD_lt 0 hp]; rfl
    refine ⟨_, rfl, a, us, 2, _, rfl, rfl, hT, e2, _, _, rfl, rfl, wide_mul (a := 12) (b := 12) (by omega) (by omega) (by decide) (by decide) (by decide), q⟩
end
end KV
namespace KV
open PySem PySem.Spec PyProof.Rows L2
def SmallL (l : List Int) : Prop := ∀ v, v ∈ l → v.natAbs < 2 ^ 160
theorem small_at {l : List Int} (h : SmallL l) (c : Nat) : (l.getD c 0).natAbs < 2 ^ 160 := by
  by_cases q : c < l.length
  · rw [Lp.getD_lt 0 q]; exact h _ (List.getElem_mem q)
  · rw [List.getD_eq_getElem?_getD, List.getElem?_eq_none (by omega)]; decide
theorem low_zero {row head : List Int} {c : Nat} {ce old : Int} (hl : row.length = head.length) (h0 : row.getD c 0 = 0) : Lp.low row head c ce old = row.map fun v => v * ce / old := by
  unfold Lp.low
  apply List.ext_getElem
  · rw [List.length_zipWith, List.length_map, hl, Nat.min_self]
  · intro i h1 h2
    simp only [List.getElem_zipWith, List.getElem_map, h0, Int.zero_mul, Int.sub_zero]
theorem take_ints {L : List Int} {i : Nat} {x : Int} (h : L[i]? = some x) : (L.take (i + 1)).map V.int = (L.take i).map V.int ++ [V.int x] := by
  rw [List.take_add_one, h, List.map_append]; rfl
theorem ints_at {ns : List Int} {i : Nat} {x : V} (h : (ns.map V.int)[i]? = some x) : ∃ y, ns[i]? = some y ∧ x = .int y := by
  rw [List.getElem?_map] at h
  obtain ⟨y, hy, e⟩ := Option.map_eq_some_iff.mp h
  exact ⟨y, hy, e.symm⟩
section
variable {P : Program} {w : World} {K : PySem.W.Frag} {mg : Str → Option Value} {base : Heap}
/-! ### lowered -/
theorem sc_lowered : FnScope ["row", "head", "column", "center", "old", "factor", "value", "other"] ["row", "head", "column", "center", "old"] (defScope s_lowered) := ⟨rfl, rfl, rfl, by decide +kernel, rfl, by decide +kernel, by decide +kernel⟩
def sp_lowered (K : PySem.W.Frag) : Sp := fun vs H Q _ => ∃ (a b : Addr) (row head : List Int) (c : Nat) (ce old : Int), vs = [.ref a, .ref b, .int c, .int ce, .int old] ∧ SqL K H a (row.map V.int) ∧ SqL K H b (head.map V.int) ∧ row.length = head.length ∧ c < row.length ∧ row.length ≤ 100000 ∧
  SmallL row ∧ SmallL head ∧ ce.natAbs < 2 ^ 160 ∧ 0 < old ∧ old.natAbs < 2 ^ 160 ∧ ∀ H' D, Same H H' → H D = none → H' D = some (.lst ((Lp.low row head c ce old).map V.int)) → Q (.ref D) H'
theorem ok_lowered (T : Txt K mg) : FnOk P w K mg base CX0 1 T.a_lowered T.d_lowered ["row", "head", "column", "center", "old"] (sp_lowered K) := by
  refine T.F_lowered.ok sc_lowered (fun vs H Q E h => ?_) (fun cdv A outer s H vs Q E hr h => ?_)
  · obtain ⟨a, b, row, head, c, ce, old, rfl, _⟩ := h; rfl
  · obtain ⟨a, b, row, head, c, ce, old, rfl, ha, hb, hl, hc, hm, sr, sh, sc, o0, so, q⟩ := h
    have hlow : (Lp.low row head c ce old).length = row.length := Lp.low_len _ _ _ hl
    refine ⟨_, (pss_cons (ps_set (i := 5) sc_lowered.nd rfl (Or.inr rfl) (pe_ix ix_list (pv 0) (pv 2) (fun _ _ => rfl)))
      (pss_cons (ps_if (pt_cmpR op_eq (pv 5) pe_int (nomark _))
        (pss_one (ps_ret (pe_lc (own := [("value", 6)]) (by rfl) sc_lowered.nd (pi_list (pv 0)) (blkOk_by (own := [("value", 6)]) (N := ["row", "head", "column", "center", "old", "factor", "value", "other"]) (sc := defScope s_lowered) (by decide +kernel)) (fun _ _ _ _ _ => (pg_name (i := 6) sc_lowered.nd rfl (Or.inl rfl))) (fun _ _ _ _ _ => pts_nil) (fun _ _ _ _ _ => (pe_op op_fdivW (pe_op op_mulW (pv 6) (pv 3)) (pv 4))))))
        pss_nil)
      (pss_one (ps_ret (pe_lc (own := [("value", 6), ("other", 7)]) (by rfl) sc_lowered.nd (pi_zip (by rfl) T.z_zip (pa_cons (pv 0) (pa_cons (pv 1) pa_nil))) (blkOk_by (own := [("value", 6), ("other", 7)]) (N := ["row", "head", "column", "center", "old", "factor", "value", "other"]) (sc := defScope s_lowered) (by decide +kernel)) (fun _ _ _ _ _ => (kg_tup (n := 2) K rfl rfl (pgs_cons (pg_name (i := 6) sc_lowered.nd rfl (Or.inl rfl)) (pgs_cons (pg_name (i := 7) sc_lowered.nd rfl (Or.inl rfl)) pgs_nil)))) (fun _ _ _ _ _ => pts_nil) (fun _ _ _ _ _ => (pe_op op_fdivW (pe_op op_sub (pe_op op_mulW (pv 6) (pv 3)) (pe_op op_mulW (pv 5) (pv 7))) (pv 4)))))))), ?_⟩
    refine ⟨_, rfl, _, rfl, a, _, (c : Int), .int (row.getD c 0), rfl, rfl, ha, atI_nat (by rw [List.getElem?_map, List.getElem?_eq_getElem hc, Lp.getD_lt 0 hc]; rfl), ?_⟩
    refine ⟨_, rfl, rfl, _, rfl, ite2 (fun e => ?_) (fun e => ?_)⟩
    · -- factor == 0
      have e0 : row.getD c 0 = 0 := V.int.inj (of_decide_eq_true e)
      refine ⟨_, rfl, a, rfl, ⟨_, ha⟩, fun D hD => lc_it walk_list (fun i H1 => Same H H1 ∧ H1 D = some (.lst (((Lp.low row head c ce old).take i).map V.int))) ⟨same_upd hD, upd_same⟩ (fun i H1 _ h => Same.seq h.1 ha) ?_ ?_⟩
      · rintro i x H1 H1' hi ⟨s1, eD⟩ ⟨rfl, hx⟩
        obtain ⟨y, hy, rfl⟩ := ints_at hx
        have sy := sr y (List.mem_of_getElem? hy)
        refine ⟨rfl, _, rfl, _, rfl, _, _, rfl, rfl, wide_mul sy sc (by decide) (by decide) (by decide), _, rfl, _, _, rfl, rfl, wide_div o0 so (by decide) (by decide), _, eD, szl ?_, same_put s1 hD, ?_⟩
        · rw [List.length_map, List.length_take]; omega
        · rw [upd_same, take_ints]
          rw [low_zero hl e0, List.getElem?_map, hy]; rfl
      · rintro H1 ⟨s1, eD⟩
        refine q H1 D s1 hD ?_
        rw [eD, List.take_of_length_le (by rw [hlow, List.length_map]; exact Nat.le_refl _)]
    · refine ⟨_, rfl, _, rfl, a, b, _, _, rfl, ha, hb, fun D hD => lc_it (walk_zip rfl) (fun i H1 => Same H H1 ∧ H1 D = some (.lst (((Lp.low row head c ce old).take i).map V.int))) ⟨same_upd hD, upd_same⟩ (fun i H1 _ h => ⟨Same.seq h.1 ha, Same.seq h.1 hb⟩) ?_ ?_⟩
      · rintro i x H1 H1' hi ⟨s1, eD⟩ ⟨t, x1, x2, rfl, nt, rfl, f1, f2⟩
        obtain ⟨y1, hy1, rfl⟩ := ints_at f1
        obtain ⟨y2, hy2, rfl⟩ := ints_at f2
        have sy1 := sr y1 (List.mem_of_getElem? hy1)
        have sy2 := sh y2 (List.mem_of_getElem? hy2)
        have sf := small_at sr c
        have nDt : D ≠ t := ne_of_none eD nt
        refine ⟨t, _, rfl, sqT upd_same, rfl, _, _, rfl, _, _, rfl, rfl, rfl, ?_⟩
        refine ⟨_, rfl, _, rfl, _, _, rfl, rfl, wide_mul sy1 sc (by decide) (by decide) (by decide), _, rfl, _, rfl, _, _, rfl, rfl, wide_mul sf sy2 (by decide) (by decide) (by decide), _, _, rfl, rfl, _, rfl, _, _, rfl, rfl, wide_div o0 so (by decide) (by decide), _, by rw [upd_ne nDt]; exact eD, szl ?_, same_put (s1.trans (same_upd nt)) hD, ?_⟩
        · rw [List.length_map, List.length_take]; omega
        · rw [upd_same, take_ints]
          unfold Lp.low
          rw [List.getElem?_zipWith, hy1, hy2]
      · rintro H1 ⟨s1, eD⟩
        refine q H1 D s1 hD ?_
        rw [eD, List.take_of_length_le (by rw [hlow, List.length_map, List.length_map, ← hl, Nat.min_self]; exact Nat.le_refl _)]
/-! ### ratio_of -/
theorem sc_ratio_of : FnScope ["numerator", "denominator", "one", "other"] ["numerator", "denominator"] (defScope s_ratio_of) := ⟨rfl, rfl, rfl, by decide +kernel, rfl, by decide +kernel, by decide +kernel⟩
def ratV (p : Int × Int) : List V := [.int p.1, .int p.2]
def sp_ratio_of : Sp := fun vs H Q _ => ∃ X d : Int, vs = [.int X, .int d] ∧ 0 < d ∧ X.natAbs < 2 ^ 200 ∧ d.natAbs < 2 ^ 200 ∧ ∀ t, H t = none → Q (.ref t) (upd H t (.tup (ratV (Lp.ratio X d))))
theorem ok_ratio_of (T : Txt K mg) : FnOk P w K mg base CX0 1 T.a_ratio_of T.d_ratio_of ["numerator", "denominator"] sp_ratio_of := by
  refine T.F_ratio_of.ok sc_ratio_of (fun vs H Q E h => ?_) (fun cdv A outer s H vs Q E hr h => ?_)
  · obtain ⟨X, d, rfl, _⟩ := h; rfl
  · obtain ⟨X, d, rfl, d0, sX, sd, q⟩ := h
    have g0 : 0 < Int.gcd X d := Int.gcd_pos_of_ne_zero_right X (by omega)
    have gle : Int.gcd X d ≤ d.natAbs := Nat.gcd_le_right _ (by omega)
    refine ⟨_, (pss_cons (ps_par (i := 2) (j := 3) (by rfl) sc_ratio_of.nd rfl rfl (by decide) rfl rfl (pa_cons (pe_callB call_abs (by rfl) T.z_abs (by decide +kernel) (pa_cons (pv 0) pa_nil)) (pa_cons (pv 1) pa_nil)) (by rfl))
      (pss_cons (ps_while PassesOwn.never (pt_cmpR op_ne (pv 3) pe_int (nomark _))
        (pss_one (ps_par (i := 2) (j := 3) (by rfl) sc_ratio_of.nd rfl rfl (by decide) rfl rfl (pa_cons (pv 3) (pa_cons (pe_op op_modN (pv 2) (pv 3)) pa_nil)) (by rfl))))
      (pss_one (ps_ret (pe_tup (pa_cons (pe_op op_fdivW (pv 0) (pv 2)) (pa_cons (pe_op op_fdivW (pv 1) (pv 2)) pa_nil))))))), ?_⟩
    refine ⟨_, rfl, X, rfl, _, rfl, _, _, rfl, ?_⟩
    refine ⟨fun m σ H1 => ∃ a b : Nat, m = b ∧ σ = [some (.int X), some (.int d), some (.int (a : Int)), some (.int (b : Int))] ∧ H1 = H ∧ Nat.gcd a b = Int.gcd X d, ⟨d.natAbs, X.natAbs, d.natAbs, rfl, ?_, rfl, rfl⟩, ?_⟩
    · have e1 : (if X < 0 then -X else X) = ((X.natAbs : Nat) : Int) := by split <;> omega
      have e2 : d = ((d.natAbs : Nat) : Int) := by omega
      show [_, _, some (V.int (if X < 0 then -X else X)), some (V.int d)] = _
      rw [e1]
      conv => lhs; rw [e2]
      rw [← e2]
    · rintro m σ H1 ⟨a, b, rfl, rfl, rfl, hg⟩
      refine ⟨_, rfl, rfl, _, rfl, ?_⟩
      by_cases hb : m = 0
      · subst hb
        rw [Nat.gcd_zero_right] at hg
        show if (!decide (V.int ((0 : Nat) : Int) = V.int 0)) = true then _ else _
        rw [decide_eq_true (show V.int ((0 : Nat) : Int) = V.int 0 from rfl)]
        have ag : (a : Int) = (Int.gcd X d : Int) := by omega
        refine ⟨_, rfl, _, rfl, _, _, rfl, rfl, wide_div (b := 200) (by omega) (by rw [Int.natAbs_natCast]; omega) (by decide) (by decide), _, rfl, _, rfl, _, _, rfl, rfl, wide_div (b := 200) (by omega) (by rw [Int.natAbs_natCast]; omega) (by decide) (by decide), szl' (by show 2 ≤ 1000000; decide), fun t ht => ?_⟩
        have := q t ht
        unfold Lp.ratio ratV at this
        rw [← ag] at this
        exact this
      · rw [decide_eq_false (fun e => hb (by have := V.int.inj e; omega))]
        refine ⟨fun σ' H' => σ' = [some (.int X), some (.int d), some (.int (m : Int)), some (.int ((a % m : Nat) : Int))] ∧ H' = H1, ?_, ?_⟩
        · rintro σ' H' ⟨rfl, rfl⟩
          refine ⟨a % m, Nat.mod_lt _ (by omega), m, a % m, rfl, rfl, rfl, ?_⟩
          rw [← hg, Nat.gcd_comm a m, Nat.gcd_rec m a, Nat.gcd_comm]
        · refine ⟨_, rfl, _, rfl, _, rfl, _, _, rfl, rfl, by omega, _, _, rfl, ?_, rfl⟩
          show [_, _, some (V.int (m : Int)), some (V.int ((a : Int).fmod (m : Int)))] = _
          rw [Int.fmod_eq_emod_of_nonneg _ (by omega), Int.natCast_emod]
end
end KV
namespace KV
open PySem PySem.Spec PyProof.Rows L2
/-! ### the fields of a tableau -/
theorem lk_eq {k : Str} {v : V} {r : List (Str × V)} : List.lookup k ((k, v) :: r) = some v := by
  unfold List.lookup
  rw [beq_self_eq_true]
theorem lk_ne {k g : Str} {v : V} {r : List (Str × V)} (h : (k == g) = false) : List.lookup k ((g, v) :: r) = List.lookup k r := by
  conv => lhs; unfold List.lookup
  rw [h]
theorem pf_eq {k : Str} {v x : V} {r : List (Str × V)} : putF k v ((k, x) :: r) = (k, v) :: r := by
  show (if k = k then _ else _) = _
  rw [if_pos rfl]
theorem pf_ne {k g : Str} {v x : V} {r : List (Str × V)} (h : ¬ g = k) : putF k v ((g, x) :: r) = (g, x) :: putF k v r := by
  show (if g = k then _ else _) = _
  rw [if_neg h]
def fsT (n m : Nat) (l b g : Addr) (d : Int) : List (Str × V) := [("many", .int (n : Int)), ("size", .int (m : Int)), ("rows", .ref l), ("base", .ref b), ("goals", .ref g), ("scale", .int d)]
section
variable {n m : Nat} {l b g : Addr} {d : Int}
theorem fs_many : (fsT n m l b g d).lookup ("many" : Str) = some (.int (n : Int)) := lk_eq
theorem fs_size : (fsT n m l b g d).lookup ("size" : Str) = some (.int (m : Int)) := (lk_ne (by decide +kernel)).trans lk_eq
theorem fs_rows : (fsT n m l b g d).lookup ("rows" : Str) = some (.ref l) := (lk_ne (by decide +kernel)).trans ((lk_ne (by decide +kernel)).trans lk_eq)
theorem fs_base : (fsT n m l b g d).lookup ("base" : Str) = some (.ref b) := (lk_ne (by decide +kernel)).trans ((lk_ne (by decide +kernel)).trans ((lk_ne (by decide +kernel)).trans lk_eq))
theorem fs_goals : (fsT n m l b g d).lookup ("goals" : Str) = some (.ref g) := (lk_ne (by decide +kernel)).trans ((lk_ne (by decide +kernel)).trans ((lk_ne (by decide +kernel)).trans ((lk_ne (by decide +kernel)).trans lk_eq)))
theorem fs_scale : (fsT n m l b g d).lookup ("scale" : Str) = some (.int d) := (lk_ne (by decide +kernel)).trans ((lk_ne (by decide +kernel)).trans ((lk_ne (by decide +kernel)).trans ((lk_ne (by decide +kernel)).trans ((lk_ne (by decide +kernel)).trans lk_eq))))
theorem fs_none {x : Str} (h1 : (x == "many") = false) (h2 : (x == "size") = false) (h3 : (x == "rows") = false) (h4 : (x == "base") = false) (h5 : (x == "goals") = false) (h6 : (x == "scale") = false) : (fsT n m l b g d).lookup x = none :=
  (lk_ne h1).trans ((lk_ne h2).trans ((lk_ne h3).trans ((lk_ne h4).trans ((lk_ne h5).trans ((lk_ne h6).trans rfl)))))
theorem fs_pgoals (g' : Addr) : putF "goals" (.ref g') (fsT n m l b g d) = fsT n m l b g' d := by
  unfold fsT
  rw [pf_ne (by decide +kernel), pf_ne (by decide +kernel), pf_ne (by decide +kernel), pf_ne (by decide +kernel), pf_eq]
theorem fs_pscale (d' : Int) : putF "scale" (.int d') (fsT n m l b g d) = fsT n m l b g d' := by
  unfold fsT
  rw [pf_ne (by decide +kernel), pf_ne (by decide +kernel), pf_ne (by decide +kernel), pf_ne (by decide +kernel), pf_ne (by decide +kernel), pf_eq]
theorem fs_len : (fsT n m l b g d).length < 1000 := by show 6 < 1000; decide
end
/-! ### lists of rows in the heap -/
def RowsAt (H : Hp) (l : Addr) (rows : List (List Int)) : Prop := ∃ as : List Addr, H l = some (.lst (as.map V.ref)) ∧ as.length = rows.length ∧ ∀ (k : Nat) (a : Addr), as[k]? = some a → ∃ r, rows[k]? = some r ∧ H a = some (.lst (r.map V.int))
theorem RowsAt.same {H H' : Hp} {l : Addr} {rows : List (List Int)} (s : Same H H') (h : RowsAt H l rows) : RowsAt H' l rows := by
  obtain ⟨as, e, hl, hr⟩ := h
  exact ⟨as, s _ _ e, hl, fun k a ha => let ⟨r, h1, h2⟩ := hr k a ha; ⟨r, h1, s _ _ h2⟩⟩
theorem RowsAt.sameX {R : Addr → Prop} {H H' : Hp} {l : Addr} {rows : List (List Int)} (s : SameX R H H') (h : RowsAt H l rows) (hl : ¬ R l) (hr : ∀ a r, r ∈ rows → H a = some (.lst (r.map V.int)) → ¬ R a) : RowsAt H' l rows := by
  obtain ⟨as, e, hlen, hh⟩ := h
  exact ⟨as, s _ _ e hl, hlen, fun k a ha => let ⟨r, h1, h2⟩ := hh k a ha; ⟨r, h1, s _ _ h2 (hr a r (List.mem_of_getElem? h1) h2)⟩⟩
theorem RowsAt.get {H : Hp} {l : Addr} {rows : List (List Int)} (h : RowsAt H l rows) {k : Nat} (hk : k < rows.length) : ∃ a vs, H l = some (.lst vs) ∧ atI vs (k : Int) = some (.ref a) ∧ H a = some (.lst ((rows.getD k []).map V.int)) := by
  obtain ⟨as, e, hl, hr⟩ := h
  have hk' : k < as.length := by omega
  obtain ⟨r, h1, h2⟩ := hr k as[k] (List.getElem?_eq_getElem hk')
  refine ⟨as[k], _, e, atI_nat (by rw [List.getElem?_map, List.getElem?_eq_getElem hk']; rfl), ?_⟩
  rw [h2, Lp.getD_lt [] hk]
  rw [List.getElem?_eq_getElem hk] at h1
  rw [Option.some.inj h1]
theorem RowsAt.item {H : Hp} {l : Addr} {rows : List (List Int)} (h : RowsAt H l rows) : ∃ vs, H l = some (.lst vs) ∧ vs.length = rows.length ∧ ∀ (k : Nat) x, vs[k]? = some x → ∃ a, x = .ref a ∧ k < rows.length ∧ H a = some (.lst ((rows.getD k []).map V.int)) := by
  obtain ⟨as, e, hl, hr⟩ := h
  refine ⟨_, e, by rw [List.length_map, hl], fun k x hx => ?_⟩
  rw [List.getElem?_map] at hx
  obtain ⟨a, ha, rfl⟩ := Option.map_eq_some_iff.mp hx
  obtain ⟨r, h1, h2⟩ := hr k a ha
  have hk : k < rows.length := (List.getElem?_eq_some_iff.mp h1).1
  refine ⟨a, rfl, hk, ?_⟩
  rw [h2, Lp.getD_lt [] hk]
  rw [List.getElem?_eq_getElem hk] at h1
  rw [Option.some.inj h1]
theorem RowsAt.push {H : Hp} {l a : Addr} {rows : List (List Int)} {r : List Int} {vs : List V} (h : RowsAt H l rows) (hv : H l = some (.lst vs)) (hr : H a = some (.lst (r.map V.int))) : RowsAt (upd H l (.lst (vs ++ [.ref a]))) l (rows ++ [r]) ∨ a = l := by
  by_cases e : a = l
  · exact .inr e
  · obtain ⟨as, e0, hl, hh⟩ := h
    rw [hv] at e0
    have ev : vs = as.map V.ref := by injection (Option.some.inj e0)
    subst ev
    refine .inl ⟨as ++ [a], by rw [upd_same, List.map_append]; rfl, by rw [List.length_append, List.length_append, hl]; rfl, fun k c hc => ?_⟩
    by_cases hk : k < as.length
    · rw [List.getElem?_append_left hk] at hc
      obtain ⟨q, h1, h2⟩ := hh k c hc
      refine ⟨q, by rw [List.getElem?_append_left (by omega)]; exact h1, ?_⟩
      rw [upd_ne (fun z => ?_)]
      · exact h2
      · rw [z, hv] at h2
        have e2 : as.map V.ref = q.map V.int := by injection (Option.some.inj h2)
        cases as with
        | nil => simp at hk
        | cons x as =>
          cases q with
          | nil => simp at e2
          | cons y q => simp at e2
    · have hk2 : k = as.length := by
        have := (List.getElem?_eq_some_iff.mp hc).1
        rw [List.length_append] at this
        have : ([a] : List Addr).length = 1 := rfl
        omega
      subst hk2
      rw [List.getElem?_append_right (Nat.le_refl _), Nat.sub_self] at hc
      have ec : a = c := Option.some.inj hc
      subst ec
      refine ⟨r, by rw [hl, List.getElem?_append_right (Nat.le_refl _), Nat.sub_self]; rfl, ?_⟩
      rw [upd_ne e]; exact hr
/-- lists of refs and lists of ints lie apart, if not empty -/
theorem ref_int_ne {H : Hp} {a l : Addr} {vs : List V} {r : List Int} {as : List Addr} (h1 : H l = some (.lst (as.map V.ref))) (h2 : H a = some (.lst (r.map V.int))) (h : as ≠ [] ∨ r ≠ []) : a ≠ l := fun e => by
  subst e
  rw [h1] at h2
  have e2 : as.map V.ref = r.map V.int := by injection (Option.some.inj h2)
  cases as with
  | nil =>
    cases r with
    | nil => rcases h with h | h <;> exact h rfl
    | cons y r => simp at e2
  | cons x as =>
    cases r with
    | nil => simp at e2
    | cons y r => simp at e2
theorem len_ne {H : Hp} {a b : Addr} {xs ys : List V} (h1 : H a = some (.lst xs)) (h2 : H b = some (.lst ys)) (h : xs.length ≠ ys.length) : a ≠ b := fun e => by
  subst e
  rw [h1] at h2
  have e2 : xs = ys := by injection (Option.some.inj h2)
  exact h (by rw [e2])
/-- a row is replaced -/
theorem RowsAt.set {H : Hp} {l a : Addr} {rows : List (List Int)} {r : List Int} {vs : List V} {j : Nat} (h : RowsAt H l rows) (hv : H l = some (.lst vs)) (hj : j < rows.length) (hr : H a = some (.lst (r.map V.int))) : RowsAt (upd H l (.lst (vs.set j (.ref a)))) l (rows.set j r) := by
  obtain ⟨as, e0, hl, hh⟩ := h
  rw [hv] at e0
  have ev : vs = as.map V.ref := by injection (Option.some.inj e0)
  subst ev
  have ne0 : as ≠ [] := fun e => by rw [e] at hl; simp at hl; omega
  refine ⟨as.set j a, by rw [upd_same, List.map_set], by rw [List.length_set, List.length_set, hl], fun k c hc => ?_⟩
  by_cases e : k = j
  · subst e
    rw [List.getElem?_set_self (by omega)] at hc
    have ec : a = c := Option.some.inj hc
    subst ec
    refine ⟨r, by rw [List.getElem?_set_self hj], ?_⟩
    rw [upd_ne (ref_int_ne (vs := []) hv hr (.inl ne0))]; exact hr
  · rw [List.getElem?_set_ne (fun q => e q.symm)] at hc
    obtain ⟨q, h1, h2⟩ := hh k c hc
    refine ⟨q, by rw [List.getElem?_set_ne (fun q => e q.symm)]; exact h1, ?_⟩
    rw [upd_ne (ref_int_ne (vs := []) hv h2 (.inl ne0))]; exact h2
/-! ### a tableau in the heap -/
structure TabAt (C : Addr) (H : Hp) (p : Addr) (n m : Nat) (l b g : Addr) (X : Lp.Tab) : Prop where
  ob : ∃ dx, H p = some (.ins C dx (fsT n m l b g X.scale))
  rows : RowsAt H l X.rows
  base : H b = some (.lst (X.base.map fun k : Nat => V.int (k : Int)))
  goals : RowsAt H g X.goals
  lg : l ≠ g
theorem TabAt.same {C p l b g : Addr} {n m : Nat} {H H' : Hp} {X : Lp.Tab} (s : Same H H') (h : TabAt C H p n m l b g X) : TabAt C H' p n m l b g X :=
  ⟨let ⟨dx, e⟩ := h.ob; ⟨dx, s _ _ e⟩, h.rows.same s, s _ _ h.base, h.goals.same s, h.lg⟩
/-- its shape, and numbers of a size that the machine takes -/
structure TabOk (n m : Nat) (X : Lp.Tab) : Prop where
  hn : n ≤ 1000
  hm : m ≤ 1000
  rl : X.rows.length = m
  rw : ∀ r, r ∈ X.rows → r.length = n + m + 1 ∧ SmallL r
  gl : X.goals.length = 2
  gw : ∀ r, r ∈ X.goals → r.length = n + m + 1 ∧ SmallL r
  bl : X.base.length = m
  d0 : 0 < X.scale
  ds : X.scale.natAbs < 2 ^ 160
theorem getD_mem {α : Type} {l : List α} {k : Nat} (d : α) (h : k < l.length) : l.getD k d ∈ l := by
  rw [Lp.getD_lt d h]; exact List.getElem_mem h
theorem TabOk.row {n m : Nat} {X : Lp.Tab} (o : TabOk n m X) {k : Nat} (h : k < m) : (X.rows.getD k []).length = n + m + 1 ∧ SmallL (X.rows.getD k []) := o.rw _ (getD_mem [] (by rw [o.rl]; exact h))
theorem TabOk.goal {n m : Nat} {X : Lp.Tab} (o : TabOk n m X) {k : Nat} (h : k < 2) : (X.goals.getD k []).length = n + m + 1 ∧ SmallL (X.goals.getD k []) := o.gw _ (getD_mem [] (by rw [o.gl]; exact h))
theorem int_at {L : List Int} {j : Nat} (h : j < L.length) : atI (L.map V.int) (j : Int) = some (.int (L.getD j 0)) := atI_nat (by rw [List.getElem?_map, List.getElem?_eq_getElem h, Lp.getD_lt 0 h]; rfl)
theorem int_last {L : List Int} {n : Nat} (h : L.length = n + 1) : atI (L.map V.int) (-1) = some (.int (L.getD n 0)) := by
  have e : L = L.take n ++ [L.getD n 0] := by
    conv => lhs; rw [← List.take_append_drop n L]
    congr 1
    rw [List.drop_eq_getElem_cons (by omega), List.drop_eq_nil_of_le (by omega), Lp.getD_lt 0 (by omega)]
  conv => lhs; rw [e]
  rw [List.map_append]
  exact atI_last _ _
section
variable {P : Program} {w : World} {K : PySem.W.Frag} {mg : Str → Option Value} {base : Heap}
/-! ### entering -/
theorem sc_tb_entering : FnScope ["self", "goal", "column"] ["self", "goal"] (defScope s_tb_entering) := ⟨rfl, rfl, rfl, by decide +kernel, rfl, by decide +kernel, by decide +kernel⟩
def Entered (n : Nat) (X : Lp.Tab) (gi : Nat) (v : V) : Prop := (∃ c : Nat, v = .int c ∧ c < n ∧ X.G gi c < 0 ∧ ∀ j, j < c → 0 ≤ X.G gi j) ∨ (v = .non ∧ ∀ j, j < n → 0 ≤ X.G gi j)
def sp_entering (C : Addr) : Sp := fun vs H Q _ => ∃ (p l b g : Addr) (n m gi : Nat) (X : Lp.Tab), vs = [.ref p, .int gi] ∧ TabAt C H p n m l b g X ∧ TabOk n m X ∧ gi < 2 ∧
  ∀ v, Entered n X gi v → Q v H
theorem ok_entering (T : Txt K mg) : FnOk P w K mg base CX0 1 T.a_tb_entering T.d_tb_entering ["self", "goal"] (sp_entering T.C) := by
  refine T.F_tb_entering.ok sc_tb_entering (fun vs H Q E h => ?_) (fun cdv A outer s H vs Q E hr h => ?_)
  · obtain ⟨p, l, b, g, n, m, gi, X, rfl, _⟩ := h; rfl
  · obtain ⟨p, l, b, g, n, m, gi, X, rfl, hT, ok, hg, q⟩ := h
    obtain ⟨dx, hp⟩ := hT.ob
    have hn := ok.hn
    obtain ⟨ga, gs, hgl, hga, hgr⟩ := hT.goals.get (k := gi) (by rw [ok.gl]; exact hg)
    obtain ⟨gwl, _⟩ := ok.goal hg
    refine ⟨_, (pss_cons (ps_for PassesOwn.never rfl (pi_range1 (by rfl) T.z_range (pa_cons (pe_fld (pv 0) rfl) pa_nil)) (pg_name (i := 2) sc_tb_entering.nd rfl (Or.inl rfl))
        (pss_one (ps_if (pt_cmpR op_lt (pe_ix ix_list (pe_ix ix_list (pe_fld (pv 0) rfl) (pv 1) (fun _ _ => rfl)) (pv 2) (fun _ _ => rfl)) pe_int (nomark _))
            (pss_one (ps_ret (pv 2)))
            pss_nil)))
      (pss_one (ps_ret pe_non))), ?_⟩
    refine ⟨_, rfl, p, T.C, dx, _, _, rfl, hp, T.cl, T.n_many, fs_many, _, rfl, by omega, by omega, ?_⟩
    refine for_it (walk_rg (n := n)) (fun i σ H1 => (∃ v2 : Option V, σ = [some (.ref p), some (.int gi), v2]) ∧ H1 = H ∧ ∀ j, j < i → 0 ≤ X.G gi j) ⟨⟨none, rfl⟩, rfl, fun j hj => absurd hj (Nat.not_lt_zero _)⟩ (fun _ _ _ _ _ => trivial) ?_ ?_
    · rintro i x σ H1 H1' hi ⟨⟨v2, rfl⟩, rfl, hj⟩ ⟨rfl, rfl⟩
      refine ⟨_, rfl, p, T.C, dx, _, _, rfl, hp, T.cl, T.n_goals, fs_goals, _, rfl, g, _, _, _, rfl, rfl, sqL hgl, hga, _, rfl, ga, _, _, _, rfl, rfl, sqL hgr, int_at (j := i) (by rw [gwl]; omega), _, _, rfl, rfl, _, rfl, ?_⟩
      refine ite2 (fun e => ?_) (fun e => ?_)
      · exact ⟨_, rfl, q _ (.inl ⟨i, rfl, hi, of_decide_eq_true e, hj⟩)⟩
      · refine ⟨⟨_, rfl⟩, rfl, fun j hj' => ?_⟩
        by_cases z : j = i
        · subst z
          have : ¬ (X.G gi j < 0) := fun y => e (decide_eq_true y)
          omega
        · exact hj j (by omega)
    · rintro σ H1 ⟨⟨v2, rfl⟩, rfl, hj⟩
      exact q _ (.inr ⟨rfl, hj⟩)
/-! ### leaving -/
/-- the row that goes, of the rows ahead of q -/
def BestP (X : Lp.Tab) (L c q r : Nat) : Prop := r < q ∧ 0 < X.T r c ∧ (∀ k, k < q → 0 < X.T k c → X.T r L * X.T k c ≤ X.T k L * X.T r c) ∧ ∀ k, k < q → 0 < X.T k c → X.T r L * X.T k c = X.T k L * X.T r c → X.b r ≤ X.b k
theorem best_next {X : Lp.Tab} {L c q r : Nat} (B : BestP X L c q r) (h : ¬ 0 < X.T q c) : BestP X L c (q + 1) r := by
  obtain ⟨b1, b2, b3, b4⟩ := B
  refine ⟨by omega, b2, fun k hk hp => ?_, fun k hk hp => ?_⟩
  · by_cases e : k = q
    · subst e; exact absurd hp h
    · exact b3 k (by omega) hp
  · by_cases e : k = q
    · subst e; exact absurd hp h
    · exact b4 k (by omega) hp
theorem best_keep {X : Lp.Tab} {L c q r : Nat} (B : BestP X L c q r) (h1 : ¬ X.T q L * X.T r c < X.T r L * X.T q c) (h2 : ¬ (X.T q L * X.T r c = X.T r L * X.T q c ∧ X.b q < X.b r)) : BestP X L c (q + 1) r := by
  obtain ⟨b1, b2, b3, b4⟩ := B
  refine ⟨by omega, b2, fun k hk hp => ?_, fun k hk hp he => ?_⟩
  · by_cases e : k = q
    · subst e; omega
    · exact b3 k (by omega) hp
  · by_cases e : k = q
    · subst e
      have : ¬ X.b k < X.b r := fun z => h2 ⟨he.symm, z⟩
      omega
    · exact b4 k (by omega) hp he
theorem best_take {X : Lp.Tab} {L c q r : Nat} (B : BestP X L c q r) (hq : 0 < X.T q c) (h : X.T q L * X.T r c < X.T r L * X.T q c ∨ X.T q L * X.T r c = X.T r L * X.T q c ∧ X.b q < X.b r) : BestP X L c (q + 1) q := by
  obtain ⟨b1, b2, b3, b4⟩ := B
  have le : X.T q L * X.T r c ≤ X.T r L * X.T q c := by rcases h with h | h <;> omega
  have tr : ∀ k, k < q → 0 < X.T k c → X.T q L * X.T k c ≤ X.T k L * X.T q c := fun k hk hp => by
    have a1 := b3 k hk hp
    refine Int.le_of_mul_le_mul_right (a := X.T r c) ?_ b2
    have a2 := Int.mul_le_mul_of_nonneg_right le (Int.le_of_lt hp)
    have a3 := Int.mul_le_mul_of_nonneg_right a1 (Int.le_of_lt hq)
    have e1 : X.T q L * X.T k c * X.T r c = X.T q L * X.T r c * X.T k c := by grind
    have e2 : X.T r L * X.T q c * X.T k c = X.T r L * X.T k c * X.T q c := by grind
    have e3 : X.T k L * X.T r c * X.T q c = X.T k L * X.T q c * X.T r c := by grind
    omega
  refine ⟨by omega, hq, fun k hk hp => ?_, fun k hk hp he => ?_⟩
  · by_cases e : k = q
    · subst e; exact Int.le_refl _
    · exact tr k (by omega) hp
  · by_cases e : k = q
    · subst e; exact Nat.le_refl _
    · have a1 := b3 k (by omega) hp
      -- equal ratios: r's row is as good as k's, q's no worse than r's
      have e4 : X.T r L * X.T k c = X.T k L * X.T r c ∧ X.T q L * X.T r c = X.T r L * X.T q c := by
        have a2 := Int.mul_le_mul_of_nonneg_right le (Int.le_of_lt hp)
        have a3 := Int.mul_le_mul_of_nonneg_right a1 (Int.le_of_lt hq)
        have e1 : X.T q L * X.T k c * X.T r c = X.T q L * X.T r c * X.T k c := by grind
        have e2 : X.T r L * X.T q c * X.T k c = X.T r L * X.T k c * X.T q c := by grind
        have e3 : X.T k L * X.T r c * X.T q c = X.T k L * X.T q c * X.T r c := by grind
        have e5 : X.T q L * X.T k c * X.T r c = X.T k L * X.T q c * X.T r c := by rw [he]
        refine ⟨?_, ?_⟩
        · refine Int.eq_of_mul_eq_mul_right (show X.T q c ≠ 0 by omega) ?_
          omega
        · refine Int.eq_of_mul_eq_mul_right (show X.T k c ≠ 0 by omega) ?_
          omega
      have b5 := b4 k (by omega) hp e4.1
      rcases h with h | h
      · omega
      · omega
theorem best_first {X : Lp.Tab} {L c q : Nat} (no : ∀ k, k < q → ¬ 0 < X.T k c) (hq : 0 < X.T q c) : BestP X L c (q + 1) q := by
  refine ⟨by omega, hq, fun k hk hp => ?_, fun k hk hp he => ?_⟩
  · by_cases e : k = q
    · subst e; exact Int.le_refl _
    · exact absurd hp (no k (by omega))
  · by_cases e : k = q
    · subst e; exact Nat.le_refl _
    · exact absurd hp (no k (by omega))
theorem sc_tb_leaving : FnScope ["self", "column", "best", "at", "row", "left", "right"] ["self", "column"] (defScope s_tb_leaving) := ⟨rfl, rfl, rfl, by decide +kernel, rfl, by decide +kernel, by decide +kernel⟩
def sp_leaving (C : Addr) : Sp := fun vs H Q _ => ∃ (p l b g : Addr) (n m c : Nat) (X : Lp.Tab), vs = [.ref p, .int c] ∧ TabAt C H p n m l b g X ∧ TabOk n m X ∧ c < n + m + 1 ∧
  ∀ H', Same H H' → (∀ r : Nat, BestP X (n + m) c m r → Q (.int r) H') ∧ ((∀ k, k < m → ¬ 0 < X.T k c) → Q .non H')
theorem ok_leaving (T : Txt K mg) : FnOk P w K mg base CX0 1 T.a_tb_leaving T.d_tb_leaving ["self", "column"] (sp_leaving T.C) := by
  refine T.F_tb_leaving.ok sc_tb_leaving (fun vs H Q E h => ?_) (fun cdv A outer s H vs Q E hr h => ?_)
  · obtain ⟨p, l, b, g, n, m, c, X, rfl, _⟩ := h; rfl
  · obtain ⟨p, l, b, g, n, m, c, X, rfl, hT, ok, hc, q⟩ := h
    obtain ⟨dx, hp⟩ := hT.ob
    obtain ⟨rs, hrl, hlen, hrs⟩ := hT.rows.item
    rw [ok.rl] at hlen
    have ent : ∀ k j, k < m → j < n + m + 1 → ((X.rows.getD k []).getD j 0).natAbs < 2 ^ 160 := fun k j hk hj => small_at (ok.row hk).2 j
    refine ⟨_, (pss_cons (ps_set (i := 2) sc_tb_leaving.nd rfl (Or.inl rfl) pe_non)
      (pss_cons (ps_for PassesOwn.never rfl (pi_enum (by rfl) T.z_enumerate (pa_cons (pe_fld (pv 0) rfl) pa_nil)) (pg_tup rfl (pgs_cons (pg_name (i := 3) sc_tb_leaving.nd rfl (Or.inl rfl)) (pgs_cons (pg_name (i := 4) sc_tb_leaving.nd rfl (Or.inl rfl)) pgs_nil)))
        (pss_one (ps_if (pt_cmpR op_gt (pe_ix ix_list (pv 4) (pv 1) (fun _ _ => rfl)) pe_int (nomark _))
            (pss_one (ps_if (pt_cmpR op_isN (pv 2) pe_non (nomark _))
                (pss_one (ps_set (i := 2) sc_tb_leaving.nd rfl (Or.inl rfl) (pv 3)))
                (pss_cons (ps_par (i := 5) (j := 6) (by rfl) sc_tb_leaving.nd rfl rfl (by decide) rfl rfl (pa_cons (pe_op op_mulW (pe_ix ix_list (pv 4) (pe_un un_neg pe_int) (fun _ _ => rfl)) (pe_ix ix_list (pe_ix ix_list (pe_fld (pv 0) rfl) (pv 2) (fun _ _ => rfl)) (pv 1) (fun _ _ => rfl))) (pa_cons (pe_op op_mulW (pe_ix ix_list (pe_ix ix_list (pe_fld (pv 0) rfl) (pv 2) (fun _ _ => rfl)) (pe_un un_neg pe_int) (fun _ _ => rfl)) (pe_ix ix_list (pv 4) (pv 1) (fun _ _ => rfl))) pa_nil)) (by rfl))
                  (pss_one (ps_if (PW.pt (pw_or (pt_cmpR op_lt (pv 5) (pv 6) (nomark _)) (pw_or1 (PW.pt (pw_and (pt_cmpR op_eq (pv 5) (pv 6) (nomark _)) (pw_and1 (pt_cmpR op_lt (pe_ix ix_list (pe_fld (pv 0) rfl) (pv 3) (fun _ _ => rfl)) (pe_ix ix_list (pe_fld (pv 0) rfl) (pv 2) (fun _ _ => rfl)) (nomark _))))))))
                    (pss_one (ps_set (i := 2) sc_tb_leaving.nd rfl (Or.inl rfl) (pv 3)))
                    pss_nil)))))
            pss_nil)))
      (pss_one (ps_ret (pv 2))))), ?_⟩
    refine ⟨_, rfl, p, T.C, dx, _, _, rfl, hp, T.cl, T.n_rows, fs_rows, l, rs, rfl, sqL hrl, ?_⟩
    refine for_it walk_enum (fun i σ H1 => Same H H1 ∧ ((∃ v3 v4 v5 v6 : Option V, σ = [some (.ref p), some (.int c), some .non, v3, v4, v5, v6]) ∧ (∀ k, k < i → ¬ 0 < X.T k c) ∨ ∃ (r : Nat) (v3 v4 v5 v6 : Option V), σ = [some (.ref p), some (.int c), some (.int r), v3, v4, v5, v6] ∧ BestP X (n + m) c i r))
      ⟨Same.refl H, .inl ⟨⟨none, none, none, none, rfl⟩, fun k hk => absurd hk (Nat.not_lt_zero _)⟩⟩ (fun i σ H1 _ h => Same.seq h.1 (sqL hrl)) ?_ ?_
    · rintro i x σ H1 H1' hi ⟨sm, hst⟩ ⟨t, y1, y2, rfl, nt, rfl, e3, e4⟩
      cases e3
      have st : Same H1 (upd H1 t (.tup [.int (i : Nat), y2])) := same_upd nt
      obtain ⟨ra, rfl, hik, hra⟩ := hrs i y2 e4
      rw [ok.rl] at hik
      have s2 := sm.trans st
      have hra2 := s2 _ _ hra
      have hp2 := s2 _ _ hp
      have rwl := (ok.row hik).1
      have cell : ∀ (k : Nat), k < m → ∃ a, atI rs (k : Int) = some (.ref a) ∧ (upd H1 t (.tup [.int (i : Nat), .ref ra])) a = some (.lst ((X.rows.getD k []).map V.int)) := fun k hk => by
        obtain ⟨a, ea, _, ha⟩ := hrs k (rs[k]'(by omega)) (List.getElem?_eq_getElem (by omega))
        exact ⟨a, atI_nat (by rw [List.getElem?_eq_getElem (by omega), ea]), s2 _ _ ha⟩
      rcases hst with ⟨⟨v3, v4, v5, v6, rfl⟩, no⟩ | ⟨r, v3, v4, v5, v6, rfl, B⟩
      · refine ⟨t, _, rfl, sqT upd_same, rfl, _, _, rfl, _, _, rfl, rfl, ?_⟩
        refine ⟨_, rfl, _, rfl, ra, _, (c : Int), _, rfl, rfl, sqL hra2, int_at (by rw [rwl]; exact hc), _, _, rfl, rfl, _, rfl, ite2 (fun e => ?_) (fun e => ?_)⟩
        · have ep : 0 < X.T i c := of_decide_eq_true e
          exact ⟨_, rfl, rfl, _, rfl, _, rfl, s2, .inr ⟨i, _, _, _, _, rfl, best_first no ep⟩⟩
        · have ep : ¬ 0 < X.T i c := fun z => e (decide_eq_true z)
          refine ⟨s2, .inl ⟨⟨_, _, _, _, rfl⟩, fun k hk => ?_⟩⟩
          by_cases z : k = i
          · rw [z]; exact ep
          · exact no k (by omega)
      · obtain ⟨ba, eba, hba⟩ := cell r (by have := B.1; omega)
        have brl := (ok.row (k := r) (by have := B.1; omega)).1
        refine ⟨t, _, rfl, sqT upd_same, rfl, _, _, rfl, _, _, rfl, rfl, ?_⟩
        refine ⟨_, rfl, _, rfl, ra, _, (c : Int), _, rfl, rfl, sqL hra2, int_at (by rw [rwl]; exact hc), _, _, rfl, rfl, _, rfl, ite2 (fun e => ?_) (fun e => ?_)⟩
        · have ep : 0 < X.T i c := of_decide_eq_true e
          have hrm : r < m := by have := B.1; omega
          have hb1 : ∀ k, k < m → atI (X.base.map fun k : Nat => V.int (k : Int)) (k : Int) = some (.int ((X.b k : Nat) : Int)) := fun k hk => atI_nat (by
            have hk' : k < X.base.length := by rw [ok.bl]; exact hk
            rw [List.getElem?_map, List.getElem?_eq_getElem hk']
            show some (V.int ((X.base[k] : Nat) : Int)) = some (V.int ((X.base.getD k 0 : Nat) : Int))
            rw [Lp.getD_lt 0 hk'])
          refine ⟨_, rfl, rfl, _, rfl, ?_⟩
          -- left, right
          refine ⟨_, rfl, _, rfl, ra, _, -1, _, rfl, rfl, sqL hra2, int_last rwl, ?_⟩
          refine ⟨_, rfl, p, T.C, dx, _, _, rfl, hp2, T.cl, T.n_rows, fs_rows, _, rfl, l, _, _, _, rfl, rfl, sqL (s2 _ _ hrl), eba, _, rfl, ba, _, _, _, rfl, rfl, sqL hba, int_at (by rw [brl]; exact hc), _, _, rfl, rfl, wide_mul (ent i _ hik (by omega)) (ent r _ hrm hc) (by decide) (by decide) (by decide), ?_⟩
          refine ⟨_, rfl, p, T.C, dx, _, _, rfl, hp2, T.cl, T.n_rows, fs_rows, _, rfl, l, _, _, _, rfl, rfl, sqL (s2 _ _ hrl), eba, _, rfl, ba, _, -1, _, rfl, rfl, sqL hba, int_last brl, _, rfl, _, rfl, ra, _, _, _, rfl, rfl, sqL hra2, int_at (by rw [rwl]; exact hc), _, _, rfl, rfl, wide_mul (ent r _ hrm (by omega)) (ent i _ hik hc) (by decide) (by decide) (by decide), _, _, rfl, ?_⟩
          -- the test
          refine ⟨_, rfl, _, rfl, _, _, rfl, rfl, _, rfl, ?_⟩
          refine ite2 (fun e1 => ?_) (fun e1 => ?_)
          · exact ⟨_, rfl, s2, .inr ⟨i, _, _, _, _, rfl, best_take B ep (.inl (of_decide_eq_true e1))⟩⟩
          · have l1 : ¬ X.T i (n + m) * X.T r c < X.T r (n + m) * X.T i c := fun z => e1 (decide_eq_true z)
            refine ⟨_, rfl, _, rfl, rfl, _, rfl, ?_⟩
            refine ite2 (fun e2 => ?_) (fun e2 => ?_)
            · have l2 : X.T i (n + m) * X.T r c = X.T r (n + m) * X.T i c := V.int.inj (of_decide_eq_true e2)
              refine ⟨_, rfl, p, T.C, dx, _, _, rfl, hp2, T.cl, T.n_base, fs_base, _, rfl, b, _, _, _, rfl, rfl, sqL (s2 _ _ hT.base), hb1 i hik, _, rfl, p, T.C, dx, _, _, rfl, hp2, T.cl, T.n_base, fs_base, _, rfl, b, _, _, _, rfl, rfl, sqL (s2 _ _ hT.base), hb1 r hrm, _, _, rfl, rfl, _, rfl, ?_⟩
              refine ite2 (fun e3 => ?_) (fun e3 => ?_)
              · have l3 : X.b i < X.b r := by have := of_decide_eq_true e3; omega
                exact ⟨_, rfl, s2, .inr ⟨i, _, _, _, _, rfl, best_take B ep (.inr ⟨l2, l3⟩)⟩⟩
              · have l3 : ¬ X.b i < X.b r := fun z => e3 (decide_eq_true (by omega))
                exact ⟨s2, .inr ⟨r, _, _, _, _, rfl, best_keep B l1 (fun z => l3 z.2)⟩⟩
            · have l2 : ¬ X.T i (n + m) * X.T r c = X.T r (n + m) * X.T i c := fun z => e2 (decide_eq_true (congrArg V.int z))
              exact ⟨s2, .inr ⟨r, _, _, _, _, rfl, best_keep B l1 (fun z => l2 z.1)⟩⟩
        · have ep : ¬ 0 < X.T i c := fun z => e (decide_eq_true z)
          exact ⟨s2, .inr ⟨r, _, _, _, _, rfl, best_next B ep⟩⟩
    · rintro σ H1 ⟨sm, hst⟩
      rw [hlen] at hst
      rcases hst with ⟨⟨v3, v4, v5, v6, rfl⟩, no⟩ | ⟨r, v3, v4, v5, v6, rfl, B⟩
      · exact ⟨_, rfl, (q H1 sm).2 no⟩
      · exact ⟨_, rfl, (q H1 sm).1 r B⟩
end
end KV
namespace KV
open PySem PySem.Spec PyProof.Rows L2
theorem rows_ext {rows : List (List Int)} {m : Nat} {f : Nat → List Int} (h : rows.length = m) (he : ∀ k, k < m → rows.getD k [] = f k) : rows = (List.range m).map f := by
  apply List.ext_getElem
  · rw [List.length_map, List.length_range, h]
  · intro i h1 h2
    rw [List.getElem_map, List.getElem_range]
    have := he i (by omega)
    rw [Lp.getD_lt [] h1] at this
    exact this
theorem base_ints (l : List Nat) : (l.map fun k : Nat => V.int (k : Int)) = (l.map fun k : Nat => (k : Int)).map V.int := by rw [List.map_map]; rfl
section
variable {P : Program} {w : World} {K : PySem.W.Frag} {mg : Str → Option Value} {base : Heap}
theorem sc_tb_pivot : FnScope ["self", "at", "column", "head", "old", "center", "other", "goal"] ["self", "at", "column"] (defScope s_tb_pivot) := ⟨rfl, rfl, rfl, by decide +kernel, rfl, by decide +kernel, by decide +kernel⟩
def sp_pivot (C : Addr) : Sp := fun vs H Q _ => ∃ (p l b g : Addr) (n m r c : Nat) (X : Lp.Tab), vs = [.ref p, .int r, .int c] ∧ TabAt C H p n m l b g X ∧ TabOk n m X ∧ r < m ∧ c < n + m + 1 ∧
  ∀ H' g', TabAt C H' p n m l b g' (X.piv r c) → SameX (fun a => a = p ∨ a = l ∨ a = b) H H' → Q .non H'
theorem ok_pivot (T : Txt K mg) : FnOk P w K mg base CX0 2 T.a_tb_pivot T.d_tb_pivot ["self", "at", "column"] (sp_pivot T.C) := by
  have G_lowered : FnOk P w K mg base CX0 1 T.a_lowered T.d_lowered ["row", "head", "column", "center", "old"] (sp_lowered K) := ok_lowered T
  refine T.F_tb_pivot.ok sc_tb_pivot (fun vs H Q E h => ?_) (fun cdv A outer s H vs Q E hr h => ?_)
  · obtain ⟨p, l, b, g, n, m, r, c, X, rfl, _⟩ := h; rfl
  · obtain ⟨p, l, b, g, n, m, r, c, X, rfl, hT, ok, hrm, hc, q⟩ := h
    obtain ⟨dx, hp⟩ := hT.ob
    have hn := ok.hn
    have hm := ok.hm
    obtain ⟨ha, rs, hrl, hra, hhead⟩ := hT.rows.get (k := r) (by rw [ok.rl]; exact hrm)
    obtain ⟨hdl, hds⟩ := ok.row hrm
    have sce : ((X.rows.getD r []).getD c 0).natAbs < 2 ^ 160 := small_at hds c
    refine ⟨_, (pss_cons (ps_asg (pe_tup (pa_cons (pe_ix ix_list (pe_fld (pv 0) rfl) (pv 1) (fun _ _ => rfl)) (pa_cons (pe_fld (pv 0) rfl) pa_nil))) (pg_tup rfl (pgs_cons (pg_name (i := 3) sc_tb_pivot.nd rfl (Or.inr rfl)) (pgs_cons (pg_name (i := 4) sc_tb_pivot.nd rfl (Or.inr rfl)) pgs_nil))))
      (pss_cons (ps_set (i := 5) sc_tb_pivot.nd rfl (Or.inr rfl) (pe_ix ix_list (pv 3) (pv 2) (fun _ _ => rfl)))
      (pss_cons (ps_for PassesOwn.never rfl (pi_range1 (by rfl) T.z_range (pa_cons (pe_fld (pv 0) rfl) pa_nil)) (pg_name (i := 6) sc_tb_pivot.nd rfl (Or.inl rfl))
        (pss_one (ps_if (pt_cmpR op_ne (pv 6) (pv 1) (nomark _))
            (pss_one (ps_asg (pe_call G_lowered (hr.mono (by decide)) (by rfl) T.g_lowered T.F_lowered.kp T.b_lowered .nil pass0 (pa_cons (pe_ix ix_list (pe_fld (pv 0) rfl) (pv 6) (fun _ _ => rfl)) (pa_cons (pv 3) (pa_cons (pv 2) (pa_cons (pv 5) (pa_cons (pv 4) pa_nil)))))) (pg_sub (pe_fld (pv 0) rfl) (pv 6) set_list)))
            pss_nil)))
      (pss_cons (ps_fld (pv 0) (pe_lc (own := [("goal", 7)]) (by rfl) sc_tb_pivot.nd (pi_list (pe_fld (pv 0) rfl)) (blkOk_by (own := [("goal", 7)]) (N := ["self", "at", "column", "head", "old", "center", "other", "goal"]) (sc := defScope s_tb_pivot) (by decide +kernel)) (fun _ _ _ _ _ => (pg_name (i := 7) sc_tb_pivot.nd rfl (Or.inl rfl))) (fun _ _ _ _ _ => pts_nil) (fun _ _ _ _ _ => (pe_call G_lowered (hr.mono (by decide)) (by rfl) T.g_lowered T.F_lowered.kp T.b_lowered .nil pass0 (pa_cons (pv 7) (pa_cons (pv 3) (pa_cons (pv 2) (pa_cons (pv 5) (pa_cons (pv 4) pa_nil)))))))) rfl)
      (pss_cons (ps_fld (pv 0) (pv 5) rfl)
      (pss_one (ps_asg (pv 2) (pg_sub (pe_fld (pv 0) rfl) (pv 1) set_list)))))))), ?_⟩
    -- head, old = (self.rows[at], self.scale)
    refine ⟨_, rfl, p, T.C, dx, _, _, rfl, hp, T.cl, T.n_rows, fs_rows, _, rfl, l, _, _, _, rfl, rfl, sqL hrl, hra, ?_⟩
    refine ⟨_, rfl, p, T.C, dx, _, _, rfl, hp, T.cl, T.n_scale, fs_scale, szl' (by show 2 ≤ 1000000; decide), fun t nt => ?_⟩
    have s0 : Same H (upd H t (.tup [.ref ha, .int X.scale])) := same_upd nt
    refine ⟨t, _, rfl, sqT upd_same, rfl, _, _, rfl, _, _, rfl, rfl, ?_⟩
    generalize hH0 : upd H t (.tup [.ref ha, .int X.scale]) = H0 at s0 ⊢
    have T0 : TabAt T.C H0 p n m l b g X := TabAt.same s0 hT
    have hp0 := s0 _ _ hp
    have hhead0 := s0 _ _ hhead
    -- center = head[column]
    refine ⟨_, rfl, _, rfl, ha, _, _, _, rfl, rfl, sqL hhead0, int_at (by rw [hdl]; exact hc), ?_⟩
    -- the rows in turn
    obtain ⟨as0, el0, las0, _⟩ := id T0.rows
    have ne0 : as0 ≠ [] := fun e => by rw [e, ok.rl] at las0; simp at las0; omega
    have hal : ha ≠ l := ref_int_ne (vs := []) el0 hhead0 (.inl ne0)
    have hpl : p ≠ l := ne_of hp0 el0 (by intro z; cases z)
    refine ⟨_, rfl, p, T.C, dx, _, _, rfl, hp0, T.cl, T.n_size, fs_size, _, rfl, by omega, by omega, ?_⟩
    refine for_it (walk_rg (n := m)) (fun i σ H1 => (∃ v6 : Option V, σ = [some (.ref p), some (.int r), some (.int c), some (.ref ha), some (.int X.scale), some (.int ((X.rows.getD r []).getD c 0)), v6, none]) ∧ SameX (fun a => a = l) H0 H1 ∧
        ∃ rows', RowsAt H1 l rows' ∧ rows'.length = m ∧ ∀ k, k < m → rows'.getD k [] = if k < i ∧ k ≠ r then Lp.low (X.rows.getD k []) (X.rows.getD r []) c ((X.rows.getD r []).getD c 0) X.scale else X.rows.getD k [])
      ⟨⟨none, rfl⟩, SameX.refl _ _, X.rows, T0.rows, ok.rl, fun k _ => (if_neg (fun z => absurd z.1 (Nat.not_lt_zero _))).symm⟩ (fun _ _ _ _ _ => trivial) ?_ ?_
    · rintro i x σ H1 H1' hi ⟨⟨v6, rfl⟩, sx, rows', hR, hRl, hRe⟩ ⟨rfl, rfl⟩
      have hp1 := sx _ _ hp0 hpl
      have hh1 := sx _ _ hhead0 hal
      refine ⟨_, rfl, _, rfl, rfl, _, rfl, ?_⟩
      by_cases e : i = r
      · subst e
        rw [decide_eq_true (show V.int (i : Int) = V.int (i : Int) from rfl)]
        refine ⟨⟨_, rfl⟩, sx, rows', hR, hRl, fun k hk => ?_⟩
        rw [hRe k hk]
        by_cases z : k < i ∧ k ≠ i
        · rw [if_pos z, if_pos ⟨by omega, z.2⟩]
        · rw [if_neg z, if_neg (by omega)]
      · rw [decide_eq_false (fun z => e (by have := V.int.inj z; omega))]
        obtain ⟨ia, vs, evl, eia, hia⟩ := hR.get (k := i) (by rw [hRl]; exact hi)
        have eri : rows'.getD i [] = X.rows.getD i [] := by rw [hRe i hi, if_neg (fun z => absurd z.1 (Nat.lt_irrefl _))]
        rw [eri] at hia
        obtain ⟨rwl, rws⟩ := ok.row (k := i) hi
        refine ⟨_, rfl, p, T.C, dx, _, _, rfl, hp1, T.cl, T.n_rows, fs_rows, _, rfl, l, _, _, _, rfl, rfl, sqL evl, eia, ?_⟩
        refine ⟨_, rfl, _, rfl, _, rfl, _, rfl, ia, ha, X.rows.getD i [], X.rows.getD r [], c, _, X.scale, rfl, sqL hia, sqL hh1, by rw [rwl, hdl], by rw [rwl]; exact hc, by rw [rwl]; omega, rws, hds, sce, ok.d0, ok.ds, fun H2 D s2 nD eD => ?_⟩
        have evl2 := s2 _ _ evl
        have hvl : vs.length = m := by
          obtain ⟨as, ea, la, _⟩ := id hR
          rw [ea] at evl
          have : as.map V.ref = vs := by injection (Option.some.inj evl)
          rw [← this, List.length_map, la, hRl]
        refine ⟨_, rfl, p, T.C, dx, _, _, rfl, s2 _ _ hp1, T.cl, T.n_rows, fs_rows, _, rfl, l, vs, i, i, rfl, rfl, evl2, ?_, ?_⟩
        · unfold ixN
          rw [if_pos (by omega), if_pos (by omega)]; simp
        refine ⟨⟨_, rfl⟩, SameX.trans (SameX.trans sx (Same.toX s2)) (SameX.upd rfl), rows'.set i (Lp.low (X.rows.getD i []) (X.rows.getD r []) c ((X.rows.getD r []).getD c 0) X.scale), RowsAt.set (hR.same s2) evl2 (by rw [hRl]; exact hi) eD, by rw [List.length_set, hRl], fun k hk => ?_⟩
        rw [Lp.getD_set _ _ (by rw [hRl]; exact hi)]
        by_cases z : k = i
        · subst z
          rw [if_pos rfl, if_pos ⟨by omega, e⟩]
        · rw [if_neg z, hRe k hk]
          by_cases z2 : k < i ∧ k ≠ r
          · rw [if_pos z2, if_pos ⟨by omega, z2.2⟩]
          · rw [if_neg z2, if_neg (fun z3 => z2 ⟨by omega, z3.2⟩)]
    · rintro σ H1 ⟨⟨v6, rfl⟩, sx, rows', hR, hRl, hRe⟩
      have hp1 := sx _ _ hp0 hpl
      have hh1 := sx _ _ hhead0 hal
      have hlb : l ≠ b := (ref_int_ne (H := H0) (vs := []) el0 (r := X.base.map fun k : Nat => (k : Int)) (by rw [← base_ints]; exact T0.base) (.inl ne0)).symm
      have hb1 : H1 b = some (.lst (X.base.map fun k : Nat => V.int (k : Int))) := sx _ _ T0.base hlb.symm
      have hg1 : RowsAt H1 g X.goals := T0.goals.sameX sx T0.lg.symm fun a r hr e => ref_int_ne (vs := []) el0 e (.inl ne0)
      obtain ⟨gvs, hgv, hgvl, hgvr⟩ := hg1.item
      -- self.goals = [lowered(goal, ..) for goal in self.goals]
      refine ⟨_, rfl, p, T.C, dx, _, _, rfl, hp1, T.cl, T.n_goals, fs_goals, g, rfl, ⟨_, sqL hgv⟩, fun D hD => ?_⟩
      refine lc_it walk_list (fun j H2 => Same H1 H2 ∧ ∃ acc, H2 D = some (.lst acc) ∧ acc.length = j ∧ RowsAt H2 D ((X.goals.take j).map fun gr => Lp.low gr (X.rows.getD r []) c ((X.rows.getD r []).getD c 0) X.scale))
        ⟨same_upd hD, [], upd_same, rfl, [], upd_same, rfl, fun k a ha => by simp at ha⟩ (fun j H2 _ h => Same.seq h.1 (sqL hgv)) ?_ ?_
      · rintro j x H2 H2' hj ⟨s2, acc, eD, lacc, hG⟩ ⟨rfl, hx⟩
        obtain ⟨ga, rfl, hgj, hga⟩ := hgvr j x hx
        obtain ⟨gwl, gws⟩ := ok.goal (k := j) (by rw [← ok.gl]; exact hgj)
        refine ⟨rfl, _, rfl, _, rfl, _, rfl, _, rfl, _, rfl, ga, ha, X.goals.getD j [], X.rows.getD r [], c, _, X.scale, rfl, sqL (s2 _ _ hga), sqL (s2 _ _ hh1), by rw [gwl, hdl], by rw [gwl]; exact hc, by rw [gwl]; omega, gws, hds, sce, ok.d0, ok.ds, fun H3 D2 s3 nD2 eD2 => ?_⟩
        refine ⟨acc, s3 _ _ eD, szl (by rw [lacc]; rw [ok.gl] at hgj; omega), same_put (s2.trans s3) hD, acc ++ [.ref D2], upd_same, by rw [List.length_append, lacc]; rfl, ?_⟩
        have hgt : X.goals.take (j + 1) = X.goals.take j ++ [X.goals.getD j []] := by
          rw [List.take_add_one, List.getElem?_eq_getElem hgj, Lp.getD_lt [] hgj]; rfl
        rw [hgt, List.map_append]
        rcases RowsAt.push (hG.same s3) (s3 _ _ eD) eD2 with z | z
        · exact z
        · exact absurd z (ne_of_none eD nD2).symm
      · rintro H2 ⟨s2, acc, eD, lacc, hG⟩
        rw [hgvl, List.take_length] at hG
        have hp2 := s2 _ _ hp1
        refine ⟨_, rfl, p, T.C, dx, _, rfl, hp2, T.cl, T.n_goals, fs_len, ?_⟩
        rw [fs_pgoals]
        -- self.scale = center
        refine ⟨_, rfl, _, rfl, p, T.C, dx, _, rfl, upd_same, T.cl, T.n_scale, fs_len, ?_⟩
        rw [fs_pscale, upd_upd]
        generalize hH3 : upd H2 p (.ins T.C dx (fsT n m l b D ((X.rows.getD r []).getD c 0))) = H3
        have hp3 : H3 p = some (.ins T.C dx (fsT n m l b D ((X.rows.getD r []).getD c 0))) := by rw [← hH3, upd_same]
        have sx3 : SameX (fun a => a = p) H2 H3 := by rw [← hH3]; exact SameX.upd rfl
        have hpb : p ≠ b := ne_of hp1 hb1 (by intro z; cases z)
        have hb3 : H3 b = some (.lst (X.base.map fun k : Nat => V.int (k : Int))) := sx3 _ _ (s2 _ _ hb1) hpb.symm
        -- self.base[at] = column
        refine ⟨_, rfl, _, rfl, p, T.C, dx, _, _, rfl, hp3, T.cl, T.n_base, fs_base, _, rfl, b, _, _, r, rfl, rfl, hb3, ?_, ?_⟩
        · unfold ixN
          rw [List.length_map, ok.bl, if_pos (by omega), if_pos (by omega)]; simp
        have hDl : D ≠ l := by
          obtain ⟨as, ea, _⟩ := hR
          exact (ne_of_none ea hD).symm
        have hDp : D ≠ p := (ne_of_none hp1 hD).symm
        have hDb : D ≠ b := (ne_of_none hb1 hD).symm
        have nb : ∀ (a : Addr) (row : List Int), H3 a = some (.lst (row.map V.int)) → row.length = n + m + 1 → a ≠ b := fun a row h hl => len_ne h hb3 (by rw [List.length_map, List.length_map, hl, ok.bl]; omega)
        have eR : rows' = (X.piv r c).rows := by
          show rows' = (List.range X.rows.length).map fun k => if k = r then X.rows.getD r [] else Lp.low (X.rows.getD k []) (X.rows.getD r []) c (X.T r c) X.scale
          rw [ok.rl]
          refine rows_ext hRl fun k hk => ?_
          rw [hRe k hk]
          by_cases z : k = r
          · rw [if_neg (fun y => y.2 z), if_pos z, z]
          · rw [if_pos ⟨hk, z⟩, if_neg z]; rfl
        have rlen : ∀ row, row ∈ rows' → row.length = n + m + 1 := fun row hrow => by
          obtain ⟨k, hk, rfl⟩ := List.getElem_of_mem hrow
          have := hRe k (by omega)
          rw [Lp.getD_lt [] hk] at this
          rw [this]
          split
          · rw [Lp.low_len _ _ _ (by rw [(ok.row (show k < m by omega)).1, hdl])]; exact (ok.row (by omega)).1
          · exact (ok.row (by omega)).1
        have glen : ∀ row, row ∈ (X.goals.map fun gr => Lp.low gr (X.rows.getD r []) c ((X.rows.getD r []).getD c 0) X.scale) → row.length = n + m + 1 := fun row hrow => by
          obtain ⟨gr, hgr, rfl⟩ := List.mem_map.mp hrow
          rw [Lp.low_len _ _ _ (by rw [(ok.gw gr hgr).1, hdl])]; exact (ok.gw gr hgr).1
        have hR2 : RowsAt H3 l rows' := (hR.same s2).sameX sx3 hpl.symm fun a row _ e => ne_of e hp2 (by intro z; cases z)
        have hG3 : RowsAt H3 D (X.goals.map fun gr => Lp.low gr (X.rows.getD r []) c ((X.rows.getD r []).getD c 0) X.scale) := hG.sameX sx3 hDp fun a row _ e => ne_of e hp2 (by intro z; cases z)
        have sxb : SameX (fun a => a = b) H3 (upd H3 b (.lst ((X.base.map fun k : Nat => V.int (k : Int)).set r (.int c)))) := SameX.upd rfl
        refine q _ D ⟨⟨dx, ?_⟩, ?_, ?_, ?_, hDl.symm⟩ ?_
        · rw [upd_ne hpb]; exact hp3
        · rw [← eR]
          exact hR2.sameX sxb hlb fun a row hrow e => nb a row e (rlen row hrow)
        · rw [upd_same]
          show some (HO.lst ((X.base.map fun k : Nat => V.int (k : Int)).set r (V.int (c : Int)))) = some (HO.lst ((X.base.set r c).map fun k : Nat => V.int (k : Int)))
          rw [List.map_set]
        · exact hG3.sameX sxb hDb fun a row hrow e => nb a row e (glen row hrow)
        · refine SameX.trans (H1 := H0) (Same.toX s0) ?_
          refine SameX.trans (H1 := H1) (sx.mono fun a e => .inr (.inl e)) ?_
          refine SameX.trans (H1 := H2) (Same.toX s2) ?_
          exact SameX.trans (sx3.mono fun a e => .inl e) (sxb.mono fun a e => .inr (.inr e))
end
end KV
namespace KV
open PySem PySem.Spec PyProof.Rows L2
/-! ### from the mathematics: numbers stay of a size that the machine takes -/
theorem nat_of_ab {x : Int} (h : Lp.ab x ≤ 10 ^ 40) : x.natAbs < 2 ^ 160 := by
  unfold Lp.ab at h
  have : ((x.natAbs : Nat) : Int) < 2 ^ 160 := Int.lt_of_le_of_lt h (by decide)
  omega
theorem small_of_getD {l : List Int} {N : Nat} (hl : l.length = N) (h : ∀ j, j < N → Lp.ab (l.getD j 0) ≤ 10 ^ 40) : SmallL l := fun v hv => by
  obtain ⟨j, hj, rfl⟩ := List.getElem_of_mem hv
  have := h j (by omega)
  rw [Lp.getD_lt 0 hj] at this
  exact nat_of_ab this
theorem mem_getD {rows : List (List Int)} {r : List Int} (h : r ∈ rows) : ∃ k, k < rows.length ∧ r = rows.getD k [] := by
  obtain ⟨k, hk, rfl⟩ := List.getElem_of_mem h
  exact ⟨k, hk, by rw [Lp.getD_lt [] hk]⟩
theorem tabOk_of {I : Lp.Ins} (w : Lp.WF I) {X : Lp.Tab} (V : Lp.LInv (Lp.sysOf I) (Lp.csOf I) X) : TabOk I.W I.M X := by
  have sm := Lp.small_of w V
  have hW := w.W
  have hM := w.M
  refine ⟨by omega, by omega, V.shp.rl, fun r hr => ?_, V.shp.gl, fun r hr => ?_, V.shp.bl, sm.d0, ?_⟩
  · obtain ⟨k, hk, rfl⟩ := mem_getD hr
    have hk' : k < I.M := by rw [V.shp.rl] at hk; exact hk
    have hl : (X.rows.getD k []).length = I.W + I.M + 1 := V.shp.rw k hk'
    exact ⟨hl, small_of_getD hl fun j hj => Int.le_trans (sm.T k j hk' hj) (by decide)⟩
  · obtain ⟨k, hk, rfl⟩ := mem_getD hr
    have hk' : k < 2 := by rw [V.shp.gl] at hk; exact hk
    have hl : (X.goals.getD k []).length = I.W + I.M + 1 := V.shp.gw k hk'
    exact ⟨hl, small_of_getD hl fun j hj => Int.le_trans (sm.G k j hk' hj) (by decide)⟩
  · have h0 := sm.d0
    have h1 := sm.d
    exact nat_of_ab (by rw [Lp.ab_pos (Int.le_of_lt h0)]; exact Int.le_trans h1 (by decide))
theorem tabOk_neg {n m : Nat} {X : Lp.Tab} (o : TabOk n m X) {r : Nat} (hr : r < m) : TabOk n m (X.neg r) := by
  refine ⟨o.hn, o.hm, ?_, fun q hq => ?_, o.gl, o.gw, o.bl, o.d0, o.ds⟩
  · show (X.rows.set r _).length = m
    rw [List.length_set]; exact o.rl
  · have hq' : q ∈ X.rows.set r ((X.rows.getD r []).map fun v => - v) := hq
    rcases List.mem_or_eq_of_mem_set hq' with h | h
    · exact o.rw q h
    · rw [h]
      obtain ⟨h1, h2⟩ := o.row hr
      refine ⟨by rw [List.length_map]; exact h1, fun v hv => ?_⟩
      obtain ⟨u, hu, rfl⟩ := List.mem_map.mp hv
      have := h2 u hu
      omega
/-! ### run -/
/-- ahead of a turn of the run -/
def RunW (C : Addr) (I : Lp.Ins) (p l b : Addr) (gi : Nat) (H : Hp) (k : Nat) (σ : L2.St) (H1 : Hp) : Prop := ∃ (X : Lp.Tab) (g' : Addr) (v3 : Option V), TabAt C H1 p I.W I.M l b g' X ∧ Lp.LInv (Lp.sysOf I) (Lp.csOf I) X ∧ (gi = 1 → Lp.Z2 (Lp.sysOf I) X) ∧ Lp.Ends (Lp.sysOf I) (X.st gi) k ∧ SameX (fun a => a = p ∨ a = l ∨ a = b) H H1 ∧
  ((∃ c : Nat, σ = [some (.ref p), some (.int gi), some (.int c), v3] ∧ c < I.W ∧ X.G gi c < 0 ∧ ∀ j, j < c → 0 ≤ X.G gi j) ∨ (σ = [some (.ref p), some (.int gi), some .non, v3] ∧ ∀ j, j < I.W → 0 ≤ X.G gi j))
section
variable {P : Program} {w : World} {K : PySem.W.Frag} {mg : Str → Option Value} {base : Heap}
theorem sc_tb_run : FnScope ["self", "goal", "column", "at"] ["self", "goal"] (defScope s_tb_run) := ⟨rfl, rfl, rfl, by decide +kernel, rfl, by decide +kernel, by decide +kernel⟩
def sp_run (C : Addr) : Sp := fun vs H Q _ => ∃ (p l b g : Addr) (gi : Nat) (I : Lp.Ins) (X : Lp.Tab), vs = [.ref p, .int gi] ∧ TabAt C H p I.W I.M l b g X ∧ Lp.WF I ∧ Lp.LInv (Lp.sysOf I) (Lp.csOf I) X ∧ gi < 2 ∧ (gi = 1 → Lp.Z2 (Lp.sysOf I) X) ∧
  ∀ H' g' X', TabAt C H' p I.W I.M l b g' X' → Lp.LInv (Lp.sysOf I) (Lp.csOf I) X' → (gi = 1 → Lp.Z2 (Lp.sysOf I) X') → (∀ j, j < I.W → 0 ≤ X'.G gi j) → SameX (fun a => a = p ∨ a = l ∨ a = b) H H' → Q (.bl true) H'
theorem ok_run (T : Txt K mg) : FnOk P w K mg base CX0 3 T.a_tb_run T.d_tb_run ["self", "goal"] (sp_run T.C) := by
  have G_tb_entering : FnOk P w K mg base CX0 1 T.a_tb_entering T.d_tb_entering ["self", "goal"] (sp_entering T.C) := ok_entering T
  have G_tb_leaving : FnOk P w K mg base CX0 1 T.a_tb_leaving T.d_tb_leaving ["self", "column"] (sp_leaving T.C) := ok_leaving T
  have G_tb_pivot : FnOk P w K mg base CX0 2 T.a_tb_pivot T.d_tb_pivot ["self", "at", "column"] (sp_pivot T.C) := ok_pivot T
  refine T.F_tb_run.ok sc_tb_run (fun vs H Q E h => ?_) (fun cdv A outer s H vs Q E hr h => ?_)
  · obtain ⟨p, l, b, g, gi, I, X, rfl, _⟩ := h; rfl
  · obtain ⟨p, l, b, g, gi, I, X, rfl, hT, wf, V, hg, hZ, q⟩ := h
    obtain ⟨dx, hp⟩ := hT.ob
    have nf : ∀ (m : Nat) {l b g : Addr} {d : Int}, (fsT I.W m l b g d).lookup ("entering" : Str) = none ∧ (fsT I.W m l b g d).lookup ("leaving" : Str) = none ∧ (fsT I.W m l b g d).lookup ("pivot" : Str) = none := fun m l b g d =>
      ⟨fs_none (by decide +kernel) (by decide +kernel) (by decide +kernel) (by decide +kernel) (by decide +kernel) (by decide +kernel), fs_none (by decide +kernel) (by decide +kernel) (by decide +kernel) (by decide +kernel) (by decide +kernel) (by decide +kernel), fs_none (by decide +kernel) (by decide +kernel) (by decide +kernel) (by decide +kernel) (by decide +kernel) (by decide +kernel)⟩
    have cf : ∀ j, 0 ≤ Lp.cfg (Lp.sysOf I) (Lp.csOf I) gi j := fun j => by
      unfold Lp.cfg
      split
      · exact Lp.cf0_nn _ j
      · exact Lp.cf1_nn (fun j hj => (wf.costs j hj).1) j
    have cl : Lp.cfg (Lp.sysOf I) (Lp.csOf I) gi ((Lp.sysOf I).n + (Lp.sysOf I).m) = 0 := by
      unfold Lp.cfg
      split
      · exact Lp.cf0_last _
      · exact Lp.cf1_last _ _
    obtain ⟨M, hM⟩ := (V.sinv hg).ends cf cl
    refine ⟨_, (pss_cons (ps_set (i := 2) sc_tb_run.nd rfl (Or.inl rfl) (pe_meth (pv 0) T.cl T.m_tb_entering G_tb_entering (hr.mono (by decide)) T.b_tb_entering .nil pass0 (pa_cons (pv 1) pa_nil)))
      (pss_cons (ps_while PassesOwn.never (pt_cmpR op_notN (pv 2) pe_non (nomark _))
        (pss_cons (ps_set (i := 3) sc_tb_run.nd rfl (Or.inl rfl) (pe_meth (pv 0) T.cl T.m_tb_leaving G_tb_leaving (hr.mono (by decide)) T.b_tb_leaving .nil pass0 (pa_cons (pv 2) pa_nil)))
          (pss_cons (ps_if (pt_cmpR op_isN (pv 3) pe_non (nomark _))
            (pss_one (ps_ret pe_bl))
            pss_nil)
          (pss_cons (ps_expr (pe_meth (pv 0) T.cl T.m_tb_pivot G_tb_pivot (hr.mono (by decide)) T.b_tb_pivot .nil pass0 (pa_cons (pv 3) (pa_cons (pv 2) pa_nil))))
          (pss_one (ps_set (i := 2) sc_tb_run.nd rfl (Or.inl rfl) (pe_meth (pv 0) T.cl T.m_tb_entering G_tb_entering (hr.mono (by decide)) T.b_tb_entering .nil pass0 (pa_cons (pv 1) pa_nil))))))))
      (pss_one (ps_ret pe_bl)))), ?_⟩
    -- column = self.entering(goal); the loop
    refine ⟨_, rfl, p, dx, _, rfl, hp, (nf _).1, _, rfl, p, l, b, g, I.W, I.M, gi, X, rfl, hT, tabOk_of wf V, hg, fun v hv => ?_⟩
    refine ⟨RunW T.C I p l b gi H, ⟨M, X, g, none, hT, V, hZ, hM, SameX.refl _ _, ?_⟩, ?_⟩
    · rcases hv with ⟨c, rfl, hc, hn, hf⟩ | ⟨rfl, hf⟩
      · exact .inl ⟨c, rfl, hc, hn, hf⟩
      · exact .inr ⟨rfl, hf⟩
    rintro m σ H1 ⟨X1, g1, v3, hT1, V1, hZ1, hE1, sx, hc⟩
    obtain ⟨dx1, hp1⟩ := hT1.ob
    rcases hc with ⟨c, rfl, hc, hn, hf⟩ | ⟨rfl, hf⟩
    · have hray : ∃ k, k < I.M ∧ 0 < X1.T k c := by
        match gi, hg with
        | 0, _ => exact Lp.noray0 V1 hc hn
        | 1, _ => exact Lp.noray1 V1 (hZ1 rfl) (fun j hj => (wf.costs j hj).1) hc hn
      refine ⟨_, rfl, rfl, _, rfl, ?_⟩
      rw [decide_eq_false (by intro z; cases z)]
      refine ⟨fun σ' H' => ∃ m', m' < m ∧ RunW T.C I p l b gi H m' σ' H', fun σ' H' h => h, ?_⟩
      -- at = self.leaving(column)
      refine ⟨_, rfl, p, dx1, _, rfl, hp1, (nf _).2.1, _, rfl, p, l, b, g1, I.W, I.M, c, X1, rfl, hT1, tabOk_of wf V1, by omega, fun H2 s2 => ⟨fun r B => ?_, fun no => ?_⟩⟩
      · obtain ⟨b1, b2, b3, b4⟩ := B
        have U : Lp.Turn (Lp.sysOf I) X1 gi r c := ⟨b1, hc, hn, hf, b2, b3, b4⟩
        have hT2 := TabAt.same s2 hT1
        have hp2 := s2 _ _ hp1
        refine ⟨_, rfl, rfl, _, rfl, ?_⟩
        rw [decide_eq_false (by intro z; cases z)]
        refine ⟨_, rfl, p, dx1, _, rfl, hp2, (nf _).2.2, _, rfl, _, rfl, p, l, b, g1, I.W, I.M, r, c, X1, rfl, hT2, tabOk_of wf V1, b1, by omega, fun H3 g3 hT3 sx3 => ?_⟩
        have V3 := V1.turn hg U
        obtain ⟨m', hlt, hE3⟩ := hE1.step (U.step hg V1.shp)
        have hZ3 : gi = 1 → Lp.Z2 (Lp.sysOf I) (X1.piv r c) := fun e => (hZ1 e).turn V1.shp b1 hc
        obtain ⟨dx3, hp3⟩ := hT3.ob
        have sxx : SameX (fun a => a = p ∨ a = l ∨ a = b) H H3 := SameX.trans (SameX.trans sx (Same.toX s2)) sx3
        refine ⟨_, rfl, p, dx3, _, rfl, hp3, (nf _).1, _, rfl, p, l, b, g3, I.W, I.M, gi, X1.piv r c, rfl, hT3, tabOk_of wf V3, hg, fun v hv => ?_⟩
        refine ⟨m', hlt, X1.piv r c, g3, some (.int (r : Int)), hT3, V3, hZ3, hE3, sxx, ?_⟩
        rcases hv with ⟨c', rfl, hc', hn', hf'⟩ | ⟨rfl, hf'⟩
        · exact .inl ⟨c', rfl, hc', hn', hf'⟩
        · exact .inr ⟨rfl, hf'⟩
      · obtain ⟨k, hk, hp⟩ := hray
        exact absurd hp (no k hk)
    · refine ⟨_, rfl, rfl, _, rfl, ?_⟩
      rw [decide_eq_true rfl]
      exact q H1 g1 X1 hT1 V1 hZ1 hf sx
end
end KV
namespace KV
open PySem PySem.Spec PyProof.Rows L2
section
variable {K : PySem.W.Frag} {H : Hp}
theorem dp_ints : ∀ ns : List Int, DpAll K H (ns.map V.int) (ns.map PyData.int)
  | [] => .nil
  | n :: ns => .cons (.int n) (dp_ints ns)
end
theorem nats_ints (l : List Nat) : (l.map fun k : Nat => V.int (k : Int)) = (l.map fun k : Nat => (k : Int)).map V.int := by rw [List.map_map]; rfl
theorem rep_flat (n : Nat) (x : V) : (List.replicate n [x]).flatten = List.replicate n x := by
  induction n with
  | zero => rfl
  | succ n ih => rw [List.replicate_succ, List.flatten_cons, ih, List.replicate_succ]; rfl
theorem rep_range (n : Nat) (c : Int) : List.replicate n (V.int c) = ((List.range n).map fun _ => c).map V.int := by
  rw [List.map_map]
  apply List.ext_getElem
  · simp
  · intro i h1 h2; simp
theorem set_range {n : Nat} (f : Nat → Int) (c : Nat) (v : Int) : (((List.range n).map f).map V.int).set c (V.int v) = ((List.range n).map fun j => if j = c then v else f j).map V.int := by
  rw [← List.map_set]
  congr 1
  apply List.ext_getElem
  · simp
  · intro i h1 h2
    rw [List.getElem_set]
    simp only [List.getElem_map, List.getElem_range]
    by_cases e : c = i
    · rw [if_pos e, if_pos e.symm]
    · rw [if_neg e, if_neg (fun z => e z.symm)]
theorem ixn {n j : Nat} (h : j < n) : ixN n (j : Int) = some j := by
  unfold ixN
  rw [if_pos (by omega), if_pos (by omega)]; simp
theorem cut_nm {L : List Int} {n m : Nat} (h : L.length = n + m + 1) : cutV (L.map V.int) (some (n : Int)) (some ((n : Int) + (m : Int))) = ((List.range m).map fun i => L.getD (n + i) 0).map V.int := by
  unfold cutV
  rw [show ((n : Int) + (m : Int)) = ((n + m : Nat) : Int) by omega, HT.sIx_nat, HT.sIx_nat, List.length_map, h, Nat.min_eq_left (by omega), Nat.min_eq_left (by omega)]
  apply List.ext_getElem
  · simp; omega
  · intro i h1 h2
    simp only [List.getElem_take, List.getElem_drop, List.getElem_map, List.getElem_range]
    have : i < m := by simpa using h2
    rw [Lp.getD_lt 0 (by omega)]
section
variable {P : Program} {w : World} {K : PySem.W.Frag} {mg : Str → Option Value} {base : Heap}
theorem base_at {n m : Nat} {X : Lp.Tab} (ok : TabOk n m X) {k : Nat} (hk : k < m) : atI (X.base.map fun k : Nat => V.int (k : Int)) (k : Int) = some (.int ((X.b k : Nat) : Int)) := atI_nat (by
  have hk' : k < X.base.length := by rw [ok.bl]; exact hk
  rw [List.getElem?_map, List.getElem?_eq_getElem hk']
  show some (V.int ((X.base[k] : Nat) : Int)) = some (V.int ((X.base.getD k 0 : Nat) : Int))
  rw [Lp.getD_lt 0 hk'])
/-! ### drive_out -/
theorem sc_tb_drive_out : FnScope ["self", "at", "some", "column", "value"] ["self"] (defScope s_tb_drive_out) := ⟨rfl, rfl, rfl, by decide +kernel, rfl, by decide +kernel, by decide +kernel⟩
def sp_drive (C : Addr) : Sp := fun vs H Q _ => ∃ (p l b g : Addr) (I : Lp.Ins) (X : Lp.Tab), vs = [.ref p] ∧ TabAt C H p I.W I.M l b g X ∧ Lp.WF I ∧ Lp.DInv (Lp.sysOf I) (Lp.csOf I) X 0 ∧
  ∀ H' g' X', TabAt C H' p I.W I.M l b g' X' → Lp.DInv (Lp.sysOf I) (Lp.csOf I) X' I.M → SameX (fun a => a = p ∨ a = l ∨ a = b) H H' → Q .non H'
theorem ok_drive (T : Txt K mg) : FnOk P w K mg base CX0 3 T.a_tb_drive_out T.d_tb_drive_out ["self"] (sp_drive T.C) := by
  have G_tb_pivot : FnOk P w K mg base CX0 2 T.a_tb_pivot T.d_tb_pivot ["self", "at", "column"] (sp_pivot T.C) := ok_pivot T
  refine T.F_tb_drive_out.ok sc_tb_drive_out (fun vs H Q E h => ?_) (fun cdv A outer s H vs Q E hr h => ?_)
  · obtain ⟨p, l, b, g, I, X, rfl, _⟩ := h; rfl
  · obtain ⟨p, l, b, g, I, X, rfl, hT, wf, V0, q⟩ := h
    obtain ⟨dx, hp⟩ := hT.ob
    have hW := wf.W
    have hM := wf.M
    have npv : ∀ {l b g : Addr} {d : Int}, (fsT I.W I.M l b g d).lookup ("pivot" : Str) = none := fs_none (by decide +kernel) (by decide +kernel) (by decide +kernel) (by decide +kernel) (by decide +kernel) (by decide +kernel)
    refine ⟨_, (pss_one (ps_for PassesOwn.never rfl (pi_range1 (by rfl) T.z_range (pa_cons (pe_fld (pv 0) rfl) pa_nil)) (pg_name (i := 1) sc_tb_drive_out.nd rfl (Or.inr rfl))
        (pss_one (ps_if (pt_cmpR op_ge (pe_ix ix_list (pe_fld (pv 0) rfl) (pv 1) (fun _ _ => rfl)) (pe_fld (pv 0) rfl) (nomark _))
            (pss_cons (ps_setLc (i := 2) (own := [("column", 3)]) (by rfl) sc_tb_drive_out.nd rfl rfl (sw_true rfl rfl rfl (by decide +kernel)) (pi_range1 (by rfl) T.z_range (pa_cons (pe_fld (pv 0) rfl) pa_nil)) (blkOk_by (own := [("column", 3)]) (N := ["self", "at", "some", "column", "value"]) (sc := defScope s_tb_drive_out) (by decide +kernel)) (fun _ _ _ _ _ => (pg_name (i := 3) sc_tb_drive_out.nd rfl (Or.inl rfl))) (fun _ _ _ _ _ => (pts_one (pt_cmpR op_ne (kix_list K rfl (kix_list K rfl (kfld K rfl (pv 0) rfl) (pv 1) (fun _ _ => rfl)) (pv 3) (fun _ _ => rfl)) pe_int (nomark _)))) (fun _ _ _ _ _ => (pv 3)))
              (pss_one (ps_if (pt_cmpR (op_neD hr.units) (pv 2) (pe_lst pa_nil) (nomark _))
                (pss_cons (ps_if (pt_cmpR op_lt (pe_ix ix_list (pe_ix ix_list (pe_fld (pv 0) rfl) (pv 1) (fun _ _ => rfl)) (pe_ix ix_list (pv 2) pe_int (fun _ _ => rfl)) (fun _ _ => rfl)) pe_int (nomark _))
                    (pss_one (ps_asg (pe_lc (own := [("value", 4)]) (by rfl) sc_tb_drive_out.nd (pi_list (pe_ix ix_list (pe_fld (pv 0) rfl) (pv 1) (fun _ _ => rfl))) (blkOk_by (own := [("value", 4)]) (N := ["self", "at", "some", "column", "value"]) (sc := defScope s_tb_drive_out) (by decide +kernel)) (fun _ _ _ _ _ => (pg_name (i := 4) sc_tb_drive_out.nd rfl (Or.inl rfl))) (fun _ _ _ _ _ => pts_nil) (fun _ _ _ _ _ => (pe_un un_neg (pv 4)))) (pg_sub (pe_fld (pv 0) rfl) (pv 1) set_list)))
                    pss_nil)
                  (pss_one (ps_expr (pe_meth (pv 0) T.cl T.m_tb_pivot G_tb_pivot (hr.mono (by decide)) T.b_tb_pivot .nil pass0 (pa_cons (pv 1) (pa_cons (pe_ix ix_list (pv 2) pe_int (fun _ _ => rfl)) pa_nil))))))
                pss_nil)))
            pss_nil)))), ?_⟩
    refine ⟨_, rfl, p, T.C, dx, _, _, rfl, hp, T.cl, T.n_size, fs_size, _, rfl, by omega, by omega, ?_⟩
    refine for_it (walk_rg (n := I.M)) (fun i σ H1 => ∃ (X1 : Lp.Tab) (g1 : Addr) (v1 v2 : Option L2.V), σ = [some (.ref p), v1, v2, none, none] ∧ TabAt T.C H1 p I.W I.M l b g1 X1 ∧ Lp.DInv (Lp.sysOf I) (Lp.csOf I) X1 i ∧ SameX (fun a => a = p ∨ a = l ∨ a = b) H H1)
      ⟨X, g, none, none, rfl, hT, V0, SameX.refl _ _⟩ (fun _ _ _ _ _ => trivial) ?_ ?_
    · rintro i x σ H1 H1' hi ⟨X1, g1, v1, v2, rfl, hT1, V1, sx⟩ ⟨rfl, rfl⟩
      have ok1 := tabOk_of wf V1.L
      obtain ⟨dx1, hp1⟩ := hT1.ob
      obtain ⟨ra, rs, hrl, hra, hrow⟩ := hT1.rows.get (k := i) (by rw [ok1.rl]; exact hi)
      obtain ⟨rwl, rws⟩ := ok1.row hi
      refine ⟨_, rfl, p, T.C, dx1, _, _, rfl, hp1, T.cl, T.n_base, fs_base, _, rfl, b, _, _, _, rfl, rfl, sqL hT1.base, base_at ok1 hi, _, rfl, p, T.C, dx1, _, _, rfl, hp1, T.cl, T.n_many, fs_many, _, _, rfl, rfl, _, rfl, ?_⟩
      refine ite2 (fun e => ?_) (fun e => ?_)
      · have hb : I.W ≤ X1.b i := by have := of_decide_eq_true e; omega
        -- some = [column for column in range(self.many) if self.rows[at][column] != 0]
        refine ⟨_, rfl, p, T.C, dx1, _, _, rfl, hp1, T.cl, T.n_many, fs_many, _, rfl, by omega, by omega, fun D hD => ?_⟩
        refine lc_it (walk_rg (n := I.W)) (fun j H2 => Same H1' H2 ∧ H2 D = some (.lst (((List.range j).filter fun j => !decide (L2.V.int ((X1.rows.getD i []).getD j 0) = L2.V.int 0)).map fun k : Nat => L2.V.int (k : Int))))
          ⟨same_upd hD, upd_same⟩ (fun _ _ _ _ => trivial) ?_ ?_
        · rintro j x H2 H2' hj ⟨s2, eD⟩ ⟨rfl, rfl⟩
          refine ⟨rfl, _, rfl, p, T.C, dx1, _, _, rfl, s2 _ _ hp1, T.cl, T.n_rows, fs_rows, _, rfl, l, _, _, _, rfl, rfl, sqL (s2 _ _ hrl), hra, _, rfl, ra, _, _, _, rfl, rfl, sqL (s2 _ _ hrow), int_at (by rw [rwl]; omega), rfl, _, rfl, ?_⟩
          refine ite2 (fun e2 => ?_) (fun e2 => ?_)
          · refine ⟨_, rfl, _, eD, szl ?_, same_put s2 hD, ?_⟩
            · rw [List.length_map]
              exact Nat.le_trans (List.length_filter_le _ _) (by rw [List.length_range]; omega)
            · rw [upd_same, List.range_succ, List.filter_append, List.map_append, List.filter_cons, if_pos e2]; rfl
          · refine ⟨s2, ?_⟩
            rw [List.range_succ, List.filter_append, List.filter_cons, if_neg e2, eD]
            simp
        · rintro H2 ⟨s2, eD⟩
          generalize hF : ((List.range I.W).filter fun j => !decide (L2.V.int ((X1.rows.getD i []).getD j 0) = L2.V.int 0)) = F at eD
          have hmem : ∀ c, c ∈ F ↔ c < I.W ∧ X1.T i c ≠ 0 := fun c => by
            rw [← hF, List.mem_filter, List.mem_range]
            constructor
            · rintro ⟨h1, h2⟩
              refine ⟨h1, fun z => ?_⟩
              have z' : (X1.rows.getD i []).getD c 0 = 0 := z
              rw [z'] at h2
              simp at h2
            · rintro ⟨h1, h2⟩
              refine ⟨h1, ?_⟩
              have h3 : (X1.rows.getD i []).getD c 0 ≠ 0 := h2
              rw [decide_eq_false (fun z => h3 (L2.V.int.inj z))]; rfl
          have hT2 := TabAt.same s2 hT1
          have hp2 := s2 _ _ hp1
          -- if some != []
          refine ⟨_, rfl, Nat.zero_le _, fun D0 hD0 => ?_⟩
          have s3 : Same H2 (upd H2 D0 (.lst [])) := same_upd hD0
          generalize hH3 : upd H2 D0 (.lst []) = H3 at s3 ⊢
          have e0 : H3 D0 = some (.lst []) := by rw [← hH3]; exact upd_same
          have eD3 := s3 _ _ eD
          have hT3 := TabAt.same s3 hT2
          have hp3 := s3 _ _ hp2
          have hrl3 := s3 _ _ (s2 _ _ hrl)
          have hrow3 := s3 _ _ (s2 _ _ hrow)
          have sx3 : SameX (fun a => a = p ∨ a = l ∨ a = b) H H3 := SameX.trans sx (Same.toX (s2.trans s3))
          refine ⟨.list ((F.map fun k : Nat => (k : Int)).map PyData.int), .list [], .lst (sqL eD3) (by rw [nats_ints]; exact dp_ints _), .lst (sqL e0) .nil, PySem.W.ke_shaped_ints _, by decide +kernel, _, rfl, ?_⟩
          cases F with
          | nil =>
            have z : PyData.eqv (.list ((([] : List Nat).map fun k : Nat => (k : Int)).map PyData.int)) (.list []) = true := by simp [PyData.eqv, PyData.eqvAll]
            rw [z]
            refine ⟨X1, g1, _, _, rfl, hT3, V1.skip (fun _ j hj => ?_), sx3⟩
            by_cases y : X1.T i j = 0
            · exact y
            · exact absurd ((hmem j).mpr ⟨hj, y⟩) (by simp)
          | cons c F =>
            have z : PyData.eqv (.list (((c :: F).map fun k : Nat => (k : Int)).map PyData.int)) (.list []) = false := by simp [PyData.eqv, PyData.eqvAll]
            rw [z]
            obtain ⟨hc, hne⟩ := (hmem c).mp (by simp)
            have hsome : atI ((c :: F).map fun k : Nat => L2.V.int (k : Int)) ((0 : Nat) : Int) = some (.int (c : Int)) := atI_nat rfl
            -- if self.rows[at][some[0]] < 0
            refine ⟨_, rfl, p, T.C, dx1, _, _, rfl, hp3, T.cl, T.n_rows, fs_rows, _, rfl, l, _, _, _, rfl, rfl, sqL hrl3, hra, ?_⟩
            refine ⟨_, rfl, D, _, _, _, rfl, rfl, sqL eD3, hsome, ra, _, _, _, rfl, rfl, sqL hrow3, int_at (by rw [rwl]; omega), _, _, rfl, rfl, _, rfl, ?_⟩
            refine ite2 (fun e2 => ?_) (fun e2 => ?_)
            · have hneg : X1.T i c < 0 := of_decide_eq_true e2
              -- self.rows[at] = [-value for value in self.rows[at]]
              refine ⟨_, rfl, p, T.C, dx1, _, _, rfl, hp3, T.cl, T.n_rows, fs_rows, _, rfl, l, _, _, _, rfl, rfl, sqL hrl3, hra, ra, rfl, ⟨_, sqL hrow3⟩, fun D2 hD2 => ?_⟩
              refine lc_it walk_list (fun j H4 => Same H3 H4 ∧ H4 D2 = some (.lst ((((X1.rows.getD i []).map fun v => - v).take j).map L2.V.int))) ⟨same_upd hD2, upd_same⟩ (fun j H4 _ h => Same.seq h.1 (sqL hrow3)) ?_ ?_
              · rintro j x H4 H4' hj ⟨s4, eD4⟩ ⟨rfl, hx⟩
                obtain ⟨y, hy, rfl⟩ := ints_at hx
                refine ⟨rfl, _, rfl, _, rfl, _, eD4, szl ?_, same_put s4 hD2, ?_⟩
                · rw [List.length_map, List.length_take, List.length_map, rwl]; omega
                · rw [upd_same, take_ints]
                  rw [List.getElem?_map, hy]; rfl
              · rintro H4 ⟨s4, eD4⟩
                rw [List.take_of_length_le (by rw [List.length_map, List.length_map]; exact Nat.le_refl _)] at eD4
                have hT4 := TabAt.same s4 hT3
                have hp4 := s4 _ _ hp3
                have hrl4 := s4 _ _ hrl3
                obtain ⟨as, ea, la, _⟩ := id hT4.rows
                have hrs : rs.length = I.M := by
                  rw [ea] at hrl4
                  have : as.map L2.V.ref = rs := by injection (Option.some.inj hrl4)
                  rw [← this, List.length_map, la, ok1.rl]
                have ne0 : as ≠ [] := fun e => by rw [e, ok1.rl] at la; simp at la; omega
                have hlb : b ≠ l := ref_int_ne (H := H4) (vs := []) ea (r := X1.base.map fun k : Nat => (k : Int)) (by rw [← base_ints]; exact hT4.base) (.inl ne0)
                have hpl : p ≠ l := ne_of hp4 ea (by intro z; cases z)
                refine ⟨_, rfl, p, T.C, dx1, _, _, rfl, hp4, T.cl, T.n_rows, fs_rows, _, rfl, l, rs, i, i, rfl, rfl, hrl4, ixn (by rw [hrs]; exact hi), ?_⟩
                have sxl : SameX (fun a => a = l) H4 (upd H4 l (.lst (rs.set i (.ref D2)))) := SameX.upd rfl
                have hR5 := RowsAt.set hT4.rows hrl4 (j := i) (by rw [ok1.rl]; exact hi) eD4
                generalize hH5 : upd H4 l (.lst (rs.set i (.ref D2))) = H5 at sxl hR5 ⊢
                have hT5 : TabAt T.C H5 p I.W I.M l b g1 (X1.neg i) := ⟨⟨dx1, sxl _ _ hp4 hpl⟩, hR5, sxl _ _ hT4.base hlb, hT4.goals.sameX sxl hT4.lg.symm fun a r _ e => ref_int_ne (vs := []) ea e (.inl ne0), hT4.lg⟩
                have eD5 : H5 D = some (.lst ((c :: F).map fun k : Nat => L2.V.int (k : Int))) := sxl _ _ (s4 _ _ eD3) (by
                  rw [nats_ints] at eD3
                  have := s4 _ _ eD3
                  exact ref_int_ne (vs := []) ea this (.inl ne0))
                have hp5 := sxl _ _ hp4 hpl
                refine ⟨_, rfl, p, dx1, _, rfl, hp5, npv, _, rfl, _, rfl, D, _, _, _, rfl, rfl, sqL eD5, hsome, p, l, b, g1, I.W, I.M, i, c, X1.neg i, rfl, hT5, tabOk_neg ok1 hi, hi, by omega, fun H6 g6 hT6 sx6 => ?_⟩
                have V6 := V1.pivot (Y := (X1.neg i).piv i c) (c := c) hi hb hc (.inr rfl) (by omega) (Lp.neg_piv_of V1.L.shp hi (c := c) (by show c < I.W + I.M + 1; omega))
                exact ⟨_, g6, _, _, rfl, hT6, V6, SameX.trans (SameX.trans (SameX.trans sx3 (Same.toX s4)) (sxl.mono fun a e => .inr (.inl e))) sx6⟩
            · have hpos : 0 < X1.T i c := by
                have : ¬ X1.T i c < 0 := fun y => e2 (decide_eq_true y)
                omega
              refine ⟨_, rfl, p, dx1, _, rfl, hp3, npv, _, rfl, _, rfl, D, _, _, _, rfl, rfl, sqL eD3, hsome, p, l, b, g1, I.W, I.M, i, c, X1, rfl, hT3, ok1, hi, by omega, fun H6 g6 hT6 sx6 => ?_⟩
              have V6 := V1.pivot (Y := X1.piv i c) (c := c) hi hb hc (.inl rfl) (by omega) (Lp.piv_of V1.L.shp hi (c := c) (by show c < I.W + I.M + 1; omega))
              exact ⟨_, g6, _, _, rfl, hT6, V6, SameX.trans sx3 sx6⟩
      · exact ⟨X1, g1, _, _, rfl, hT1, V1.skip (fun hb => absurd (decide_eq_true (by show (I.W : Int) ≤ (X1.b i : Int); have : I.W ≤ X1.b i := hb; omega)) e), sx⟩
    · rintro σ H1 ⟨X1, g1, v1, v2, rfl, hT1, V1, sx⟩
      exact q H1 g1 X1 hT1 V1 sx
/-! ### shares, prices -/
theorem sc_tb_shares : FnScope ["self", "found", "at", "column"] ["self"] (defScope s_tb_shares) := ⟨rfl, rfl, rfl, by decide +kernel, rfl, by decide +kernel, by decide +kernel⟩
def sp_shares (C : Addr) : Sp := fun vs H Q _ => ∃ (p l b g : Addr) (I : Lp.Ins) (X : Lp.Tab), vs = [.ref p] ∧ TabAt C H p I.W I.M l b g X ∧ Lp.WF I ∧ Lp.LInv (Lp.sysOf I) (Lp.csOf I) X ∧
  ∀ H' D, Same H H' → H D = none → H' D = some (.lst ((X.xs I).map V.int)) → Q (.ref D) H'
theorem ok_shares (T : Txt K mg) : FnOk P w K mg base CX0 1 T.a_tb_shares T.d_tb_shares ["self"] (sp_shares T.C) := by
  refine T.F_tb_shares.ok sc_tb_shares (fun vs H Q E h => ?_) (fun cdv A outer s H vs Q E hr h => ?_)
  · obtain ⟨p, l, b, g, I, X, rfl, _⟩ := h; rfl
  · obtain ⟨p, l, b, g, I, X, rfl, hT, wf, V1, q⟩ := h
    obtain ⟨dx, hp⟩ := hT.ob
    have hW := wf.W
    have hM := wf.M
    have ok := tabOk_of wf V1
    refine ⟨_, (pss_cons (ps_set (i := 1) sc_tb_shares.nd rfl (Or.inl rfl) (pe_op op_rep (pe_lst (pa_cons pe_int pa_nil)) (pe_fld (pv 0) rfl)))
      (pss_cons (ps_for PassesOwn.never rfl (pi_enum (by rfl) T.z_enumerate (pa_cons (pe_fld (pv 0) rfl) pa_nil)) (pg_tup rfl (pgs_cons (pg_name (i := 2) sc_tb_shares.nd rfl (Or.inl rfl)) (pgs_cons (pg_name (i := 3) sc_tb_shares.nd rfl (Or.inl rfl)) pgs_nil)))
        (pss_one (ps_if (pt_cmpR op_lt (pv 3) (pe_fld (pv 0) rfl) (nomark _))
            (pss_one (ps_asg (pe_ix ix_list (pe_ix ix_list (pe_fld (pv 0) rfl) (pv 2) (fun _ _ => rfl)) (pe_un un_neg pe_int) (fun _ _ => rfl)) (pg_sub (pv 1) (pv 3) set_list)))
            pss_nil)))
      (pss_one (ps_ret (pv 1))))), ?_⟩
    refine ⟨szl' (by show 1 ≤ 1000000; decide), fun z0 n0 => ?_⟩
    have s0 : Same H (upd H z0 (.lst [.int 0])) := same_upd n0
    refine ⟨_, rfl, p, T.C, dx, _, _, rfl, s0 _ _ hp, T.cl, T.n_many, fs_many, z0, _, _, rfl, rfl, upd_same, by omega, by omega, szl' (by show 1 * I.W ≤ 1000000; omega), fun D hD => ?_⟩
    have s1 : Same H (upd (upd H z0 (.lst [.int 0])) D (.lst (List.replicate ((I.W : Int)).toNat [L2.V.int 0]).flatten)) := s0.trans (same_upd hD)
    have hDn := s0.free hD
    refine ⟨_, rfl, p, T.C, dx, _, _, rfl, s1 _ _ hp, T.cl, T.n_base, fs_base, b, _, rfl, sqL (s1 _ _ hT.base), ?_⟩
    have hxn : (X.base.map fun k : Nat => L2.V.int (k : Int)).length = I.M := by rw [List.length_map, ok.bl]
    refine for_it walk_enum (fun i σ H1 => ∃ v2 v3 : Option L2.V, σ = [some (.ref p), some (.ref D), v2, v3] ∧ Same H H1 ∧ H1 D = some (.lst (((List.range I.W).map fun j => Lp.sumN i (fun k => if X.b k = j then X.T k (I.W + I.M) else 0)).map L2.V.int)))
      ⟨none, none, rfl, s1, ?_⟩ (fun i σ H1 _ ⟨_, _, _, sm, _⟩ => sqL (sm _ _ hT.base)) ?_ ?_
    · rw [upd_same]
      have e : ((I.W : Int)).toNat = I.W := by omega
      rw [e, rep_flat, rep_range]
      rfl
    · rintro i x σ H1 H1' hi ⟨v2, v3, rfl, sm, eD⟩ ⟨t, y1, y2, rfl, nt, rfl, e3, e4⟩
      cases e3
      rw [hxn] at hi
      have st : Same H1 (upd H1 t (.tup [.int (i : Nat), y2])) := same_upd nt
      have ey : y2 = .int ((X.b i : Nat) : Int) := by
        have hk' : i < X.base.length := by rw [ok.bl]; exact hi
        have this : (X.base.map fun k : Nat => L2.V.int (k : Int))[i]? = some y2 := e4
        rw [List.getElem?_map, List.getElem?_eq_getElem hk'] at this
        have h2 := Option.some.inj this
        show y2 = L2.V.int ((X.base.getD i 0 : Nat) : Int)
        rw [Lp.getD_lt 0 hk']; exact h2.symm
      subst ey
      have s2 := sm.trans st
      have hp2 := s2 _ _ hp
      obtain ⟨ra, rs, hrl, hra, hrow⟩ := (hT.rows.same s2).get (k := i) (by rw [ok.rl]; exact hi)
      obtain ⟨rwl, _⟩ := ok.row (k := i) hi
      have inj : ∀ k, k < i → X.b k ≠ X.b i := fun k hk e => by
        have := V1.I.inj k i (show k < I.M by omega) hi e
        omega
      refine ⟨t, _, rfl, sqT upd_same, rfl, _, _, rfl, _, _, rfl, rfl, ?_⟩
      refine ⟨_, rfl, _, rfl, p, T.C, dx, _, _, rfl, hp2, T.cl, T.n_many, fs_many, _, _, rfl, rfl, _, rfl, ?_⟩
      refine ite2 (fun e => ?_) (fun e => ?_)
      · have hb : X.b i < I.W := by have := of_decide_eq_true e; omega
        refine ⟨_, rfl, p, T.C, dx, _, _, rfl, hp2, T.cl, T.n_rows, fs_rows, _, rfl, l, _, _, _, rfl, rfl, sqL hrl, hra, _, rfl, ra, _, -1, _, rfl, rfl, sqL hrow, int_last rwl, ?_⟩
        refine ⟨_, rfl, _, rfl, D, _, _, X.b i, rfl, rfl, st _ _ eD, ixn (by rw [List.length_map, List.length_map, List.length_range]; exact hb), ?_⟩
        refine ⟨_, _, rfl, same_put s2 hDn, ?_⟩
        rw [upd_same, set_range]
        congr 3
        apply List.map_congr_left
        intro j _
        show (if j = X.b i then (X.rows.getD i []).getD (I.W + I.M) 0 else _) = Lp.sumN i _ + (if X.b i = j then X.T i (I.W + I.M) else 0)
        by_cases z : j = X.b i
        · rw [if_pos z, if_pos z.symm, Lp.sumN_zero (fun k hk => if_neg (fun y => inj k hk (y.trans z))), Int.zero_add]; rfl
        · rw [if_neg z, if_neg (fun y => z y.symm), Int.add_zero]
      · have hb : ¬ X.b i < I.W := fun z => e (decide_eq_true (p := ((X.b i : Nat) : Int) < (I.W : Int)) (by omega))
        refine ⟨_, _, rfl, s2, ?_⟩
        rw [st _ _ eD]
        congr 3
        apply List.map_congr_left
        intro j hj
        have hj' := List.mem_range.mp hj
        show Lp.sumN i _ = Lp.sumN i _ + (if X.b i = j then X.T i (I.W + I.M) else 0)
        rw [if_neg (by omega), Int.add_zero]
    · rintro σ H1 ⟨v2, v3, rfl, sm, eD⟩
      rw [hxn] at eD
      exact ⟨_, rfl, q H1 D sm hDn eD⟩
theorem sc_tb_prices : FnScope ["self", "value"] ["self"] (defScope s_tb_prices) := ⟨rfl, rfl, rfl, by decide +kernel, rfl, by decide +kernel, by decide +kernel⟩
def sp_prices (C : Addr) : Sp := fun vs H Q _ => ∃ (p l b g : Addr) (I : Lp.Ins) (X : Lp.Tab), vs = [.ref p] ∧ TabAt C H p I.W I.M l b g X ∧ Lp.WF I ∧ Lp.LInv (Lp.sysOf I) (Lp.csOf I) X ∧
  ∀ H' D, Same H H' → H D = none → H' D = some (.lst ((X.ys I).map V.int)) → Q (.ref D) H'
theorem ok_prices (T : Txt K mg) : FnOk P w K mg base CX0 1 T.a_tb_prices T.d_tb_prices ["self"] (sp_prices T.C) := by
  refine T.F_tb_prices.ok sc_tb_prices (fun vs H Q E h => ?_) (fun cdv A outer s H vs Q E hr h => ?_)
  · obtain ⟨p, l, b, g, I, X, rfl, _⟩ := h; rfl
  · obtain ⟨p, l, b, g, I, X, rfl, hT, wf, V1, q⟩ := h
    obtain ⟨dx, hp⟩ := hT.ob
    have hW := wf.W
    have hM := wf.M
    have ok := tabOk_of wf V1
    obtain ⟨ga, gs, hgl, hga, hrow⟩ := hT.goals.get (k := 1) (by rw [ok.gl]; decide)
    obtain ⟨gwl, _⟩ := ok.goal (k := 1) (by decide)
    refine ⟨_, (pss_one (ps_ret (pe_lc (own := [("value", 1)]) (by rfl) sc_tb_prices.nd (pi_list (pe_slice sl_list (pe_ix ix_list (pe_fld (pv 0) rfl) pe_int (fun _ _ => rfl)) (po_some (pe_fld (pv 0) rfl)) (po_some (pe_op op_add (pe_fld (pv 0) rfl) (pe_fld (pv 0) rfl))))) (blkOk_by (own := [("value", 1)]) (N := ["self", "value"]) (sc := defScope s_tb_prices) (by decide +kernel)) (fun _ _ _ _ _ => (pg_name (i := 1) sc_tb_prices.nd rfl (Or.inl rfl))) (fun _ _ _ _ _ => pts_nil) (fun _ _ _ _ _ => (pe_un un_neg (pv 1)))))), ?_⟩
    refine ⟨_, rfl, p, T.C, dx, _, _, rfl, hp, T.cl, T.n_goals, fs_goals, g, _, (1 : Nat), _, rfl, rfl, sqL hgl, hga, ?_⟩
    refine ⟨_, rfl, p, T.C, dx, _, _, rfl, hp, T.cl, T.n_many, fs_many, _, rfl, ?_⟩
    refine ⟨_, rfl, p, T.C, dx, _, _, rfl, hp, T.cl, T.n_many, fs_many, _, rfl, p, T.C, dx, _, _, rfl, hp, T.cl, T.n_size, fs_size, _, _, rfl, rfl, _, rfl, ga, _, rfl, sqL hrow, fun c nc => ?_⟩
    rw [cut_nm gwl]
    have s1 : Same H (upd H c (.lst (((List.range I.M).map fun i => (X.goals.getD 1 []).getD (I.W + i) 0).map L2.V.int))) := same_upd nc
    generalize hH1 : upd H c (.lst (((List.range I.M).map fun i => (X.goals.getD 1 []).getD (I.W + i) 0).map L2.V.int)) = H1 at s1 ⊢
    have ec : H1 c = some (.lst (((List.range I.M).map fun i => (X.goals.getD 1 []).getD (I.W + i) 0).map L2.V.int)) := by rw [← hH1]; exact upd_same
    refine ⟨c, rfl, ⟨_, sqL ec⟩, fun D hD => lc_it walk_list (fun i H2 => Same H1 H2 ∧ H2 D = some (.lst (((X.ys I).take i).map L2.V.int))) ⟨same_upd hD, upd_same⟩ (fun i H2 _ h => Same.seq h.1 (sqL ec)) ?_ ?_⟩
    · rintro i x H2 H2' hi ⟨s2, eD⟩ ⟨rfl, hx⟩
      obtain ⟨y, hy, rfl⟩ := ints_at hx
      refine ⟨rfl, _, rfl, _, rfl, _, eD, szl ?_, same_put s2 hD, ?_⟩
      · rw [List.length_map, List.length_take]
        unfold Lp.Tab.ys
        rw [List.length_map, List.length_range]; omega
      · rw [upd_same, take_ints]
        unfold Lp.Tab.ys
        rw [List.getElem?_map] at hy ⊢
        obtain ⟨k, hk, e⟩ := Option.map_eq_some_iff.mp hy
        rw [hk, ← e]
        rfl
    · rintro H2 ⟨s2, eD⟩
      refine q H2 D (s1.trans s2) (s1.free hD) ?_
      rw [eD, List.take_of_length_le]
      unfold Lp.Tab.ys
      rw [List.length_map, List.length_map, List.length_map]; exact Nat.le_refl _
end
end KV
namespace KV
open PySem PySem.Spec PyProof.Rows L2
/-! ### a tableau is made -/
theorem getD_map_range' {f : Nat → List Int} {n k : Nat} (h : k < n) : ((List.range n).map f).getD k [] = f k := Lp.getD_map_range f [] h
def fs3 (n m : Nat) (l : Addr) : List (Str × V) := [("many", .int (n : Int)), ("size", .int (m : Int)), ("rows", .ref l)]
def fs4 (n m : Nat) (l b : Addr) : List (Str × V) := [("many", .int (n : Int)), ("size", .int (m : Int)), ("rows", .ref l), ("base", .ref b)]
section
variable {n m : Nat} {l b g : Addr} {d : Int}
theorem f3_many : (fs3 n m l).lookup ("many" : Str) = some (.int (n : Int)) := lk_eq
theorem f3_size : (fs3 n m l).lookup ("size" : Str) = some (.int (m : Int)) := (lk_ne (by decide +kernel)).trans lk_eq
theorem f3_rows : (fs3 n m l).lookup ("rows" : Str) = some (.ref l) := (lk_ne (by decide +kernel)).trans ((lk_ne (by decide +kernel)).trans lk_eq)
theorem f4_many : (fs4 n m l b).lookup ("many" : Str) = some (.int (n : Int)) := lk_eq
theorem f4_size : (fs4 n m l b).lookup ("size" : Str) = some (.int (m : Int)) := (lk_ne (by decide +kernel)).trans lk_eq
theorem f4_rows : (fs4 n m l b).lookup ("rows" : Str) = some (.ref l) := (lk_ne (by decide +kernel)).trans ((lk_ne (by decide +kernel)).trans lk_eq)
theorem f_p1 (x : V) : putF "many" x [] = ([("many", x)] : List (Str × V)) := rfl
theorem f_p2 (x y : V) : putF "size" y ([("many", x)] : List (Str × V)) = ([("many", x), ("size", y)] : List (Str × V)) := by
  rw [pf_ne (by decide +kernel)]; rfl
theorem f_p3 (x y z : V) : putF "rows" z ([("many", x), ("size", y)] : List (Str × V)) = ([("many", x), ("size", y), ("rows", z)] : List (Str × V)) := by
  rw [pf_ne (by decide +kernel), pf_ne (by decide +kernel)]; rfl
theorem f_p4 : putF "base" (.ref b) (fs3 n m l) = fs4 n m l b := by
  unfold fs3 fs4
  rw [pf_ne (by decide +kernel), pf_ne (by decide +kernel), pf_ne (by decide +kernel)]; rfl
theorem f_p5 : putF "scale" (.int d) (putF "goals" (.ref g) (fs4 n m l b)) = fsT n m l b g d := by
  unfold fs4 fsT
  rw [pf_ne (by decide +kernel), pf_ne (by decide +kernel), pf_ne (by decide +kernel), pf_ne (by decide +kernel)]
  rw [pf_ne (by decide +kernel), pf_ne (by decide +kernel), pf_ne (by decide +kernel), pf_ne (by decide +kernel)]
  show _ :: _ :: _ :: _ :: putF "scale" (.int d) [("goals", V.ref g)] = _
  rw [pf_ne (by decide +kernel)]; rfl
theorem f_l5 : (putF "goals" (.ref g) (fs4 n m l b)).length < 1000 := by
  unfold fs4
  rw [pf_ne (by decide +kernel), pf_ne (by decide +kernel), pf_ne (by decide +kernel), pf_ne (by decide +kernel)]
  show 5 < 1000
  decide
end
section
variable {P : Program} {w : World} {K : PySem.W.Frag} {mg : Str → Option Value} {base : Heap}
theorem sc_tb_init : FnScope ["self", "rows", "dues", "costs", "at", "row", "width", "first", "other", "left", "value"] ["self", "rows", "dues", "costs"] (defScope s_tb_init) := ⟨rfl, rfl, rfl, by decide +kernel, rfl, by decide +kernel, by decide +kernel⟩
def sp_init (C : Addr) : Sp := fun vs H Q _ => ∃ (p dx a du co : Addr) (n m : Nat) (rows : List (List Int)) (dues costs : List Int), vs = [.ref p, .ref a, .ref du, .ref co] ∧ H p = some (.ins C dx []) ∧ RowsAt H a rows ∧ H du = some (.lst (dues.map V.int)) ∧ H co = some (.lst (costs.map V.int)) ∧
  rows.length = m ∧ (∀ k, k < m → (rows.getD k []).length = n) ∧ dues.length = m ∧ costs.length = n ∧ n ≤ 1000 ∧ m ≤ 1000 ∧
  ∀ H' l b g, TabAt C H' p n m l b g (Lp.tab0 rows dues costs n m) → H l = none → H b = none → SameX (fun c => c = p) H H' → Q .non H'
theorem ok_init (T : Txt K mg) : FnOk P w K mg base CX0 1 T.a_tb_init T.d_tb_init ["self", "rows", "dues", "costs"] (sp_init T.C) := by
  refine T.F_tb_init.ok sc_tb_init (fun vs H Q E h => ?_) (fun cdv A outer s H vs Q E hr h => ?_)
  · obtain ⟨p, dx, a, du, co, n, m, rows, dues, costs, rfl, _⟩ := h; rfl
  · obtain ⟨p, dx, a, du, co, n, m, rows, dues, costs, rfl, hp, hR, hdu, hco, hrl, hrw, hdl, hcl, hn, hm, q⟩ := h
    refine ⟨_, (pss_cons (ps_fld (pv 0) (pe_callB call_len_seq (by rfl) T.z_len (by decide +kernel) (pa_cons (pv 3) pa_nil)) rfl)
      (pss_cons (ps_fld (pv 0) (pe_callB call_len_seq (by rfl) T.z_len (by decide +kernel) (pa_cons (pv 1) pa_nil)) rfl)
      (pss_cons (ps_fld (pv 0) (pe_lst pa_nil) rfl)
      (pss_cons (ps_for PassesOwn.never rfl (pi_enum (by rfl) T.z_enumerate (pa_cons (pv 1) pa_nil)) (pg_tup rfl (pgs_cons (pg_name (i := 4) sc_tb_init.nd rfl (Or.inr rfl)) (pgs_cons (pg_name (i := 5) sc_tb_init.nd rfl (Or.inl rfl)) pgs_nil)))
        (pss_one (ps_expr (pe_bm PySem.F.plainAttrs_list PySem.F.slot_list_append PySem.F.type_list_append mt_append (pe_fld (pv 0) rfl) (pa_cons (pe_op op_cat (pe_op op_cat (pe_callTy call_list_of (by rfl) T.z_list (by decide +kernel) (pa_cons (pv 5) pa_nil)) (pe_lc (own := [("other", 8)]) (by rfl) sc_tb_init.nd (pi_range1 (by rfl) T.z_range (pa_cons (pe_fld (pv 0) rfl) pa_nil)) (blkOk_by (own := [("other", 8)]) (N := ["self", "rows", "dues", "costs", "at", "row", "width", "first", "other", "left", "value"]) (sc := defScope s_tb_init) (by decide +kernel)) (fun _ _ _ _ _ => (pg_name (i := 8) sc_tb_init.nd rfl (Or.inl rfl))) (fun _ _ _ _ _ => pts_nil) (fun _ _ _ _ _ => (pe_ifExp (pt_cmpR op_eq (pv 8) (pv 4) (nomark _)) pe_int pe_int)))) (pe_lst (pa_cons (pe_ix ix_list (pv 2) (pv 4) (fun _ _ => rfl)) pa_nil))) pa_nil)))))
      (pss_cons (ps_fld (pv 0) (pe_lc (own := [("at", 4)]) (by rfl) sc_tb_init.nd (pi_range1 (by rfl) T.z_range (pa_cons (pe_fld (pv 0) rfl) pa_nil)) (blkOk_by (own := [("at", 4)]) (N := ["self", "rows", "dues", "costs", "at", "row", "width", "first", "other", "left", "value"]) (sc := defScope s_tb_init) (by decide +kernel)) (fun _ _ _ _ _ => (pg_name (i := 4) sc_tb_init.nd rfl (Or.inl rfl))) (fun _ _ _ _ _ => pts_nil) (fun _ _ _ _ _ => (pe_op op_add (kfld K rfl (pv 0) rfl) (pv 4)))) rfl)
      (pss_cons (ps_set (i := 6) sc_tb_init.nd rfl (Or.inl rfl) (pe_op op_add (pe_op op_add (pe_fld (pv 0) rfl) (pe_fld (pv 0) rfl)) pe_int))
      (pss_cons (ps_set (i := 7) sc_tb_init.nd rfl (Or.inl rfl) (pe_op op_rep (pe_lst (pa_cons pe_int pa_nil)) (pv 6)))
      (pss_cons (ps_for PassesOwn.never rfl (pi_list (pe_fld (pv 0) rfl)) (pg_name (i := 5) sc_tb_init.nd rfl (Or.inl rfl))
        (pss_one (ps_setLc (i := 7) (own := [("left", 9), ("value", 10)]) (by rfl) sc_tb_init.nd rfl rfl (sw_true rfl rfl rfl (by decide +kernel)) (pi_zip (by rfl) T.z_zip (pa_cons (pv 7) (pa_cons (pv 5) pa_nil))) (blkOk_by (own := [("left", 9), ("value", 10)]) (N := ["self", "rows", "dues", "costs", "at", "row", "width", "first", "other", "left", "value"]) (sc := defScope s_tb_init) (by decide +kernel)) (fun _ _ _ _ _ => (kg_tup (n := 2) K rfl rfl (pgs_cons (pg_name (i := 9) sc_tb_init.nd rfl (Or.inl rfl)) (pgs_cons (pg_name (i := 10) sc_tb_init.nd rfl (Or.inl rfl)) pgs_nil)))) (fun _ _ _ _ _ => pts_nil) (fun _ _ _ _ _ => (pe_op op_sub (pv 9) (pv 10))))))
      (pss_cons (ps_for PassesOwn.never rfl (pi_range1 (by rfl) T.z_range (pa_cons (pe_fld (pv 0) rfl) pa_nil)) (pg_name (i := 4) sc_tb_init.nd rfl (Or.inr rfl))
        (pss_one (ps_asg pe_int (pg_sub (pv 7) (pe_op op_add (pe_fld (pv 0) rfl) (pv 4)) set_list))))
      (pss_cons (ps_fld (pv 0) (pe_lst (pa_cons (pv 7) (pa_cons (pe_op op_cat (pe_callTy call_list_of (by rfl) T.z_list (by decide +kernel) (pa_cons (pv 3) pa_nil)) (pe_op op_rep (pe_lst (pa_cons pe_int pa_nil)) (pe_op op_add (pe_fld (pv 0) rfl) pe_int))) pa_nil))) rfl)
      (pss_one (ps_fld (pv 0) pe_int rfl)))))))))))), ?_⟩
    obtain ⟨rvs, hrv, hrvl, hrr⟩ := hR.item
    rw [hrl] at hrvl
    have dne : ∀ {c : Addr} {xs : List L2.V}, H c = some (.lst xs) → c ≠ p := fun e => ne_of e hp (by intro z; cases z)
    -- self.many, self.size, self.rows
    refine ⟨_, rfl, co, _, rfl, .inl (sqL hco), _, rfl, p, T.C, dx, [], rfl, hp, T.cl, T.n_many, (by show 0 < 1000; decide), ?_⟩
    rw [f_p1, show ((costs.map L2.V.int).length : Int) = (n : Int) by rw [List.length_map, hcl]]
    have x1 : SameX (fun c => c = p) H (upd H p (.ins T.C dx [("many", .int (n : Int))])) := SameX.upd rfl
    generalize hH1 : upd H p (.ins T.C dx [("many", .int (n : Int))]) = H1 at x1 ⊢
    have hp1 : H1 p = some (.ins T.C dx [("many", .int (n : Int))]) := by rw [← hH1]; exact upd_same
    refine ⟨_, rfl, a, _, rfl, .inl (sqL (x1 _ _ hrv (dne hrv))), _, rfl, p, T.C, dx, _, rfl, hp1, T.cl, T.n_size, (by show 1 < 1000; decide), ?_⟩
    rw [f_p2, show (rvs.length : Int) = (m : Int) by rw [hrvl]]
    have x2 : SameX (fun c => c = p) H1 (upd H1 p (.ins T.C dx [("many", .int (n : Int)), ("size", .int (m : Int))])) := SameX.upd rfl
    generalize hH2 : upd H1 p (.ins T.C dx [("many", .int (n : Int)), ("size", .int (m : Int))]) = H2 at x2 ⊢
    have hp2 : H2 p = some (.ins T.C dx [("many", .int (n : Int)), ("size", .int (m : Int))]) := by rw [← hH2]; exact upd_same
    refine ⟨Nat.zero_le _, fun l nl => ?_⟩
    have s3 : Same H2 (upd H2 l (.lst [])) := same_upd nl
    generalize hH3 : upd H2 l (.lst []) = H3 at s3 ⊢
    have el3 : H3 l = some (.lst []) := by rw [← hH3]; exact upd_same
    have hp3 := s3 _ _ hp2
    refine ⟨_, rfl, p, T.C, dx, _, rfl, hp3, T.cl, T.n_rows, (by show 2 < 1000; decide), ?_⟩
    rw [f_p3, show ([("many", .int (n : Int)), ("size", .int (m : Int)), ("rows", .ref l)] : List (Str × L2.V)) = fs3 n m l from rfl]
    have x4 : SameX (fun c => c = p) H3 (upd H3 p (.ins T.C dx (fs3 n m l))) := SameX.upd rfl
    have hlp : l ≠ p := ne_of el3 hp3 (by intro z; cases z)
    generalize hH4 : upd H3 p (.ins T.C dx (fs3 n m l)) = H4 at x4 ⊢
    have hp4 : H4 p = some (.ins T.C dx (fs3 n m l)) := by rw [← hH4]; exact upd_same
    have el4 := x4 _ _ el3 hlp
    have X4 : SameX (fun c => c = p) H H4 := SameX.trans (SameX.trans (SameX.trans x1 x2) (Same.toX s3)) x4
    have hln : H l = none := by
      cases e : H l with
      | none => rfl
      | some o =>
        by_cases z : l = p
        · exact absurd z hlp
        · have := x2 _ _ (x1 _ _ e z) z
          rw [nl] at this; cases this
    -- the rows in turn
    refine ⟨_, rfl, a, rvs, rfl, sqL (X4 _ _ hrv (dne hrv)), ?_⟩
    refine for_it walk_enum (fun i σ Hi => (∃ v4 v5 : Option L2.V, σ = [some (.ref p), some (.ref a), some (.ref du), some (.ref co), v4, v5, none, none, none, none, none]) ∧ SameX (fun c => c = p) H Hi ∧ Hi p = some (.ins T.C dx (fs3 n m l)) ∧ RowsAt Hi l ((List.range i).map (Lp.row0 rows dues m)))
      ⟨⟨none, none, rfl⟩, X4, hp4, [], el4, rfl, fun k a ha => by simp at ha⟩ (fun i σ Hi _ h => sqL (h.2.1 _ _ hrv (dne hrv))) ?_ ?_
    · rintro i x σ Hi Hi' hi ⟨⟨v4, v5, rfl⟩, sx, hpi, hRi⟩ ⟨t, y1, y2, rfl, nt, rfl, e3, e4⟩
      cases e3
      rw [hrvl] at hi
      obtain ⟨ra, rfl, _, hra⟩ := hrr i y2 e4
      have st : Same Hi (upd Hi t (.tup [.int (i : Nat), .ref ra])) := same_upd nt
      refine ⟨t, _, rfl, sqT upd_same, rfl, _, _, rfl, _, _, rfl, rfl, ?_⟩
      generalize hA : upd Hi t (.tup [.int (i : Nat), .ref ra]) = HA at st ⊢
      have hpA := st _ _ hpi
      have hraA := st _ _ (sx _ _ hra (dne hra))
      have hduA := st _ _ (sx _ _ hdu (dne hdu))
      obtain ⟨lvs, elv, lvl, _⟩ := hRi.item
      have elA := st _ _ elv
      refine ⟨_, rfl, p, T.C, dx, _, _, rfl, hpA, T.cl, T.n_rows, f3_rows, .inl ⟨rfl, _, sqL elA⟩, ?_⟩
      -- list(row)
      refine ⟨_, rfl, ra, _, rfl, .inl (sqL hraA), fun c1 n1 => ?_⟩
      have sB : Same HA (upd HA c1 (.lst ((rows.getD i []).map L2.V.int))) := same_upd n1
      generalize hB : upd HA c1 (.lst ((rows.getD i []).map L2.V.int)) = HB at sB ⊢
      have e1 : HB c1 = some (.lst ((rows.getD i []).map L2.V.int)) := by rw [← hB]; exact upd_same
      -- [1 if other == at else 0 ..]
      refine ⟨_, rfl, p, T.C, dx, _, _, rfl, sB _ _ hpA, T.cl, T.n_size, f3_size, _, rfl, by omega, by omega, fun D hD => ?_⟩
      refine lc_it (walk_rg (n := m)) (fun j Hj => Same HB Hj ∧ Hj D = some (.lst (((List.range j).map fun o => if o = i then (1 : Int) else 0).map L2.V.int))) ⟨same_upd hD, upd_same⟩ (fun _ _ _ _ => trivial) ?_ ?_
      · rintro j x Hj Hj' hj ⟨sj, eD⟩ ⟨rfl, rfl⟩
        refine ⟨rfl, _, rfl, _, rfl, rfl, _, rfl, ?_⟩
        have nx : ∀ v : Int, v = (if j = i then 1 else 0) → ∃ acc, Hj' D = some (.lst acc) ∧ acc.length < sizeLine ∧ Same HB (upd Hj' D (.lst (acc ++ [.int v]))) ∧ (upd Hj' D (.lst (acc ++ [.int v]))) D = some (.lst (((List.range (j + 1)).map fun o => if o = i then (1 : Int) else 0).map L2.V.int)) := fun v hv => by
          refine ⟨_, eD, szl ?_, same_put sj hD, ?_⟩
          · rw [List.length_map, List.length_map, List.length_range]; omega
          · rw [upd_same, List.range_succ, List.map_append, List.map_append, hv]; rfl
        refine ite2 (fun e => ?_) (fun e => ?_)
        · exact nx 1 (by rw [if_pos (by have := L2.V.int.inj (of_decide_eq_true e); omega)])
        · exact nx 0 (by rw [if_neg (fun z => e (decide_eq_true (by rw [z])))])
      · rintro HC ⟨sC, eD⟩
        have ll1 : ((rows.getD i []).map L2.V.int).length = n := by rw [List.length_map, hrw i hi]
        have ll2 : (((List.range m).map fun o => if o = i then (1 : Int) else 0).map L2.V.int).length = m := by rw [List.length_map, List.length_map, List.length_range]
        refine ⟨c1, D, _, _, rfl, rfl, sC _ _ e1, eD, szl' (by rw [ll1, ll2]; omega), fun c2 n2 => ?_⟩
        have sD : Same HC (upd HC c2 (.lst ((rows.getD i []).map L2.V.int ++ ((List.range m).map fun o => if o = i then (1 : Int) else 0).map L2.V.int))) := same_upd n2
        generalize hDD : upd HC c2 (.lst ((rows.getD i []).map L2.V.int ++ ((List.range m).map fun o => if o = i then (1 : Int) else 0).map L2.V.int)) = HD at sD ⊢
        have e2 : HD c2 = some (.lst ((rows.getD i []).map L2.V.int ++ ((List.range m).map fun o => if o = i then (1 : Int) else 0).map L2.V.int)) := by rw [← hDD]; exact upd_same
        have sAD : Same HA HD := (sB.trans sC).trans sD
        -- [dues[at]]
        refine ⟨_, rfl, _, rfl, du, _, _, _, rfl, rfl, sqL (sAD _ _ hduA), int_at (j := i) (by omega), szl' (by show 1 ≤ 1000000; decide), fun c3 n3 => ?_⟩
        have sE : Same HD (upd HD c3 (.lst [.int (dues.getD i 0)])) := same_upd n3
        generalize hE : upd HD c3 (.lst [.int (dues.getD i 0)]) = HE at sE ⊢
        have e3 : HE c3 = some (.lst [.int (dues.getD i 0)]) := by rw [← hE]; exact upd_same
        refine ⟨c2, c3, _, _, rfl, rfl, sE _ _ e2, e3, szl' (by rw [List.length_append, ll1, ll2]; show n + m + 1 ≤ _; omega), fun c4 n4 => ?_⟩
        have sF : Same HE (upd HE c4 (.lst (((rows.getD i []).map L2.V.int ++ ((List.range m).map fun o => if o = i then (1 : Int) else 0).map L2.V.int) ++ [.int (dues.getD i 0)]))) := same_upd n4
        generalize hF : upd HE c4 (.lst (((rows.getD i []).map L2.V.int ++ ((List.range m).map fun o => if o = i then (1 : Int) else 0).map L2.V.int) ++ [.int (dues.getD i 0)])) = HF at sF ⊢
        have e4' : HF c4 = some (.lst ((Lp.row0 rows dues m i).map L2.V.int)) := by
          rw [← hF, upd_same]
          unfold Lp.row0
          rw [List.map_append, List.map_append]; rfl
        have sAF : Same HA HF := (sAD.trans sE).trans sF
        have elF := sAF _ _ elA
        refine ⟨l, _, _, rfl, rfl, elF, szl (by rw [lvl, List.length_map, List.length_range]; omega), ?_⟩
        refine ⟨⟨_, _, rfl⟩, ?_, ?_, ?_⟩
        · intro b o e nb
          have e' := sAF _ _ (st _ _ (sx _ _ e nb))
          rw [upd_ne (fun z => by rw [z, hln] at e; cases e)]; exact e'
        · rw [upd_ne hlp.symm]; exact sAF _ _ hpA
        · rw [List.range_succ, List.map_append]
          rcases RowsAt.push (hRi.same (st.trans sAF)) elF e4' with z | z
          · exact z
          · exact absurd z (ne_of_none (sE _ _ (sAD _ _ elA)) n4).symm
    · rintro σ H5 ⟨⟨v4, v5, rfl⟩, sx5, hp5, hR5⟩
      rw [hrvl] at hR5
      -- self.base
      refine ⟨_, rfl, p, T.C, dx, _, _, rfl, hp5, T.cl, T.n_size, f3_size, _, rfl, by omega, by omega, fun b hb => ?_⟩
      refine lc_it (walk_rg (n := m)) (fun j Hj => Same H5 Hj ∧ Hj b = some (.lst (((List.range j).map fun k => n + k).map fun k : Nat => L2.V.int (k : Int)))) ⟨same_upd hb, upd_same⟩ (fun _ _ _ _ => trivial) ?_ ?_
      · rintro j x Hj Hj' hj ⟨sj, eD⟩ ⟨rfl, rfl⟩
        refine ⟨rfl, _, rfl, p, T.C, dx, _, _, rfl, sj _ _ hp5, T.cl, T.n_many, f3_many, _, rfl, _, _, rfl, rfl, _, eD, szl ?_, same_put sj hb, ?_⟩
        · rw [List.length_map, List.length_map, List.length_range]; omega
        · rw [upd_same, List.range_succ, List.map_append, List.map_append]; rfl
      · rintro H6 ⟨s6, eb6⟩
        have hp6 := s6 _ _ hp5
        refine ⟨_, rfl, p, T.C, dx, _, rfl, hp6, T.cl, T.n_base, (by show 3 < 1000; decide), ?_⟩
        rw [f_p4]
        have hbp : b ≠ p := ne_of eb6 hp6 (by intro z; cases z)
        have x7 : SameX (fun c => c = p) H6 (upd H6 p (.ins T.C dx (fs4 n m l b))) := SameX.upd rfl
        generalize hH7 : upd H6 p (.ins T.C dx (fs4 n m l b)) = H7 at x7 ⊢
        have hp7 : H7 p = some (.ins T.C dx (fs4 n m l b)) := by rw [← hH7]; exact upd_same
        have eb7 := x7 _ _ eb6 hbp
        have hR7 : RowsAt H7 l ((List.range m).map (Lp.row0 rows dues m)) := (hR5.same s6).sameX x7 hlp fun a r _ e => ne_of e hp6 (by intro z; cases z)
        have X7 : SameX (fun c => c = p) H H7 := SameX.trans (SameX.trans sx5 (Same.toX s6)) x7
        have hbn : H b = none := by
          cases e : H b with
          | none => rfl
          | some o =>
            have := sx5 _ _ e hbp
            rw [hb] at this; cases this
        -- width, first
        refine ⟨_, rfl, p, T.C, dx, _, _, rfl, hp7, T.cl, T.n_many, f4_many, _, rfl, p, T.C, dx, _, _, rfl, hp7, T.cl, T.n_size, f4_size, _, _, rfl, rfl, _, _, rfl, rfl, ?_⟩
        refine ⟨szl' (by show 1 ≤ 1000000; decide), fun z0 nz => ?_⟩
        have s8 : Same H7 (upd H7 z0 (.lst [.int 0])) := same_upd nz
        generalize hH8 : upd H7 z0 (.lst [.int 0]) = H8 at s8 ⊢
        have ez8 : H8 z0 = some (.lst [.int 0]) := by rw [← hH8]; exact upd_same
        refine ⟨_, rfl, z0, _, _, rfl, rfl, ez8, by omega, by omega, szl' (by show 1 * ((n : Int) + (m : Int) + 1).toNat ≤ 1000000; omega), fun f0 nf => ?_⟩
        have s9 : Same H8 (upd H8 f0 (.lst (List.replicate ((n : Int) + (m : Int) + 1).toNat [L2.V.int 0]).flatten)) := same_upd nf
        generalize hH9 : upd H8 f0 (.lst (List.replicate ((n : Int) + (m : Int) + 1).toNat [L2.V.int 0]).flatten) = H9 at s9 ⊢
        have ef9 : H9 f0 = some (.lst (((List.range (n + m + 1)).map fun j => - Lp.sumN 0 (fun k => Lp.A0 rows dues n m k j)).map L2.V.int)) := by
          rw [← hH9, upd_same]
          have e : ((n : Int) + (m : Int) + 1).toNat = n + m + 1 := by omega
          rw [e, rep_flat, rep_range]
          rfl
        have s79 : Same H7 H9 := s8.trans s9
        have hR9 := hR7.same s79
        have hp9 := s79 _ _ hp7
        obtain ⟨lvs, elv, lvl, lvr⟩ := hR9.item
        rw [List.length_map, List.length_range] at lvl
        refine ⟨_, rfl, p, T.C, dx, _, _, rfl, hp9, T.cl, T.n_rows, f4_rows, l, rfl, ⟨_, sqL elv⟩, ?_⟩
        refine for_it walk_list (fun i σ Hi => (∃ (v4 v5 : Option L2.V) (fa : Addr), σ = [some (.ref p), some (.ref a), some (.ref du), some (.ref co), v4, v5, some (.int ((n : Int) + (m : Int) + 1)), some (.ref fa), none, none, none] ∧ Hi fa = some (.lst (((List.range (n + m + 1)).map fun j => - Lp.sumN i (fun k => Lp.A0 rows dues n m k j)).map L2.V.int)) ∧ (H7 fa = none)) ∧ Same H9 Hi)
          ⟨⟨_, _, f0, rfl, ef9, s8.free nf⟩, Same.refl _⟩ (fun i σ Hi _ h => Same.seq h.2 (sqL elv)) ?_ ?_
        · rintro i x σ Hi Hi' hi ⟨⟨v4, v5, fa, rfl, efa, nfa⟩, si⟩ ⟨rfl, hx⟩
          obtain ⟨ra, rfl, hik, hra⟩ := lvr i x hx
          rw [List.length_map, List.length_range] at hik
          rw [getD_map_range' hik] at hra
          have hra' := si _ _ hra
          have rl0 : (Lp.row0 rows dues m i).length = n + m + 1 := Lp.row0_len (hrw i hik)
          refine ⟨_, rfl, _, rfl, fa, ra, _, _, rfl, sqL efa, sqL hra', fun D hD => ?_⟩
          refine lc_it (walk_zip (n := n + m + 1) (by rw [List.length_map, List.length_map, List.length_range, List.length_map, rl0, Nat.min_self])) (fun j Hj => Same Hi' Hj ∧ Hj D = some (.lst ((((List.range (n + m + 1)).map fun j => - Lp.sumN (i + 1) (fun k => Lp.A0 rows dues n m k j)).take j).map L2.V.int))) ⟨same_upd hD, upd_same⟩ (fun j Hj _ h => ⟨Same.seq h.1 (sqL efa), Same.seq h.1 (sqL hra')⟩) ?_ ?_
          · rintro j x Hj Hj' hj ⟨sj, eD⟩ ⟨t, x1, x2, rfl, nt, rfl, f1, f2⟩
            obtain ⟨y1, hy1, rfl⟩ := ints_at f1
            obtain ⟨y2, hy2, rfl⟩ := ints_at f2
            have nDt : D ≠ t := ne_of_none eD nt
            refine ⟨t, _, rfl, sqT upd_same, rfl, _, _, rfl, _, _, rfl, rfl, rfl, ?_⟩
            refine ⟨_, rfl, _, rfl, _, _, rfl, rfl, _, by rw [upd_ne nDt]; exact eD, szl ?_, same_put (sj.trans (same_upd nt)) hD, ?_⟩
            · rw [List.length_map, List.length_take, List.length_map, List.length_range]; omega
            · rw [upd_same, take_ints]
              rw [List.getElem?_map, List.getElem?_range (by omega)] at hy1 ⊢
              have e1 : - Lp.sumN i (fun k => Lp.A0 rows dues n m k j) = y1 := Option.some.inj hy1
              have e2 : Lp.A0 rows dues n m i j = y2 := by
                rw [← Lp.row0_at (hrw i hik) (show j < n + m + 1 by omega), Lp.getD_lt 0 (by rw [rl0]; omega)]
                rw [List.getElem?_eq_getElem (by rw [rl0]; omega)] at hy2
                exact Option.some.inj hy2
              show some (- (Lp.sumN i (fun k => Lp.A0 rows dues n m k j) + Lp.A0 rows dues n m i j)) = some (y1 - y2)
              rw [← e1, ← e2]
              congr 1
              omega
          · rintro Hj ⟨sj, eD⟩
            rw [List.take_of_length_le (by rw [List.length_map, List.length_range]; exact Nat.le_refl _)] at eD
            exact ⟨⟨_, _, D, rfl, eD, (s79.trans si).free hD⟩, si.trans sj⟩
        · rintro σ H10 ⟨⟨v4, v5, fa, rfl, efa, nfa⟩, s10⟩
          rw [lvl] at efa
          have hp10 := s10 _ _ hp9
          have hfp : fa ≠ p := ne_of efa hp10 (by intro z; cases z)
          have s7_10 := s79.trans s10
          -- the helpers cost nothing
          refine ⟨_, rfl, p, T.C, dx, _, _, rfl, hp10, T.cl, T.n_size, f4_size, _, rfl, by omega, by omega, ?_⟩
          refine for_it (walk_rg (n := m)) (fun i σ Hi => (∃ v4 : Option L2.V, σ = [some (.ref p), some (.ref a), some (.ref du), some (.ref co), v4, v5, some (.int ((n : Int) + (m : Int) + 1)), some (.ref fa), none, none, none]) ∧ SameX (fun c => c = fa) H10 Hi ∧ Hi fa = some (.lst (((List.range (n + m + 1)).map fun j => if n ≤ j ∧ j < n + i then 0 else - Lp.sumN m (fun k => Lp.A0 rows dues n m k j)).map L2.V.int)))
            ⟨⟨_, rfl⟩, SameX.refl _ _, ?_⟩ (fun _ _ _ _ _ => trivial) ?_ ?_
          · rw [efa]
            congr 3
            apply List.map_congr_left
            intro j _
            rw [if_neg (by omega)]
          · rintro i x σ Hi Hi' hi ⟨⟨v4, rfl⟩, sxi, efi⟩ ⟨rfl, rfl⟩
            have hpi := sxi _ _ hp10 hfp.symm
            refine ⟨_, rfl, _, rfl, p, T.C, dx, _, _, rfl, hpi, T.cl, T.n_many, f4_many, _, rfl, _, _, rfl, rfl, fa, _, _, n + i, rfl, rfl, efi, ?_, ?_⟩
            · have := ixn (n := n + m + 1) (j := n + i) (by omega)
              rw [List.length_map, List.length_map, List.length_range]
              rw [show ((n : Int) + (i : Int)) = ((n + i : Nat) : Int) by omega]
              exact this
            · refine ⟨⟨_, rfl⟩, SameX.trans sxi (SameX.upd rfl), ?_⟩
              rw [upd_same, set_range]
              congr 3
              apply List.map_congr_left
              intro j _
              by_cases z : j = n + i
              · rw [if_pos z, if_pos (by omega)]
              · rw [if_neg z]
                by_cases z2 : n ≤ j ∧ j < n + i
                · rw [if_pos z2, if_pos (by omega)]
                · rw [if_neg z2, if_neg (by omega)]
          · rintro σ H11 ⟨⟨v4', rfl⟩, sx11, ef11⟩
            have hp11 := sx11 _ _ hp10 hfp.symm
            have hcop : co ≠ p := dne hco
            have eco7 := X7 _ _ hco hcop
            have hcof : co ≠ fa := ne_of_none eco7 nfa
            have eco11 := sx11 _ _ (s7_10 _ _ eco7) hcof
            -- self.goals
            refine ⟨_, rfl, _, rfl, co, _, rfl, .inl (sqL eco11), fun c1 n1 => ?_⟩
            have sA : Same H11 (upd H11 c1 (.lst (costs.map L2.V.int))) := same_upd n1
            generalize hA : upd H11 c1 (.lst (costs.map L2.V.int)) = HA at sA ⊢
            have eA : HA c1 = some (.lst (costs.map L2.V.int)) := by rw [← hA]; exact upd_same
            refine ⟨szl' (by show 1 ≤ 1000000; decide), fun z1 nz1 => ?_⟩
            have sB : Same HA (upd HA z1 (.lst [.int 0])) := same_upd nz1
            generalize hB : upd HA z1 (.lst [.int 0]) = HB at sB ⊢
            have eB : HB z1 = some (.lst [.int 0]) := by rw [← hB]; exact upd_same
            refine ⟨_, rfl, p, T.C, dx, _, _, rfl, sB _ _ (sA _ _ hp11), T.cl, T.n_size, f4_size, _, _, rfl, rfl, z1, _, _, rfl, rfl, eB, by omega, by omega, szl' (by show 1 * ((m : Int) + 1).toNat ≤ 1000000; omega), fun z2 nz2 => ?_⟩
            have sC : Same HB (upd HB z2 (.lst (List.replicate ((m : Int) + 1).toNat [L2.V.int 0]).flatten)) := same_upd nz2
            generalize hC : upd HB z2 (.lst (List.replicate ((m : Int) + 1).toNat [L2.V.int 0]).flatten) = HC at sC ⊢
            have eC : HC z2 = some (.lst ((List.replicate (m + 1) (0 : Int)).map L2.V.int)) := by
              rw [← hC, upd_same]
              have e : ((m : Int) + 1).toNat = m + 1 := by omega
              rw [e, rep_flat, List.map_replicate]
            refine ⟨c1, z2, _, _, rfl, rfl, sC _ _ (sB _ _ eA), eC, szl' (by rw [List.length_map, List.length_map, List.length_replicate, hcl]; omega), fun c5 n5 => ?_⟩
            have sD : Same HC (upd HC c5 (.lst (costs.map L2.V.int ++ (List.replicate (m + 1) (0 : Int)).map L2.V.int))) := same_upd n5
            generalize hDD : upd HC c5 (.lst (costs.map L2.V.int ++ (List.replicate (m + 1) (0 : Int)).map L2.V.int)) = HD at sD ⊢
            have eD : HD c5 = some (.lst ((costs ++ List.replicate (m + 1) (0 : Int)).map L2.V.int)) := by
              rw [← hDD, upd_same, List.map_append]
            have s11D : Same H11 HD := ((sA.trans sB).trans sC).trans sD
            refine ⟨szl' (by show 2 ≤ 1000000; decide), fun g ng => ?_⟩
            have sE : Same HD (upd HD g (.lst [.ref fa, .ref c5])) := same_upd ng
            generalize hE : upd HD g (.lst [.ref fa, .ref c5]) = HE at sE ⊢
            have eg : HE g = some (.lst [.ref fa, .ref c5]) := by rw [← hE]; exact upd_same
            have hpE := sE _ _ (s11D _ _ hp11)
            refine ⟨_, rfl, p, T.C, dx, _, rfl, hpE, T.cl, T.n_goals, (by show 4 < 1000; decide), ?_⟩
            -- self.scale = 1
            refine ⟨_, rfl, p, T.C, dx, _, rfl, upd_same, T.cl, T.n_scale, f_l5, ?_⟩
            rw [L2.upd_upd, f_p5]
            have xF : SameX (fun c => c = p) HE (upd HE p (.ins T.C dx (fsT n m l b g 1))) := SameX.upd rfl
            generalize hF : upd HE p (.ins T.C dx (fsT n m l b g 1)) = HF at xF ⊢
            have hpF : HF p = some (.ins T.C dx (fsT n m l b g 1)) := by rw [← hF]; exact upd_same
            have s11E : Same H11 HE := s11D.trans sE
            have noref : ∀ {c : Addr}, H7 c ≠ none → c ≠ fa := fun h e => h (by rw [e]; exact nfa)
            have hl7 : H7 l ≠ none := by
              obtain ⟨as, ea, _⟩ := id hR7
              rw [ea]; simp
            have eb11 := sx11 _ _ (s7_10 _ _ eb7) (noref (by rw [eb7]; simp))
            have hR11 : RowsAt H11 l ((List.range m).map (Lp.row0 rows dues m)) := by
              obtain ⟨as, ea, la, hh⟩ := id hR7
              exact ⟨as, sx11 _ _ (s7_10 _ _ ea) (noref (by rw [ea]; simp)), la, fun k c hc => let ⟨r, h1, h2⟩ := hh k c hc; ⟨r, h1, sx11 _ _ (s7_10 _ _ h2) (noref (by rw [h2]; simp))⟩⟩
            have insne : ∀ {c : Addr} {xs : List L2.V}, HE c = some (.lst xs) → c ≠ p := fun e => ne_of e hpE (by intro z; cases z)
            have hlg : l ≠ g := by
              obtain ⟨as, ea, _⟩ := id hR11
              exact ne_of_none (s11D _ _ ea) ng
            refine q HF l b g ⟨⟨dx, hpF⟩, ?_, ?_, ?_, hlg⟩ hln hbn ?_
            · exact (hR11.same s11E).sameX xF hlp fun a r _ e => insne e
            · exact xF _ _ (s11E _ _ eb11) (insne (s11E _ _ eb11))
            · refine ⟨[fa, c5], xF _ _ eg (insne eg), rfl, fun k c hc => ?_⟩
              match k, hc with
              | 0, hc =>
                have e : fa = c := Option.some.inj hc
                subst e
                exact ⟨_, rfl, xF _ _ (s11E _ _ ef11) (insne (s11E _ _ ef11))⟩
              | 1, hc =>
                have e : c5 = c := Option.some.inj hc
                subst e
                exact ⟨_, rfl, xF _ _ (sE _ _ eD) (insne (sE _ _ eD))⟩
              | k + 2, hc => simp at hc
            · intro c o e nc
              have e7 := X7 _ _ e nc
              exact xF _ _ (s11E _ _ (sx11 _ _ (s7_10 _ _ e7) (noref (by rw [e7]; simp)))) nc
end
end KV
namespace KV
open PySem PySem.Spec PyProof.Rows L2
theorem sameX_fresh {R : Addr → Prop} {H H1 H2 : Hp} (s : Same H H1) (x : SameX R H1 H2) (h : ∀ c, R c → H c = none) : Same H H2 := fun c o e => x _ _ (s _ _ e) fun z => by rw [h c z] at e; cases e
section
variable {P : Program} {w : World} {K : PySem.W.Frag} {mg : Str → Option Value} {base : Heap}
/-! ### least_sum -/
theorem sc_least_sum : FnScope ["rows", "dues", "costs", "tableau"] ["rows", "dues", "costs"] (defScope s_least_sum) := ⟨rfl, rfl, rfl, by decide +kernel, rfl, by decide +kernel, by decide +kernel⟩
def sp_least_sum : Sp := fun vs H Q _ => ∃ (a du co : Addr) (I : Lp.Ins), vs = [.ref a, .ref du, .ref co] ∧ Lp.WF I ∧ RowsAt H a I.rows ∧ H du = some (.lst (I.dues.map V.int)) ∧ H co = some (.lst (I.costs.map V.int)) ∧
  ∀ H' t xa ya X, Same H H' → H' t = some (.tup [.ref xa, .ref ya, .int X.scale]) → H' xa = some (.lst ((X.xs I).map V.int)) → H' ya = some (.lst ((X.ys I).map V.int)) → Lp.Fin I X → Q (.ref t) H'
theorem ok_least_sum (T : Txt K mg) : FnOk P w K mg base CX0 4 T.a_least_sum T.d_least_sum ["rows", "dues", "costs"] sp_least_sum := by
  have G_tb_init : FnOk P w K mg base CX0 1 T.a_tb_init T.d_tb_init ["self", "rows", "dues", "costs"] (sp_init T.C) := ok_init T
  have G_tb_run : FnOk P w K mg base CX0 3 T.a_tb_run T.d_tb_run ["self", "goal"] (sp_run T.C) := ok_run T
  have G_tb_drive_out : FnOk P w K mg base CX0 3 T.a_tb_drive_out T.d_tb_drive_out ["self"] (sp_drive T.C) := ok_drive T
  have G_tb_shares : FnOk P w K mg base CX0 1 T.a_tb_shares T.d_tb_shares ["self"] (sp_shares T.C) := ok_shares T
  have G_tb_prices : FnOk P w K mg base CX0 1 T.a_tb_prices T.d_tb_prices ["self"] (sp_prices T.C) := ok_prices T
  refine T.F_least_sum.ok sc_least_sum (fun vs H Q E h => ?_) (fun cdv A outer s H vs Q E hr h => ?_)
  · obtain ⟨a, du, co, I, rfl, _⟩ := h; rfl
  · obtain ⟨a, du, co, I, rfl, wf, hR, hdu, hco, q⟩ := h
    have hW := wf.W
    have hM := wf.M
    have nf : ∀ {l b g : Addr} {d : Int}, (fsT I.W I.M l b g d).lookup ("run" : Str) = none ∧ (fsT I.W I.M l b g d).lookup ("drive_out" : Str) = none ∧ (fsT I.W I.M l b g d).lookup ("shares" : Str) = none ∧ (fsT I.W I.M l b g d).lookup ("prices" : Str) = none := fun {l b g d} =>
      ⟨fs_none (by decide +kernel) (by decide +kernel) (by decide +kernel) (by decide +kernel) (by decide +kernel) (by decide +kernel), fs_none (by decide +kernel) (by decide +kernel) (by decide +kernel) (by decide +kernel) (by decide +kernel) (by decide +kernel), fs_none (by decide +kernel) (by decide +kernel) (by decide +kernel) (by decide +kernel) (by decide +kernel) (by decide +kernel), fs_none (by decide +kernel) (by decide +kernel) (by decide +kernel) (by decide +kernel) (by decide +kernel) (by decide +kernel)⟩
    refine ⟨_, (pss_cons (ps_set (i := 3) sc_least_sum.nd rfl (Or.inl rfl) (pe_make T.mkC G_tb_init (hr.mono (by decide)) (by rfl) T.mgC T.b_tb_init .nil pass0 (pa_cons (pv 0) (pa_cons (pv 1) (pa_cons (pv 2) pa_nil)))))
      (pss_cons (ps_expr (pe_meth (pv 3) T.cl T.m_tb_run G_tb_run (hr.mono (by decide)) T.b_tb_run .nil pass0 (pa_cons pe_int pa_nil)))
      (pss_cons (ps_if (pt_cmpR op_ne (pe_ix ix_list (pe_ix ix_list (pe_fld (pv 3) rfl) pe_int (fun _ _ => rfl)) (pe_un un_neg pe_int) (fun _ _ => rfl)) pe_int (nomark _))
        (pss_one (ps_ret pe_non))
        pss_nil)
      (pss_cons (ps_expr (pe_meth0 (pv 3) T.cl T.m_tb_drive_out G_tb_drive_out (hr.mono (by decide)) T.b_tb_drive_out .nil pass0))
      (pss_cons (ps_expr (pe_meth (pv 3) T.cl T.m_tb_run G_tb_run (hr.mono (by decide)) T.b_tb_run .nil pass0 (pa_cons pe_int pa_nil)))
      (pss_one (ps_ret (pe_tup (pa_cons (pe_meth0 (pv 3) T.cl T.m_tb_shares G_tb_shares (hr.mono (by decide)) T.b_tb_shares .nil pass0) (pa_cons (pe_meth0 (pv 3) T.cl T.m_tb_prices G_tb_prices (hr.mono (by decide)) T.b_tb_prices .nil pass0) (pa_cons (pe_fld (pv 3) rfl) pa_nil))))))))))), ?_⟩
    refine ⟨_, rfl, _, rfl, _, rfl, fun p dx np ndx nex => ?_⟩
    have s0 : Same H (upd (upd H dx (.own p)) p (.ins T.C dx [])) := fun c o e => by
      rw [upd_ne (ne_of_none e np), upd_ne (ne_of_none e ndx)]; exact e
    generalize hH0 : upd (upd H dx (.own p)) p (.ins T.C dx []) = H0 at s0 ⊢
    have hp0 : H0 p = some (.ins T.C dx []) := by rw [← hH0]; exact upd_same
    refine ⟨p, dx, a, du, co, I.W, I.M, I.rows, I.dues, I.costs, rfl, hp0, hR.same s0, s0 _ _ hdu, s0 _ _ hco, Lp.rows_len I, Lp.rows_w I, Lp.dues_len I, Lp.costs_len I, by omega, by omega, fun H1 l b g hT1 nl nb x1 => ⟨rfl, ?_⟩⟩
    have V1 : Lp.LInv (Lp.sysOf I) (Lp.csOf I) (Lp.tab0 I.rows I.dues I.costs I.W I.M) := Lp.tab0_ok (Lp.rows_w I) (Lp.costs_len I) (fun i hi => (Lp.dues_nn I i hi).1)
    have fr : ∀ c, (c = p ∨ c = l ∨ c = b) → H c = none := fun c h => by
      rcases h with e | e | e <;> subst e
      · exact np
      · exact s0.free nl
      · exact s0.free nb
    have s1 : Same H H1 := sameX_fresh s0 (x1.mono fun c e => .inl e) fr
    obtain ⟨dx1, hp1⟩ := hT1.ob
    -- run(0)
    refine ⟨_, rfl, p, dx1, _, rfl, hp1, nf.1, p, l, b, g, 0, I, _, rfl, hT1, wf, V1, by decide, (fun z => by cases z), fun H2 g2 X2 hT2 V2 _ hG2 x2 => ?_⟩
    have s2 : Same H H2 := sameX_fresh s1 x2 fr
    obtain ⟨z, F⟩ := Lp.feas_of wf
    obtain ⟨z0, hz⟩ := Lp.phase1 F V2 hG2
    obtain ⟨dx2, hp2⟩ := hT2.ob
    obtain ⟨ga, gs, hgl, hga, hrow⟩ := hT2.goals.get (k := 0) (by rw [(tabOk_of wf V2).gl]; decide)
    obtain ⟨gwl, _⟩ := (tabOk_of wf V2).goal (k := 0) (by decide)
    refine ⟨_, rfl, p, T.C, dx2, _, _, rfl, hp2, T.cl, T.n_goals, fs_goals, g2, _, (0 : Nat), _, rfl, rfl, sqL hgl, hga, _, rfl, ga, _, -1, _, rfl, rfl, sqL hrow, int_last gwl, rfl, _, rfl, ?_⟩
    have z0' : (X2.goals.getD 0 []).getD (I.W + I.M) 0 = 0 := z0
    rw [z0']
    -- drive_out
    refine ⟨_, rfl, p, dx2, _, rfl, hp2, nf.2.1, p, l, b, g2, I, X2, rfl, hT2, wf, ⟨V2, hz, fun k hk => absurd hk (Nat.not_lt_zero _)⟩, fun H3 g3 X3 hT3 V3 x3 => ?_⟩
    have s3 : Same H H3 := sameX_fresh s2 x3 fr
    obtain ⟨dx3, hp3⟩ := hT3.ob
    have Z3 : Lp.Z2 (Lp.sysOf I) X3 := fun k hk => V3.d k hk hk
    -- run(1)
    refine ⟨_, rfl, p, dx3, _, rfl, hp3, nf.1, p, l, b, g3, 1, I, X3, rfl, hT3, wf, V3.L, by decide, (fun _ => Z3), fun H4 g4 X4 hT4 V4 Z4 hG4 x4 => ?_⟩
    have s4 : Same H H4 := sameX_fresh s3 x4 fr
    obtain ⟨dx4, hp4⟩ := hT4.ob
    have fin := Lp.fin_of wf V4 (Z4 rfl) hG4
    -- (shares, prices, scale)
    refine ⟨_, rfl, p, dx4, _, rfl, hp4, nf.2.2.1, p, l, b, g4, I, X4, rfl, hT4, wf, V4, fun H5 xa s5 nx ex => ?_⟩
    have hT5 := TabAt.same s5 hT4
    have hp5 := s5 _ _ hp4
    refine ⟨_, rfl, p, dx4, _, rfl, hp5, nf.2.2.2, p, l, b, g4, I, X4, rfl, hT5, wf, V4, fun H6 ya s6 ny ey => ?_⟩
    refine ⟨_, rfl, p, T.C, dx4, _, _, rfl, s6 _ _ hp5, T.cl, T.n_scale, fs_scale, szl' (by show 3 ≤ 1000000; decide), fun t nt => ?_⟩
    have s7 : Same H6 (upd H6 t (.tup [.ref xa, .ref ya, .int X4.scale])) := same_upd nt
    exact q _ t xa ya X4 (((s4.trans s5).trans s6).trans s7) upd_same (s7 _ _ (s6 _ _ ex)) (s7 _ _ ey) fin
end
end KV
namespace KV
open PySem PySem.Spec PyProof.Rows L2
/-! ### lots: the rows of each term -/
def LotAt (K : PySem.W.Frag) (H : Hp) (la : Addr) (s k : Nat) : Prop := ∃ vs, H la = some (.lst vs) ∧ Ats K H ((Lp.rowsN s k).map rowD) vs
theorem LotAt.same {K : PySem.W.Frag} {H H' : Hp} {la : Addr} {s k : Nat} (sm : Same H H') (h : LotAt K H la s k) : LotAt K H' la s k := let ⟨vs, e, a⟩ := h; ⟨vs, sm _ _ e, Ats.same (Same.toT sm) a⟩
def LotsAt (K : PySem.W.Frag) (H : Hp) (L : Addr) (I : Lp.Ins) (q : Nat) : Prop := ∃ acc, H L = some (.lst acc) ∧ acc.length = q ∧ ∀ (j : Nat) x, acc[j]? = some x → ∃ la, x = .ref la ∧ la ≠ L ∧ LotAt K H la I.s (I.ar j)
theorem LotsAt.same {K : PySem.W.Frag} {H H' : Hp} {L : Addr} {I : Lp.Ins} {q : Nat} (sm : Same H H') (h : LotsAt K H L I q) : LotsAt K H' L I q :=
  let ⟨acc, e, l, a⟩ := h; ⟨acc, sm _ _ e, l, fun j x hx => let ⟨la, h1, h2, h3⟩ := a j x hx; ⟨la, h1, h2, h3.same sm⟩⟩
theorem sum_off (f : Nat → Nat) (a : Nat) : ∀ q, ((Lp.offN f a q : Nat) : Int) = (a : Int) + ((List.range q).map fun i => (f i : Int)).sum
  | 0 => by show (a : Int) = a + 0; omega
  | q + 1 => by
    have h := sum_off f a q
    rw [List.range_succ, List.map_append, List.sum_append]
    show ((Lp.offN f a q + f q : Nat) : Int) = _
    rw [Int.natCast_add, h]
    simp
    omega
/-! ### rows in a list that grows, apart from two places -/
def RowsOff (R : Addr → Prop) (H : Hp) (l : Addr) (rows : List (List Int)) : Prop := ∃ as : List Addr, H l = some (.lst (as.map V.ref)) ∧ as.length = rows.length ∧ ∀ (k : Nat) (a : Addr), as[k]? = some a → ∃ r, rows[k]? = some r ∧ H a = some (.lst (r.map V.int)) ∧ ¬ R a
theorem RowsOff.at_ {R : Addr → Prop} {H : Hp} {l : Addr} {rows : List (List Int)} (h : RowsOff R H l rows) : RowsAt H l rows := let ⟨as, e, hl, hh⟩ := h; ⟨as, e, hl, fun k a ha => let ⟨r, h1, h2, _⟩ := hh k a ha; ⟨r, h1, h2⟩⟩
theorem RowsOff.same {R : Addr → Prop} {H H' : Hp} {l : Addr} {rows : List (List Int)} (s : Same H H') (h : RowsOff R H l rows) : RowsOff R H' l rows := let ⟨as, e, hl, hh⟩ := h; ⟨as, s _ _ e, hl, fun k a ha => let ⟨r, h1, h2, h3⟩ := hh k a ha; ⟨r, h1, s _ _ h2, h3⟩⟩
theorem RowsOff.push {R : Addr → Prop} {H : Hp} {l a : Addr} {rows : List (List Int)} {r : List Int} {vs : List V} (h : RowsOff R H l rows) (hR : R l) (na : ¬ R a) (hv : H l = some (.lst vs)) (hr : H a = some (.lst (r.map V.int))) : RowsOff R (upd H l (.lst (vs ++ [.ref a]))) l (rows ++ [r]) := by
  obtain ⟨as, e0, hl, hh⟩ := h
  rw [hv] at e0
  have ev : vs = as.map V.ref := by injection (Option.some.inj e0)
  subst ev
  refine ⟨as ++ [a], by rw [upd_same, List.map_append]; rfl, by rw [List.length_append, List.length_append, hl]; rfl, fun k c hc => ?_⟩
  by_cases hk : k < as.length
  · rw [List.getElem?_append_left hk] at hc
    obtain ⟨q, h1, h2, h3⟩ := hh k c hc
    exact ⟨q, by rw [List.getElem?_append_left (by omega)]; exact h1, by rw [upd_ne (fun z => h3 (by rw [z]; exact hR))]; exact h2, h3⟩
  · have hk2 : k = as.length := by
      have h5 := (List.getElem?_eq_some_iff.mp hc).1
      rw [List.length_append] at h5
      have : ([a] : List Addr).length = 1 := rfl
      omega
    subst hk2
    rw [List.getElem?_append_right (Nat.le_refl _), Nat.sub_self] at hc
    have ec : a = c := Option.some.inj hc
    subst ec
    exact ⟨r, by rw [hl, List.getElem?_append_right (Nat.le_refl _), Nat.sub_self]; rfl, by rw [upd_ne (fun z => na (by rw [z]; exact hR))]; exact hr, na⟩
theorem RowsOff.upd {R : Addr → Prop} {H : Hp} {l c : Addr} {o : HO} {rows : List (List Int)} (h : RowsOff R H l rows) (hc : R c) (hlc : l ≠ c) : RowsOff R (upd H c o) l rows := by
  obtain ⟨as, e, hl, hh⟩ := h
  refine ⟨as, by rw [upd_ne hlc]; exact e, hl, fun k a ha => ?_⟩
  obtain ⟨r, h1, h2, h3⟩ := hh k a ha
  exact ⟨r, h1, by rw [upd_ne (fun z => h3 (by rw [z]; exact hc))]; exact h2, h3⟩
/-- what stands while the program is written: rows, sums, prices -/
structure Made (H2 H : Hp) (ra du pa : Addr) (rows : List (List Int)) (dues prices : List Int) : Prop where
  sm : Same H2 H
  rows : RowsOff (fun c => c = ra ∨ c = du) H ra rows
  dues : H du = some (.lst (dues.map V.int))
  prices : H pa = some (.lst (prices.map V.int))
  nr : H2 ra = none
  nd : H2 du = none
  rd : ra ≠ du
  pr : pa ≠ ra
  pd : pa ≠ du
theorem Made.same {H2 H H' : Hp} {ra du pa : Addr} {rows : List (List Int)} {dues prices : List Int} (s : Same H H') (h : Made H2 H ra du pa rows dues prices) : Made H2 H' ra du pa rows dues prices :=
  ⟨h.sm.trans s, h.rows.same s, s _ _ h.dues, s _ _ h.prices, h.nr, h.nd, h.rd, h.pr, h.pd⟩
/-- a row and a sum are appended -/
theorem Made.push {H2 H : Hp} {ra du pa a : Addr} {rows : List (List Int)} {dues prices r : List Int} {vs : List V} {d : Int} (h : Made H2 H ra du pa rows dues prices) (hv : H ra = some (.lst vs)) (hr : H a = some (.lst (r.map V.int))) (n1 : a ≠ ra) (n2 : a ≠ du) :
    Made H2 (upd (upd H ra (.lst (vs ++ [.ref a]))) du (.lst ((dues.map V.int) ++ [.int d]))) ra du pa (rows ++ [r]) (dues ++ [d]) prices := by
  have hp := h.rows.push (.inl rfl) (fun z => z.elim n1 n2) hv hr
  refine ⟨fun c o e => ?_, hp.upd (.inr rfl) h.rd, by rw [upd_same, List.map_append]; rfl, by rw [upd_ne h.pd, upd_ne h.pr]; exact h.prices, h.nr, h.nd, h.rd, h.pr, h.pd⟩
  rw [upd_ne (ne_of_none e h.nd), upd_ne (ne_of_none e h.nr)]
  exact h.sm _ _ e
theorem Made.vs {H2 H : Hp} {ra du pa : Addr} {rows : List (List Int)} {dues prices : List Int} (h : Made H2 H ra du pa rows dues prices) : ∃ vs, H ra = some (.lst vs) ∧ vs.length = rows.length := let ⟨as, e, hl, _⟩ := h.rows; ⟨_, e, by rw [List.length_map]; exact hl⟩
theorem len_lt {α : Type} {f : Nat → α} {n k : Nat} (h : k < n) : k < ((List.range n).map f).length := by rw [List.length_map, List.length_range]; exact h
/-- what is written after some terms, and within a term after some places -/
def rT (I : Lp.Ins) (i : Nat) : List (List Int) := ((List.range I.n).map fun nm => (List.range I.W).map (I.bndE nm)) ++ (List.range i).flatMap fun t => (List.range (I.ar t)).flatMap fun p => (List.range I.s).map fun v => (List.range I.W).map (I.lnkE t p v)
def dT (I : Lp.Ins) (i : Nat) : List Int := ((List.range I.n).map fun _ => (1 : Int)) ++ (List.range i).flatMap fun t => (List.range (I.ar t)).flatMap fun _ => (List.range I.s).map fun _ => (0 : Int)
def rP (I : Lp.Ins) (i p : Nat) : List (List Int) := (List.range p).flatMap fun p => (List.range I.s).map fun v => (List.range I.W).map (I.lnkE i p v)
def dP (I : Lp.Ins) (p : Nat) : List Int := (List.range p).flatMap fun _ => (List.range I.s).map fun _ => (0 : Int)
def pT (I : Lp.Ins) (i : Nat) : List Int := ((List.range (I.n * I.s)).map fun _ => (0 : Int)) ++ (List.range i).flatMap fun t => (List.range (I.ll t)).map (I.c t)
theorem rT_next (I : Lp.Ins) (i : Nat) : rT I i ++ rP I i (I.ar i) = rT I (i + 1) := by
  unfold rT rP
  rw [List.range_succ, List.flatMap_append, List.flatMap_singleton, List.append_assoc]
theorem dT_next (I : Lp.Ins) (i : Nat) : dT I i ++ dP I (I.ar i) = dT I (i + 1) := by
  unfold dT dP
  rw [List.range_succ, List.flatMap_append, List.flatMap_singleton, List.append_assoc]
theorem rP_next (I : Lp.Ins) (i p : Nat) : rP I i p ++ ((List.range I.s).map fun v => (List.range I.W).map (I.lnkE i p v)) = rP I i (p + 1) := by
  unfold rP
  rw [List.range_succ, List.flatMap_append, List.flatMap_singleton]
theorem dP_next (I : Lp.Ins) (p : Nat) : dP I p ++ ((List.range I.s).map fun _ => (0 : Int)) = dP I (p + 1) := by
  unfold dP
  rw [List.range_succ, List.flatMap_append, List.flatMap_singleton]
theorem dT_len (I : Lp.Ins) (i : Nat) : (dT I i).length = (rT I i).length := by
  unfold dT rT
  rw [List.length_append, List.length_append, List.length_map, List.length_map]
  rw [Lp.flat_len (f := fun t => I.ar t * I.s) (fun t _ => by rw [Lp.flat_len (f := fun _ => I.s) (fun p _ => by rw [List.length_map, List.length_range]), Lp.offN_const])]
  rw [Lp.flat_len (f := fun t => I.ar t * I.s) (fun t _ => by rw [Lp.flat_len (f := fun _ => I.s) (fun p _ => by rw [List.length_map, List.length_range]), Lp.offN_const])]
theorem rT_len {I : Lp.Ins} {i : Nat} : (rT I i).length = I.of i := by
  unfold rT
  rw [List.length_append, List.length_map, List.length_range, Lp.flat_len (f := fun t => I.ar t * I.s) (fun t _ => by rw [Lp.flat_len (f := fun _ => I.s) (fun p _ => by rw [List.length_map, List.length_range]), Lp.offN_const])]
  exact (Lp.offN_add _ _ _).symm
theorem rP_len {I : Lp.Ins} {i p : Nat} : (rP I i p).length = p * I.s := by
  unfold rP
  rw [Lp.flat_len (f := fun _ => I.s) (fun p _ => by rw [List.length_map, List.length_range]), Lp.offN_const]
theorem dP_len {I : Lp.Ins} {p : Nat} : (dP I p).length = p * I.s := by
  unfold dP
  rw [Lp.flat_len (f := fun _ => I.s) (fun p _ => by rw [List.length_map, List.length_range]), Lp.offN_const]
theorem blk2 {p a s v : Nat} (hp : p < a) (hv : v < s) : p * s + v < a * s := Lp.blk_lt hp hv
/-- a link's row after some rows of the lot -/
def lnkU (I : Lp.Ins) (t p v a j : Nat) : Int := (if j = I.sc t p * I.s + v then -1 else 0) + (if I.st t ≤ j ∧ j < I.st t + a then (if I.lv t (j - I.st t) p = v then 1 else 0) else 0)
theorem lnkU_end (I : Lp.Ins) (t p v : Nat) : lnkU I t p v (I.ll t) = I.lnkE t p v := rfl
theorem lnkU_step {I : Lp.Ins} {t p v a : Nat} (h : I.sc t p * I.s + v < I.st t) (j : Nat) : lnkU I t p v (a + 1) j = if I.lv t a p = v then (if j = I.st t + a then 1 else lnkU I t p v a j) else lnkU I t p v a j := by
  unfold lnkU
  by_cases z : j = I.st t + a
  · subst z
    rw [if_neg (by omega), if_pos (show I.st t ≤ I.st t + a ∧ I.st t + a < I.st t + (a + 1) by omega), Nat.add_sub_cancel_left, if_neg (show ¬ (I.st t ≤ I.st t + a ∧ I.st t + a < I.st t + a) by omega), if_pos rfl]
    by_cases y : I.lv t a p = v
    · rw [if_pos y, if_pos y]; rfl
    · rw [if_neg y, if_neg y]
  · rw [if_neg z]
    have e : (I.st t ≤ j ∧ j < I.st t + (a + 1)) ↔ (I.st t ≤ j ∧ j < I.st t + a) := by omega
    by_cases y : I.st t ≤ j ∧ j < I.st t + a
    · rw [if_pos (e.mpr y), if_pos y]
      exact (ite_self _).symm
    · rw [if_neg (fun q => y (e.mp q)), if_neg y]
      exact (ite_self _).symm
section
variable {P : Program} {w : World} {K : PySem.W.Frag} {mg : Str → Option Value} {base : Heap}
/-! ### relaxation -/
theorem sc_relaxation : FnScope ["costs", "instance", "size", "many", "lots", "width", "rows", "dues", "prices", "name", "row", "value", "start", "term", "lot", "place", "at", "told"] ["costs", "instance"] (defScope s_relaxation) := ⟨rfl, rfl, rfl, by decide +kernel, rfl, by decide +kernel, by decide +kernel⟩
def sp_relaxation (K : PySem.W.Frag) : Sp := fun vs H Q _ => ∃ (I : Lp.Ins) (c v : V), vs = [c, v] ∧ At K H (costsD I) c ∧ At K H (insD I) v ∧ WF2 I ∧
  ∀ H' t a du co, Same H H' → H' t = some (.tup [.ref a, .ref du, .ref co]) → RowsAt H' a I.rows → H' du = some (.lst (I.dues.map V.int)) → H' co = some (.lst (I.costs.map V.int)) → Q (.ref t) H'
theorem ok_relaxation (T : Txt K mg) : FnOk P w K mg base CX0 3 T.a_relaxation T.d_relaxation ["costs", "instance"] (sp_relaxation K) := by
  have G_all_rows : FnOk P w K mg base CX0 1 T.a_all_rows T.d_all_rows ["size", "arity"] (sp_all_rows K) := ok_all_rows T
  have G_cost_of : FnOk P w K mg base CX0 2 T.a_cost_of T.d_cost_of ["costs", "term", "row"] (sp_cost_of K) := ok_cost_of T
  refine T.F_relaxation.ok sc_relaxation (fun vs H Q E h => ?_) (fun cdv A outer s H vs Q E hr h => ?_)
  · obtain ⟨I, c, v, rfl, _⟩ := h; rfl
  · obtain ⟨I, c, v, rfl, hC, hA, w, q⟩ := h
    have wf := w.wf
    have hW := wf.W
    have hs3 := w.s3
    have hn4 := w.n
    have hq5 := w.q
    have hsp := wf.spos
    obtain ⟨ca, cs, ec, hcT, hcl, _, hci⟩ := hC.ix
    obtain ⟨c0, ec0, hc0⟩ := hci 0 _ rfl
    obtain rfl := at_i hc0
    obtain ⟨ia, is_, ei, hiT, hil, _, hii⟩ := hA.ix
    obtain ⟨i0, ei0, hi0⟩ := hii 0 _ rfl
    obtain rfl := at_i hi0
    obtain ⟨i1, ei1, hi1⟩ := hii 1 _ rfl
    obtain ⟨ta, ts, rfl, hts, htl, hta, _⟩ := hi1.ix
    rw [List.length_map] at htl
    have htq : ts.length = I.q := htl
    -- a term, by its place
    have term : ∀ {Hx : Hp}, Same H Hx → ∀ i x, ts[i]? = some x → i < I.q ∧ I.t i ∈ I.terms ∧ At K Hx (trmD (I.t i)) x := fun {Hx} sx i x hx => by
      have hi : i < I.q := by rw [← htq]; exact (List.getElem?_eq_some_iff.mp hx).1
      obtain ⟨d, hd, hA'⟩ := hta.item hx
      rw [List.getElem?_map, (w.tm hi).1] at hd
      cases hd
      exact ⟨hi, (w.tm hi).2, At.same (Same.toT sx) hA'⟩
    subst ec ei
    refine ⟨_, (pss_cons (ps_asg (pe_tup (pa_cons (pe_ix ix_tup (pv 0) pe_int (fun _ _ => rfl)) (pa_cons (pe_ix ix_tup (pv 1) pe_int (fun _ _ => rfl)) pa_nil))) (pg_tup rfl (pgs_cons (pg_name (i := 2) sc_relaxation.nd rfl (Or.inr rfl)) (pgs_cons (pg_name (i := 3) sc_relaxation.nd rfl (Or.inl rfl)) pgs_nil))))
      (pss_cons (ps_setLc (i := 4) (own := [("term", 13)]) (by rfl) sc_relaxation.nd rfl rfl (sw_true rfl rfl rfl (by decide +kernel)) (pi_tup (pe_ix ix_tup (pv 1) pe_int (fun _ _ => rfl))) (blkOk_by (own := [("term", 13)]) (N := ["costs", "instance", "size", "many", "lots", "width", "rows", "dues", "prices", "name", "row", "value", "start", "term", "lot", "place", "at", "told"]) (sc := defScope s_relaxation) (by decide +kernel)) (fun _ _ _ _ _ => (pg_name (i := 13) sc_relaxation.nd rfl (Or.inl rfl))) (fun _ _ _ _ _ => pts_nil) (fun _ _ _ _ _ => (pe_call G_all_rows (hr.mono (by decide)) (by rfl) T.g_all_rows T.F_all_rows.kp T.b_all_rows .nil pass0 (pa_cons (pv 2) (pa_cons (pe_callB (klen K rfl) (by rfl) T.z_len (by decide +kernel) (pa_cons (kix_tup K rfl (pv 13) pe_int (fun _ _ => rfl)) pa_nil)) pa_nil)))))
      (pss_cons (ps_set (i := 5) sc_relaxation.nd rfl (Or.inl rfl) (pe_op op_add (pe_op op_mulW (pv 3) (pv 2)) (pe_callB (cr_sum rfl) (by rfl) T.z_sum (by decide +kernel) (pa_cons (pe_lc (own := [("lot", 14)]) (by rfl) sc_relaxation.nd (pi_list (pv 4)) (blkOk_by (own := [("lot", 14)]) (N := ["costs", "instance", "size", "many", "lots", "width", "rows", "dues", "prices", "name", "row", "value", "start", "term", "lot", "place", "at", "told"]) (sc := defScope s_relaxation) (by decide +kernel)) (fun _ _ _ _ _ => (pg_name (i := 14) sc_relaxation.nd rfl (Or.inl rfl))) (fun _ _ _ _ _ => pts_nil) (fun _ _ _ _ _ => (pe_callB (klen K rfl) (by rfl) T.z_len (by decide +kernel) (pa_cons (pv 14) pa_nil)))) pa_nil))))
      (pss_cons (L2.ps_par3 (i := 6) (j := 7) (l := 8) (by rfl) sc_relaxation.nd rfl rfl rfl (by decide) (by decide) (by decide) rfl rfl rfl (pa_cons (pe_lst pa_nil) (pa_cons (pe_lst pa_nil) (pa_cons (pe_op op_rep (pe_lst (pa_cons pe_int pa_nil)) (pe_op op_mulW (pv 3) (pv 2))) pa_nil))) (by rfl))
      (pss_cons (ps_for PassesOwn.never rfl (pi_range1 (by rfl) T.z_range (pa_cons (pv 3) pa_nil)) (pg_name (i := 9) sc_relaxation.nd rfl (Or.inl rfl))
        (pss_cons (ps_set (i := 10) sc_relaxation.nd rfl (Or.inl rfl) (pe_op op_rep (pe_lst (pa_cons pe_int pa_nil)) (pv 5)))
          (pss_cons (ps_for PassesOwn.never rfl (pi_range1 (by rfl) T.z_range (pa_cons (pv 2) pa_nil)) (pg_name (i := 11) sc_relaxation.nd rfl (Or.inl rfl))
            (pss_one (ps_asg pe_int (pg_sub (pv 10) (pe_op op_add (pe_op op_mulW (pv 9) (pv 2)) (pv 11)) set_list))))
          (pss_cons (ps_expr (pe_bm PySem.F.plainAttrs_list PySem.F.slot_list_append PySem.F.type_list_append mt_append (pv 6) (pa_cons (pv 10) pa_nil)))
          (pss_one (ps_expr (pe_bm PySem.F.plainAttrs_list PySem.F.slot_list_append PySem.F.type_list_append mt_append (pv 7) (pa_cons pe_int pa_nil))))))))
      (pss_cons (ps_set (i := 12) sc_relaxation.nd rfl (Or.inl rfl) (pe_op op_mulW (pv 3) (pv 2)))
      (pss_cons (ps_for PassesOwn.never rfl (pi_zipTL (by rfl) T.z_zip (pa_cons (pe_ix ix_tup (pv 1) pe_int (fun _ _ => rfl)) (pa_cons (pv 4) pa_nil))) (pg_tup rfl (pgs_cons (pg_name (i := 13) sc_relaxation.nd rfl (Or.inr rfl)) (pgs_cons (pg_name (i := 14) sc_relaxation.nd rfl (Or.inl rfl)) pgs_nil)))
        (pss_cons (ps_set (i := 8) sc_relaxation.nd rfl (Or.inl rfl) (pe_op op_cat (pv 8) (pe_lc (own := [("told", 17)]) (by rfl) sc_relaxation.nd (pi_list (pv 14)) (blkOk_by (own := [("told", 17)]) (N := ["costs", "instance", "size", "many", "lots", "width", "rows", "dues", "prices", "name", "row", "value", "start", "term", "lot", "place", "at", "told"]) (sc := defScope s_relaxation) (by decide +kernel)) (fun _ _ _ _ _ => (pg_name (i := 17) sc_relaxation.nd rfl (Or.inl rfl))) (fun _ _ _ _ _ => pts_nil) (fun _ _ _ _ _ => (pe_call G_cost_of (hr.mono (by decide)) (by rfl) T.g_cost_of T.F_cost_of.kp T.b_cost_of .nil pass0 (pa_cons (pv 0) (pa_cons (pv 13) (pa_cons (pv 17) pa_nil))))))))
          (pss_cons (ps_for PassesOwn.never rfl (pi_enumT (by rfl) T.z_enumerate (pa_cons (pe_ix ix_tup (pv 13) pe_int (fun _ _ => rfl)) pa_nil)) (pg_tup rfl (pgs_cons (pg_name (i := 15) sc_relaxation.nd rfl (Or.inl rfl)) (pgs_cons (pg_name (i := 9) sc_relaxation.nd rfl (Or.inl rfl)) pgs_nil)))
            (pss_one (ps_for PassesOwn.never rfl (pi_range1 (by rfl) T.z_range (pa_cons (pv 2) pa_nil)) (pg_name (i := 11) sc_relaxation.nd rfl (Or.inl rfl))
                (pss_cons (ps_set (i := 10) sc_relaxation.nd rfl (Or.inl rfl) (pe_op op_rep (pe_lst (pa_cons pe_int pa_nil)) (pv 5)))
                  (pss_cons (ps_asg (pe_un un_neg pe_int) (pg_sub (pv 10) (pe_op op_add (pe_op op_mulW (pv 9) (pv 2)) (pv 11)) set_list))
                  (pss_cons (ps_for PassesOwn.never rfl (pi_enum (by rfl) T.z_enumerate (pa_cons (pv 14) pa_nil)) (pg_tup rfl (pgs_cons (pg_name (i := 16) sc_relaxation.nd rfl (Or.inl rfl)) (pgs_cons (pg_name (i := 17) sc_relaxation.nd rfl (Or.inl rfl)) pgs_nil)))
                    (pss_one (ps_if (pt_cmpR op_eq (pe_ix ix_tup (pv 17) (pv 15) (fun _ _ => rfl)) (pv 11) (nomark _))
                        (pss_one (ps_asg pe_int (pg_sub (pv 10) (pe_op op_add (pv 12) (pv 16)) set_list)))
                        pss_nil)))
                  (pss_cons (ps_expr (pe_bm PySem.F.plainAttrs_list PySem.F.slot_list_append PySem.F.type_list_append mt_append (pv 6) (pa_cons (pv 10) pa_nil)))
                  (pss_one (ps_expr (pe_bm PySem.F.plainAttrs_list PySem.F.slot_list_append PySem.F.type_list_append mt_append (pv 7) (pa_cons pe_int pa_nil)))))))))))
          (pss_one (ps_aug (i := 12) sc_relaxation.nd rfl (Or.inl rfl) (pe_callB call_len_seq (by rfl) T.z_len (by decide +kernel) (pa_cons (pv 14) pa_nil)) ip_add)))))
      (pss_one (ps_ret (pe_tup (pa_cons (pv 6) (pa_cons (pv 7) (pa_cons (pv 8) pa_nil))))))))))))), ?_⟩
    -- size, many
    refine ⟨_, rfl, ca, cs, 0, _, rfl, rfl, hcT, ec0, _, rfl, ia, is_, 0, _, rfl, rfl, hiT, ei0, szl' (by show 2 ≤ 1000000; decide), fun t nt => ?_⟩
    have s0 : Same H (upd H t (.tup [.int I.s, .int I.n])) := same_upd nt
    refine ⟨t, _, rfl, sqT upd_same, rfl, _, _, rfl, _, _, rfl, rfl, ?_⟩
    generalize hH0 : upd H t (.tup [.int I.s, .int I.n]) = H0 at s0 ⊢
    -- lots
    refine ⟨_, rfl, ia, is_, 1, _, rfl, rfl, (Same.toT s0).seq hiT, ei1, ta, rfl, ⟨_, (Same.toT s0).seq hts⟩, fun L hL => ?_⟩
    refine lc_it walk_tup (fun i H1 => Same H0 H1 ∧ LotsAt K H1 L I i) ⟨same_upd hL, [], upd_same, rfl, fun j x hx => by simp at hx⟩ (fun i H1 _ h => (Same.toT (s0.trans h.1)).seq hts) ?_ ?_
    · rintro i x H1 H1' hi ⟨s1, acc, eL, hacc, hlots⟩ ⟨rfl, hx⟩
      obtain ⟨hiq, htm, hAt⟩ := term (s0.trans s1) i x hx
      obtain ⟨a, us, rfl, hT, hl, _, hi'⟩ := hAt.ix
      obtain ⟨u1, e1, h1⟩ := hi' 1 _ rfl
      obtain ⟨sa, rfl, hsa⟩ := at_row h1
      refine ⟨rfl, _, rfl, _, rfl, a, us, 1, _, rfl, rfl, hT, e1, sa, _, rfl, .inr hsa, I.s, _, rfl, hs3, ?_, fun H2 la vs' s2 nla ela hla => ?_⟩
      · rw [List.length_map]
        have := wf.ar i hiq
        have : (I.t i).scope.length = 1 ∨ (I.t i).scope.length = 2 := this
        omega
      · have nLl : la ≠ L := (ne_of_none eL nla).symm
        have eL2 := s2 _ _ eL
        refine ⟨acc, eL2, szl (by rw [hacc]; omega), same_put (s1.trans s2) hL, acc ++ [.ref la], upd_same, by rw [List.length_append, hacc]; rfl, fun j y hy => ?_⟩
        have tt : SameT H2 (upd H2 L (.lst (acc ++ [.ref la]))) := SameT.upd_lst eL2
        by_cases hj : j < acc.length
        · rw [List.getElem?_append_left hj] at hy
          obtain ⟨lb, e, nb, vs, ev, hv⟩ := hlots j y hy
          exact ⟨lb, e, nb, vs, by rw [upd_ne nb]; exact s2 _ _ ev, Ats.same (SameT.trans (Same.toT s2) tt) hv⟩
        · have hj2 : j = acc.length := by
            have h5 := (List.getElem?_eq_some_iff.mp hy).1
            rw [List.length_append] at h5
            have : ([.ref la] : List L2.V).length = 1 := rfl
            omega
          subst hj2
          rw [List.getElem?_append_right (Nat.le_refl _), Nat.sub_self] at hy
          cases hy
          rw [List.length_map] at hla
          exact ⟨la, rfl, nLl, vs', by rw [upd_ne nLl]; exact ela, by rw [hacc]; exact Ats.same tt hla⟩
    · rintro H1 ⟨s1, hlots⟩
      rw [htq] at hlots
      obtain ⟨lots, eL, hll, hlot⟩ := id hlots
      have lotlen : ∀ {Hx : Hp} (j : Nat) x, lots[j]? = some x → Same H1 Hx → ∃ la vs, x = .ref la ∧ Hx la = some (.lst vs) ∧ vs.length = I.ll j ∧ Ats K Hx ((I.lot j).map rowD) vs := fun {Hx} j x hx sx => by
        obtain ⟨la, e, _, vs, ev, hv⟩ := hlot j x hx
        exact ⟨la, vs, e, sx _ _ ev, by rw [hv.length, List.length_map]; rfl, Ats.same (Same.toT sx) hv⟩
      -- width
      refine ⟨_, rfl, _, rfl, _, _, rfl, rfl, wide_mul (a := 8) (b := 8) (by rw [Int.natAbs_natCast]; omega) (by rw [Int.natAbs_natCast]; omega) (by decide) (by decide) (by decide), ?_⟩
      refine ⟨_, rfl, L, rfl, ⟨_, sqL eL⟩, fun D hD => ?_⟩
      refine lc_it walk_list (fun i H2 => Same H1 H2 ∧ H2 D = some (.lst (((List.range i).map fun i => (I.ll i : Int)).map L2.V.int))) ⟨same_upd hD, upd_same⟩ (fun i H2 _ h => Same.seq h.1 (sqL eL)) ?_ ?_
      · rintro i x H2 H2' hi ⟨s2, eD⟩ ⟨rfl, hx⟩
        obtain ⟨la, vs, rfl, ela, lla, _⟩ := lotlen i x hx s2
        refine ⟨rfl, _, rfl, la, _, rfl, .inl (sqL ela), _, eD, szl ?_, same_put s2 hD, ?_⟩
        · rw [List.length_map, List.length_map, List.length_range]; omega
        · rw [upd_same, List.range_succ, List.map_append, List.map_append, lla]; rfl
      · rintro H2 ⟨s2, eD⟩
        rw [hll] at eD
        refine ⟨D, _, rfl, sqL eD, _, _, rfl, rfl, ?_⟩
        have eW : ((I.n : Int) * (I.s : Int)) + ((List.range I.q).map fun i => (I.ll i : Int)).sum = (I.W : Int) := by
          have := sum_off I.ll (I.n * I.s) I.q
          rw [Int.natCast_mul] at this
          exact this.symm
        show tSeq _ _ _ (List.set _ 5 (some (L2.V.int (((I.n : Int) * (I.s : Int)) + ((List.range I.q).map fun i => (I.ll i : Int)).sum)))) H2
        rw [eW]
        have sH2 : Same H H2 := (s0.trans s1).trans s2
        have sH12 : Same H1 H2 := s2
        -- rows, dues, prices
        refine ⟨Nat.zero_le _, fun ra nra => Nat.zero_le _ |> fun hz => ⟨hz, fun du ndu => ?_⟩⟩
        have sa : Same H2 (upd H2 ra (.lst [])) := same_upd nra
        have sb : Same (upd H2 ra (.lst [])) (upd (upd H2 ra (.lst [])) du (.lst [])) := same_upd ndu
        have nrd : ra ≠ du := ne_of_none upd_same ndu
        generalize hH3 : upd (upd H2 ra (.lst [])) du (.lst []) = H3 at sb ⊢
        have era : H3 ra = some (.lst []) := sb _ _ upd_same
        have edu : H3 du = some (.lst []) := by rw [← hH3]; exact upd_same
        have s23 : Same H2 H3 := sa.trans sb
        refine ⟨szl' (by show 1 ≤ 1000000; decide), fun z0 nz0 => ?_⟩
        have sz : Same H3 (upd H3 z0 (.lst [.int 0])) := same_upd nz0
        generalize hH4 : upd H3 z0 (.lst [.int 0]) = H4 at sz ⊢
        have ez : H4 z0 = some (.lst [.int 0]) := by rw [← hH4]; exact upd_same
        have hns : I.n * I.s ≤ 12 := Nat.mul_le_mul hn4 hs3
        refine ⟨_, rfl, _, rfl, _, _, rfl, rfl, wide_mul (a := 8) (b := 8) (by rw [Int.natAbs_natCast]; omega) (by rw [Int.natAbs_natCast]; omega) (by decide) (by decide) (by decide), z0, _, _, rfl, rfl, ez, by rw [← Int.natCast_mul]; omega, by rw [← Int.natCast_mul]; omega, szl' (by rw [← Int.natCast_mul]; show 1 * ((I.n * I.s : Nat) : Int).toNat ≤ 1000000; omega), fun pa npa => ?_⟩
        have sp : Same H4 (upd H4 pa (.lst (List.replicate ((I.n : Int) * (I.s : Int)).toNat [L2.V.int 0]).flatten)) := same_upd npa
        generalize hH5 : upd H4 pa (.lst (List.replicate ((I.n : Int) * (I.s : Int)).toNat [L2.V.int 0]).flatten) = H5 at sp ⊢
        have epa : H5 pa = some (.lst (((List.range (I.n * I.s)).map fun _ => (0 : Int)).map L2.V.int)) := by
          rw [← hH5, upd_same, ← Int.natCast_mul, Int.toNat_natCast, rep_flat, rep_range]
        have npr : pa ≠ ra := (ne_of_none (sz _ _ era) npa).symm
        have npd : pa ≠ du := (ne_of_none (sz _ _ edu) npa).symm
        refine ⟨_, _, _, rfl, ?_⟩
        have s36 : Same H3 H5 := sz.trans sp
        have M0 : Made H2 H5 ra du pa [] [] ((List.range (I.n * I.s)).map fun _ => (0 : Int)) := ⟨s23.trans s36, ⟨[], s36 _ _ era, rfl, fun k a ha => by simp at ha⟩, s36 _ _ edu, epa, nra, sa.free ndu, nrd, npr, npd⟩
        -- a bound for each variable
        refine ⟨_, rfl, _, rfl, by omega, by omega, ?_⟩
        refine for_it (walk_rg (n := I.n)) (fun i σ Hi => (∃ v9 v10 v11 : Option L2.V, σ = [some (.ref ca), some (.ref ia), some (.int I.s), some (.int I.n), some (.ref L), some (.int I.W), some (.ref ra), some (.ref du), some (.ref pa), v9, v10, v11, none, none, none, none, none, none]) ∧ Made H2 Hi ra du pa ((List.range i).map fun nm => (List.range I.W).map (I.bndE nm)) ((List.range i).map fun _ => (1 : Int)) ((List.range (I.n * I.s)).map fun _ => (0 : Int)))
          ⟨⟨none, none, none, rfl⟩, M0⟩ (fun _ _ _ _ _ => trivial) ?_ ?_
        · rintro i x σ Hi Hi' hi ⟨⟨v9, v10, v11, rfl⟩, M⟩ ⟨rfl, rfl⟩
          refine ⟨szl' (by show 1 ≤ 1000000; decide), fun z1 nz1 => ?_⟩
          have se : Same Hi' (upd Hi' z1 (.lst [.int 0])) := same_upd nz1
          generalize hE : upd Hi' z1 (.lst [.int 0]) = HE at se ⊢
          have ez1 : HE z1 = some (.lst [.int 0]) := by rw [← hE]; exact upd_same
          refine ⟨_, rfl, z1, _, _, rfl, rfl, ez1, by omega, by omega, szl' (by show 1 * ((I.W : Int)).toNat ≤ 1000000; omega), fun rw_ nrw => ?_⟩
          have sf : Same HE (upd HE rw_ (.lst (List.replicate ((I.W : Int)).toNat [L2.V.int 0]).flatten)) := same_upd nrw
          generalize hF : upd HE rw_ (.lst (List.replicate ((I.W : Int)).toNat [L2.V.int 0]).flatten) = HF at sf ⊢
          have erw : HF rw_ = some (.lst (((List.range I.W).map fun j => if i * I.s ≤ j ∧ j < i * I.s + 0 then (1 : Int) else 0).map L2.V.int)) := by
            rw [← hF, upd_same, Int.toNat_natCast, rep_flat, rep_range]
            congr 3
            apply List.map_congr_left
            intro j _
            rw [if_neg (by omega)]
          have ME := M.same se
          obtain ⟨vra, evra, lvra⟩ := ME.vs
          have nrr : rw_ ≠ ra := (ne_of_none evra nrw).symm
          have nrdu : rw_ ≠ du := (ne_of_none ME.dues nrw).symm
          have nEw : HE rw_ = none := nrw
          refine ⟨_, rfl, _, rfl, by omega, by omega, ?_⟩
          refine for_it (walk_rg (n := I.s)) (fun v σ Hv => (∃ v11 : Option L2.V, σ = [some (.ref ca), some (.ref ia), some (.int I.s), some (.int I.n), some (.ref L), some (.int I.W), some (.ref ra), some (.ref du), some (.ref pa), some (.int (i : Int)), some (.ref rw_), v11, none, none, none, none, none, none]) ∧ Same HE Hv ∧ Hv rw_ = some (.lst (((List.range I.W).map fun j => if i * I.s ≤ j ∧ j < i * I.s + v then (1 : Int) else 0).map L2.V.int)))
            ⟨⟨v11, rfl⟩, sf, erw⟩ (fun _ _ _ _ _ => trivial) ?_ ?_
          · rintro v x σ Hv Hv' hv ⟨⟨v11, rfl⟩, sv, ev⟩ ⟨rfl, rfl⟩
            have hlt := Lp.blk_lt (p := i) (a := I.n) (s := I.s) (v := v) hi hv
            have hst := Lp.st_ge I I.q
            have hWW : I.st I.q = I.W := rfl
            refine ⟨_, rfl, _, rfl, _, rfl, _, _, rfl, rfl, wide_mul (a := 8) (b := 8) (by rw [Int.natAbs_natCast]; omega) (by rw [Int.natAbs_natCast]; omega) (by decide) (by decide) (by decide), _, rfl, _, _, rfl, rfl, rw_, _, _, i * I.s + v, rfl, rfl, ev, ?_, ?_⟩
            · rw [List.length_map, List.length_map, List.length_range, show ((i : Int) * (I.s : Int) + (v : Int)) = ((i * I.s + v : Nat) : Int) by rw [Int.natCast_add, Int.natCast_mul]]
              exact ixn (by omega)
            · refine ⟨⟨_, rfl⟩, same_put sv nEw, ?_⟩
              rw [upd_same, set_range]
              congr 3
              apply List.map_congr_left
              intro j _
              by_cases z : j = i * I.s + v
              · rw [if_pos z, if_pos (by omega)]
              · rw [if_neg z]
                by_cases z2 : i * I.s ≤ j ∧ j < i * I.s + v
                · rw [if_pos z2, if_pos (by omega)]
                · rw [if_neg z2, if_neg (by omega)]
          · rintro σ Hv ⟨⟨v11', rfl⟩, sv, ev⟩
            have Mv := ME.same sv
            obtain ⟨vra2, evra2, lvra2⟩ := Mv.vs
            have hMp := Mv.push (d := 1) evra2 (r := (List.range I.W).map (I.bndE i)) ev nrr nrdu
            have lr : ((List.range i).map fun nm => (List.range I.W).map (I.bndE nm)).length = i := by rw [List.length_map, List.length_range]
            rw [lr] at lvra2
            refine ⟨_, rfl, .inl ⟨rfl, _, sqL evra2⟩, _, rfl, ra, _, _, rfl, rfl, evra2, szl (by omega), ?_⟩
            have edv : (upd Hv ra (.lst (vra2 ++ [.ref rw_]))) du = some (.lst (((List.range i).map fun _ => (1 : Int)).map L2.V.int)) := by rw [upd_ne nrd.symm]; exact Mv.dues
            refine ⟨_, rfl, .inl ⟨rfl, _, sqL edv⟩, du, _, _, rfl, rfl, edv, szl (by rw [List.length_map, List.length_map, List.length_range]; omega), ?_⟩
            refine ⟨⟨_, _, _, rfl⟩, ?_⟩
            rw [List.range_succ, List.map_append, List.map_append]
            exact hMp
        · rintro σ H7 ⟨⟨v9, v10, v11, rfl⟩, M7⟩
          -- start
          refine ⟨_, rfl, _, rfl, _, _, rfl, rfl, wide_mul (a := 8) (b := 8) (by rw [Int.natAbs_natCast]; omega) (by rw [Int.natAbs_natCast]; omega) (by decide) (by decide) (by decide), ?_⟩
          have s7 : Same H H7 := sH2.trans M7.sm
          refine ⟨_, rfl, ia, is_, 1, _, rfl, rfl, (Same.toT s7).seq hiT, ei1, _, rfl, ta, L, ts, lots, rfl, (Same.toT s7).seq hts, sqL (M7.sm _ _ (s2 _ _ eL)), ?_⟩
          refine for_it (walk_zt (xs := ts) (ys := lots) (by rw [hll, htq])) (fun i σ Hi => ∃ (pa : Addr) (v9 v10 v11 v13 v14 v15 v16 v17 : Option L2.V), σ = [some (.ref ca), some (.ref ia), some (.int I.s), some (.int I.n), some (.ref L), some (.int I.W), some (.ref ra), some (.ref du), some (.ref pa), v9, v10, v11, some (.int (I.st i : Nat)), v13, v14, v15, v16, v17] ∧
              Made H2 Hi ra du pa (((List.range I.n).map fun nm => (List.range I.W).map (I.bndE nm)) ++ (List.range i).flatMap fun t => (List.range (I.ar t)).flatMap fun p => (List.range I.s).map fun v => (List.range I.W).map (I.lnkE t p v))
                (((List.range I.n).map fun _ => (1 : Int)) ++ (List.range i).flatMap fun t => (List.range (I.ar t)).flatMap fun _ => (List.range I.s).map fun _ => (0 : Int))
                (((List.range (I.n * I.s)).map fun _ => (0 : Int)) ++ (List.range i).flatMap fun t => (List.range (I.ll t)).map (I.c t)))
            ⟨pa, v9, v10, v11, none, none, none, none, none, ?_, ?_⟩ (fun i σ Hi _ h => ?_) ?_ ?_
          · show [_, _, _, _, _, _, _, _, _, _, _, _, some (L2.V.int ((I.n : Int) * (I.s : Int))), _, _, _, _, _] = _
            rw [← Int.natCast_mul]; rfl
          · simpa using M7
          · obtain ⟨_, _, _, _, _, _, _, _, _, _, M⟩ := h
            exact ⟨(Same.toT (sH2.trans M.sm)).seq hts, sqL (M.sm _ _ (s2 _ _ eL))⟩
          · rintro i x σ Hi Hi' hi ⟨pa, v9, v10, v11, v13, v14, v15, v16, v17, rfl, M⟩ ⟨tt, x1, x2, rfl, ntt, rfl, f1, f2⟩
            obtain ⟨hiq, htm, hAt⟩ := term sH2 i x1 f1
            obtain ⟨la, lvs, rfl, ela, lla, hla⟩ := lotlen i x2 f2 sH12
            obtain ⟨a, us, rfl, hT, hl, _, hi'⟩ := hAt.ix
            obtain ⟨u1, e1, h1⟩ := hi' 1 _ rfl
            obtain ⟨sa, rfl, hsa⟩ := at_row h1
            have har : I.ar i = 1 ∨ I.ar i = 2 := wf.ar i hiq
            obtain ⟨rf1, rf2, rf3, _, rf5⟩ := Lp.rowsN_facts I.s wf.s (I.ar i) har
            have hll9 : I.ll i ≤ 9 := by
              rw [wf.ll hiq]
              rcases har with e | e <;> rcases wf.s with z | z <;> rw [e, z] <;> decide
            have hllW := Lp.st_le I hiq
            -- the rows of the lot
            have lrow : ∀ (j : Nat) x, lvs[j]? = some x → ∀ {Hx : Hp}, Same H2 Hx → j < I.ll i ∧ At K Hx (rowD ((I.lot i).getD j [])) x ∧ ((I.lot i).getD j []).length = I.ar i ∧ (∀ y, y ∈ (I.lot i).getD j [] → y < I.s) ∧ placeN I.s ((I.lot i).getD j []) = j := fun j x hx {Hx} sx => by
              have hj : j < I.ll i := by rw [← lla]; exact (List.getElem?_eq_some_iff.mp hx).1
              have hj2 : j < I.s ^ I.ar i := by rw [← wf.ll hiq]; exact hj
              obtain ⟨d, hd, hA'⟩ := hla.item hx
              rw [List.getElem?_map, List.getElem?_eq_getElem (show j < (I.lot i).length from hj)] at hd
              cases hd
              have eg : (I.lot i).getD j [] = (I.lot i)[j] := Lp.getD_lt [] (show j < (I.lot i).length from hj)
              refine ⟨hj, by rw [eg]; exact At.same (Same.toT sx) hA', rf2 j hj2, fun y hy => ?_, rf5 j hj2⟩
              obtain ⟨p, hp, rfl⟩ := List.getElem_of_mem hy
              have hlen : ((I.lot i).getD j []).length = I.ar i := rf2 j hj2
              have := rf3 j hj2 p (by rw [← hlen]; exact hp)
              have e2 : ((Lp.rowsN I.s (I.ar i)).getD j []).getD p 0 = ((I.lot i).getD j [])[p] := Lp.getD_lt 0 hp
              rw [e2] at this
              exact this
            have sT : Same Hi (upd Hi tt (.tup [.ref a, .ref la])) := same_upd ntt
            refine ⟨tt, _, rfl, sqT upd_same, rfl, _, _, rfl, _, _, rfl, rfl, ?_⟩
            generalize hHT : upd Hi tt (.tup [.ref a, .ref la]) = HT at sT ⊢
            have MT := M.same sT
            have s2T : Same H2 HT := M.sm.trans sT
            -- prices = prices + [cost_of(costs, term, told) for told in lot]
            refine ⟨_, rfl, _, rfl, la, rfl, ⟨_, sqL (s2T _ _ ela)⟩, fun D hD => ?_⟩
            refine lc_it walk_list (fun j Hj => Same HT Hj ∧ Hj D = some (.lst (((List.range j).map (I.c i)).map L2.V.int))) ⟨same_upd hD, upd_same⟩ (fun j Hj _ h => sqL (h.1 _ _ (s2T _ _ ela))) ?_ ?_
            · rintro j x Hj Hj' hj ⟨sj, eD⟩ ⟨rfl, hx⟩
              obtain ⟨hjl, hrow, hrl, hrs, hpl⟩ := lrow j x hx (s2T.trans sj)
              have sHj : Same H Hj' := (sH2.trans s2T).trans sj
              have ht2 := (w.t _ htm)
              have hf2 := (w.f _ (w.fn ht2.1).2).2.1
              refine ⟨rfl, _, rfl, _, rfl, _, rfl, I, I.t i, (I.lot i).getD j [], _, _, _, rfl, At.same (Same.toT sHj) hC, At.same (Same.toT (s2T.trans sj)) hAt, hrow, w, htm, by rw [hrl]; omega, fun y hy => Nat.lt_of_lt_of_le (hrs y hy) hs3, ?_, _, eD, szl ?_, same_put sj hD, ?_⟩
              · rw [hpl, hf2, ← ht2.2.1]
                have := wf.ll hiq
                rw [this] at hjl
                exact hjl
              · rw [List.length_map, List.length_map, List.length_range]; omega
              · rw [upd_same, List.range_succ, List.map_append, List.map_append, hpl]; rfl
            · rintro HC ⟨sC, eD⟩
              rw [lla] at eD
              have MC := MT.same sC
              have lpr : (((List.range (I.n * I.s)).map fun _ => (0 : Int)) ++ (List.range i).flatMap fun t => (List.range (I.ll t)).map (I.c t)).length = I.st i := by
                rw [List.length_append, List.length_map, List.length_range, Lp.flat_len (f := I.ll) (fun t _ => by rw [List.length_map, List.length_range])]
                exact (Lp.offN_add _ _ _).symm
              refine ⟨pa, D, _, _, rfl, rfl, MC.prices, eD, szl' (by rw [List.length_map, lpr, List.length_map, List.length_map, List.length_range]; omega), fun p2 np2 => ?_⟩
              have sP : Same HC (upd HC p2 (.lst ((((List.range (I.n * I.s)).map fun _ => (0 : Int)) ++ (List.range i).flatMap fun t => (List.range (I.ll t)).map (I.c t)).map L2.V.int ++ ((List.range (I.ll i)).map (I.c i)).map L2.V.int))) := same_upd np2
              generalize hHP : upd HC p2 (.lst ((((List.range (I.n * I.s)).map fun _ => (0 : Int)) ++ (List.range i).flatMap fun t => (List.range (I.ll t)).map (I.c t)).map L2.V.int ++ ((List.range (I.ll i)).map (I.c i)).map L2.V.int)) = HP at sP ⊢
              have eP : HP p2 = some (.lst ((((List.range (I.n * I.s)).map fun _ => (0 : Int)) ++ (List.range (i + 1)).flatMap fun t => (List.range (I.ll t)).map (I.c t)).map L2.V.int)) := by
                rw [← hHP, upd_same, List.range_succ, List.flatMap_append, List.flatMap_singleton, ← List.append_assoc]
                conv => rhs; rw [List.map_append]
              have MP0 := MC.same sP
              obtain ⟨vr0, evr0, _⟩ := MC.vs
              have MP : Made H2 HP ra du p2 (((List.range I.n).map fun nm => (List.range I.W).map (I.bndE nm)) ++ (List.range i).flatMap fun t => (List.range (I.ar t)).flatMap fun p => (List.range I.s).map fun v => (List.range I.W).map (I.lnkE t p v))
                (((List.range I.n).map fun _ => (1 : Int)) ++ (List.range i).flatMap fun t => (List.range (I.ar t)).flatMap fun _ => (List.range I.s).map fun _ => (0 : Int))
                (((List.range (I.n * I.s)).map fun _ => (0 : Int)) ++ (List.range (i + 1)).flatMap fun t => (List.range (I.ll t)).map (I.c t)) :=
                ⟨MP0.sm, MP0.rows, MP0.dues, eP, MP0.nr, MP0.nd, MP0.rd, (ne_of_none evr0 np2).symm, (ne_of_none MC.dues np2).symm⟩
              have sTP : Same HT HP := sC.trans sP
              have siP : Same H2 HP := s2T.trans sTP
              -- for place, name in enumerate(term[1])
              refine ⟨_, rfl, a, us, 1, _, rfl, rfl, (Same.toT siP).seq hT, e1, sa, _, rfl, (Same.toT siP).seq hsa, ?_⟩
              have hscl : ((I.t i).scope.map fun x : Nat => L2.V.int (x : Int)).length = I.ar i := by rw [List.length_map]; rfl
              have siq : I.of i + I.ar i * I.s ≤ I.M := Lp.of_le I hiq
              have hM := wf.M
              refine for_it (walk_et (xs := (I.t i).scope.map fun x : Nat => L2.V.int (x : Int))) (fun p σ Hp_ => (∃ v9 v10 v11 v15 v16 v17 : Option L2.V, σ = [some (.ref ca), some (.ref ia), some (.int I.s), some (.int I.n), some (.ref L), some (.int I.W), some (.ref ra), some (.ref du), some (.ref p2), v9, v10, v11, some (.int (I.st i : Nat)), some (.ref a), some (.ref la), v15, v16, v17]) ∧
                  Made H2 Hp_ ra du p2 (rT I i ++ rP I i p) (dT I i ++ dP I p) (pT I (i + 1)))
                ⟨⟨_, _, _, _, _, _, rfl⟩, ?_⟩ (fun p σ Hp_ _ h => (Same.toT h.2.sm).seq hsa) ?_ ?_
              · show Made _ _ _ _ _ (rT I i ++ []) (dT I i ++ []) _
                rw [List.append_nil, List.append_nil]; exact MP
              · rintro p x σ Hp_ Hp' hp ⟨⟨v9, v10, v11, v15, v16, v17, rfl⟩, Mp⟩ ⟨t2, y1, y2, rfl, nt2, rfl, g1, g2⟩
                cases g1
                rw [hscl] at hp
                have hp' : p < (I.t i).scope.length := hp
                have ey : y2 = .int ((I.sc i p : Nat) : Int) := by
                  have this : ((I.t i).scope.map fun x : Nat => L2.V.int (x : Int))[p]? = some y2 := g2
                  rw [List.getElem?_map, List.getElem?_eq_getElem hp'] at this
                  have h2 := Option.some.inj this
                  show y2 = L2.V.int (((I.t i).scope.getD p 0 : Nat) : Int)
                  rw [Lp.getD_lt 0 hp']; exact h2.symm
                subst ey
                have hscn := wf.sc i p hiq hp
                have hstg := Lp.st_ge I i
                have stp : Same Hp_ (upd Hp_ t2 (.tup [.int (p : Nat), .int ((I.sc i p : Nat) : Int)])) := same_upd nt2
                refine ⟨t2, _, rfl, sqT upd_same, rfl, _, _, rfl, _, _, rfl, rfl, ?_⟩
                generalize hHV : upd Hp_ t2 (.tup [.int (p : Nat), .int ((I.sc i p : Nat) : Int)]) = HV at stp ⊢
                refine ⟨_, rfl, (I.s : Int), rfl, by omega, by omega, ?_⟩
                refine for_it (walk_rg (n := I.s)) (fun v σ Hv => (∃ v10 v11 v16 v17 : Option L2.V, σ = [some (.ref ca), some (.ref ia), some (.int I.s), some (.int I.n), some (.ref L), some (.int I.W), some (.ref ra), some (.ref du), some (.ref p2), some (.int ((I.sc i p : Nat) : Int)), v10, v11, some (.int (I.st i : Nat)), some (.ref a), some (.ref la), some (.int (p : Int)), v16, v17]) ∧
                    Made H2 Hv ra du p2 ((rT I i ++ rP I i p) ++ (List.range v).map fun v => (List.range I.W).map (I.lnkE i p v)) ((dT I i ++ dP I p) ++ (List.range v).map fun _ => (0 : Int)) (pT I (i + 1)))
                  ⟨⟨_, _, _, _, rfl⟩, ?_⟩ (fun _ _ _ _ _ => trivial) ?_ ?_
                · show Made _ _ _ _ _ ((rT I i ++ rP I i p) ++ []) ((dT I i ++ dP I p) ++ []) _
                  rw [List.append_nil, List.append_nil]; exact Mp.same stp
                · rintro v x σ Hv Hv' hv ⟨⟨v10, v11, v16, v17, rfl⟩, Mv⟩ ⟨rfl, rfl⟩
                  have hnv := Lp.blk_lt (p := I.sc i p) (a := I.n) (s := I.s) (v := v) hscn hv
                  -- row = [0] * width
                  refine ⟨szl' (by show 1 ≤ 1000000; decide), fun z1 nz1 => ?_⟩
                  have se : Same Hv' (upd Hv' z1 (.lst [.int 0])) := same_upd nz1
                  generalize hE : upd Hv' z1 (.lst [.int 0]) = HE at se ⊢
                  have ez1 : HE z1 = some (.lst [.int 0]) := by rw [← hE]; exact upd_same
                  refine ⟨_, rfl, z1, _, _, rfl, rfl, ez1, by omega, by omega, szl' (by show 1 * ((I.W : Int)).toNat ≤ 1000000; omega), fun rw_ nrw => ?_⟩
                  have sf : Same HE (upd HE rw_ (.lst (List.replicate ((I.W : Int)).toNat [L2.V.int 0]).flatten)) := same_upd nrw
                  generalize hF : upd HE rw_ (.lst (List.replicate ((I.W : Int)).toNat [L2.V.int 0]).flatten) = HF at sf ⊢
                  have erw : HF rw_ = some (.lst (((List.range I.W).map fun _ => (0 : Int)).map L2.V.int)) := by
                    rw [← hF, upd_same, Int.toNat_natCast, rep_flat, rep_range]
                  have ME := Mv.same se
                  obtain ⟨vra, evra, lvra⟩ := ME.vs
                  have nrr : rw_ ≠ ra := (ne_of_none evra nrw).symm
                  have nrdu : rw_ ≠ du := (ne_of_none ME.dues nrw).symm
                  -- row[name * size + value] = -1
                  refine ⟨_, rfl, _, rfl, _, rfl, _, rfl, _, _, rfl, rfl, wide_mul (a := 8) (b := 8) (by rw [Int.natAbs_natCast]; omega) (by rw [Int.natAbs_natCast]; omega) (by decide) (by decide) (by decide), _, rfl, _, _, rfl, rfl, rw_, _, _, I.sc i p * I.s + v, rfl, rfl, erw, ?_, ?_⟩
                  · rw [List.length_map, List.length_map, List.length_range, show (((I.sc i p : Nat) : Int) * (I.s : Int) + (v : Int)) = ((I.sc i p * I.s + v : Nat) : Int) by rw [Int.natCast_add, Int.natCast_mul]]
                    exact ixn (by omega)
                  have eg0 : ((((List.range I.W).map fun _ => (0 : Int)).map L2.V.int).set (I.sc i p * I.s + v) (L2.V.int (-1))) = ((List.range I.W).map (lnkU I i p v 0)).map L2.V.int := by
                    rw [set_range]
                    congr 1
                    apply List.map_congr_left
                    intro j _
                    unfold lnkU
                    rw [if_neg (show ¬ (I.st i ≤ j ∧ j < I.st i + 0) by omega), Int.add_zero]
                  have sg : Same HE (upd HF rw_ (.lst ((((List.range I.W).map fun _ => (0 : Int)).map L2.V.int).set (I.sc i p * I.s + v) (L2.V.int (-1))))) := same_put sf nrw
                  show tSeq _ _ _ _ (upd HF rw_ (.lst ((((List.range I.W).map fun _ => (0 : Int)).map L2.V.int).set (I.sc i p * I.s + v) (L2.V.int (-1)))))
                  rw [eg0] at sg ⊢
                  have siE : Same H2 HE := Mv.sm.trans se
                  refine ⟨_, rfl, la, _, rfl, sqL (sg _ _ (siE _ _ ela)), ?_⟩
                  refine for_it (walk_enum (xs := lvs)) (fun j σ Hj => (∃ v16 v17 : Option L2.V, σ = [some (.ref ca), some (.ref ia), some (.int I.s), some (.int I.n), some (.ref L), some (.int I.W), some (.ref ra), some (.ref du), some (.ref p2), some (.int ((I.sc i p : Nat) : Int)), some (.ref rw_), some (.int (v : Int)), some (.int (I.st i : Nat)), some (.ref a), some (.ref la), some (.int (p : Int)), v16, v17]) ∧ Same HE Hj ∧ Hj rw_ = some (.lst (((List.range I.W).map (lnkU I i p v j)).map L2.V.int)))
                    ⟨⟨_, _, rfl⟩, sg, upd_same⟩ (fun j σ Hj _ h => sqL (h.2.1 _ _ (siE _ _ ela))) ?_ ?_
                  · rintro j x σ Hj Hj' hj ⟨⟨v16, v17, rfl⟩, sj, ej⟩ ⟨t5, w1, w2, rfl, nt5, rfl, k1, k2⟩
                    cases k1
                    have st5 : Same Hj (upd Hj t5 (.tup [.int (j : Nat), w2])) := same_upd nt5
                    obtain ⟨hjl, hrow, hrl, hrs, _⟩ := lrow j w2 k2 ((siE.trans sj).trans st5)
                    obtain ⟨rr, rfl, hrr⟩ := at_row hrow
                    refine ⟨t5, _, rfl, sqT upd_same, rfl, _, _, rfl, _, _, rfl, rfl, ?_⟩
                    have hpr : p < ((I.lot i).getD j []).length := by rw [hrl]; exact hp
                    have elv : atI (((I.lot i).getD j []).map fun x : Nat => L2.V.int (x : Int)) (p : Int) = some (.int ((I.lv i j p : Nat) : Int)) := atI_nat (by
                      rw [List.getElem?_map, List.getElem?_eq_getElem hpr]
                      show some (L2.V.int ((((I.lot i).getD j [])[p] : Nat) : Int)) = some (L2.V.int ((((I.lot i).getD j []).getD p 0 : Nat) : Int))
                      rw [Lp.getD_lt 0 hpr])
                    refine ⟨_, rfl, _, rfl, rr, _, _, _, rfl, rfl, hrr, elv, _, rfl, rfl, _, rfl, ?_⟩
                    have ej5 := st5 _ _ ej
                    refine ite2 (fun e => ?_) (fun e => ?_)
                    · have elq : I.lv i j p = v := by have := L2.V.int.inj (of_decide_eq_true e); omega
                      refine ⟨_, rfl, _, rfl, _, rfl, _, _, rfl, rfl, rw_, _, _, I.st i + j, rfl, rfl, ej5, ?_, ?_⟩
                      · rw [List.length_map, List.length_map, List.length_range, show (((I.st i : Nat) : Int) + (j : Int)) = ((I.st i + j : Nat) : Int) by rw [Int.natCast_add]]
                        exact ixn (by omega)
                      · refine ⟨⟨_, _, rfl⟩, same_put (sj.trans st5) nrw, ?_⟩
                        rw [upd_same, set_range]
                        congr 3
                        apply List.map_congr_left
                        intro k _
                        rw [lnkU_step (by omega), if_pos elq]
                    · have elq : ¬ I.lv i j p = v := fun z => e (decide_eq_true (by rw [z]))
                      refine ⟨⟨_, _, rfl⟩, sj.trans st5, ?_⟩
                      rw [ej5]
                      congr 3
                      apply List.map_congr_left
                      intro k _
                      rw [lnkU_step (by omega), if_neg elq]
                  · rintro σ Hj ⟨⟨v16, v17, rfl⟩, sj, ej⟩
                    rw [lla] at ej
                    have Mj := ME.same sj
                    obtain ⟨vra2, evra2, lvra2⟩ := Mj.vs
                    have hMp := Mj.push (d := 0) evra2 (r := (List.range I.W).map (I.lnkE i p v)) ej nrr nrdu
                    have lall : ((rT I i ++ rP I i p) ++ (List.range v).map fun v => (List.range I.W).map (I.lnkE i p v)).length ≤ 1000 := by
                      have := blk2 hp hv
                      rw [List.length_append, List.length_append, List.length_map, List.length_range, rT_len, rP_len]
                      omega
                    have lall2 : ((dT I i ++ dP I p) ++ (List.range v).map fun _ => (0 : Int)).length ≤ 1000 := by
                      have := blk2 hp hv
                      rw [List.length_append, List.length_append, List.length_map, List.length_range, dT_len, rT_len, dP_len]
                      omega
                    refine ⟨_, rfl, .inl ⟨rfl, _, sqL evra2⟩, _, rfl, ra, _, _, rfl, rfl, evra2, szl (by omega), ?_⟩
                    have edv : (upd Hj ra (.lst (vra2 ++ [.ref rw_]))) du = some (.lst (((dT I i ++ dP I p) ++ (List.range v).map fun _ => (0 : Int)).map L2.V.int)) := by rw [upd_ne nrd.symm]; exact Mj.dues
                    refine ⟨_, rfl, .inl ⟨rfl, _, sqL edv⟩, du, _, _, rfl, rfl, edv, szl (by rw [List.length_map]; omega), ?_⟩
                    refine ⟨⟨_, _, _, _, rfl⟩, ?_⟩
                    have e1 : ((rT I i ++ rP I i p) ++ (List.range (v + 1)).map fun v => (List.range I.W).map (I.lnkE i p v)) = ((rT I i ++ rP I i p) ++ (List.range v).map fun v => (List.range I.W).map (I.lnkE i p v)) ++ [(List.range I.W).map (I.lnkE i p v)] := by
                      rw [List.range_succ, List.map_append]; exact (List.append_assoc _ _ _).symm
                    have e2 : ((dT I i ++ dP I p) ++ (List.range (v + 1)).map fun _ => (0 : Int)) = ((dT I i ++ dP I p) ++ (List.range v).map fun _ => (0 : Int)) ++ [0] := by
                      rw [List.range_succ, List.map_append]; exact (List.append_assoc _ _ _).symm
                    rw [e1, e2]
                    exact hMp
                · rintro σ Hw ⟨⟨v10, v11, v16, v17, rfl⟩, Mw⟩
                  refine ⟨⟨_, _, _, _, _, _, rfl⟩, ?_⟩
                  rw [List.append_assoc, rP_next, List.append_assoc, dP_next] at Mw
                  exact Mw
              · rintro σ HQ ⟨⟨v9, v10, v11, v15, v16, v17, rfl⟩, MQ⟩
                rw [hscl, rT_next, dT_next] at MQ
                have siQ : Same H2 HQ := MQ.sm
                refine ⟨_, rfl, _, rfl, la, _, rfl, .inl (sqL (siQ _ _ ela)), _, _, rfl, rfl, ?_⟩
                refine ⟨p2, v9, v10, v11, some (.ref a), some (.ref la), v15, v16, v17, ?_, MQ⟩
                rw [lla]
                rfl
          · rintro σ H8 ⟨pa, v9, v10, v11, v13, v14, v15, v16, v17, rfl, M⟩
            rw [htq] at M
            refine ⟨_, rfl, _, rfl, _, rfl, szl' (by show 3 ≤ 1000000; decide), fun t9 n9 => ?_⟩
            have s9 : Same H8 (upd H8 t9 (.tup [.ref ra, .ref du, .ref pa])) := same_upd n9
            exact q _ t9 ra du pa ((sH2.trans M.sm).trans s9) upd_same (M.rows.at_.same s9) (s9 _ _ M.dues) (s9 _ _ M.prices)
end
end KV
namespace KV
open PySem PySem.Spec PyProof.Rows L2
/-! ### the answer as data -/
def ratD (p : Int × Int) : Dat := .t [.i p.1, .i p.2]
def shD (I : Lp.Ins) (X : Lp.Tab) (nm : Nat) : Dat := .t ((List.range I.s).map fun v => ratD (Lp.ratio (Lp.shO I X nm v) X.scale))
def prD (I : Lp.Ins) (X : Lp.Tab) (t p : Nat) : Dat := .t ((List.range I.s).map fun v => ratD (Lp.ratio (Lp.prO I X t p v) X.scale))
def prT (I : Lp.Ins) (X : Lp.Tab) (t : Nat) : Dat := .t ((List.range (I.ar t)).map (prD I X t))
def totO (I : Lp.Ins) (X : Lp.Tab) : Int := Lp.sumN I.n (Lp.topO I X)
def tpD (I : Lp.Ins) (X : Lp.Tab) (nm : Nat) : Dat := ratD (Lp.ratio (Lp.topO I X nm) X.scale)
def resD (I : Lp.Ins) (X : Lp.Tab) : Dat := .t [ratD (Lp.ratio (totO I X) X.scale), .t ((List.range I.n).map (shD I X)), .t ((List.range I.n).map (tpD I X)), .t ((List.range I.q).map (prT I X))]
theorem sum_range (f : Nat → Int) : ∀ n, ((List.range n).map f).sum = Lp.sumN n f
  | 0 => rfl
  | n + 1 => by
    rw [List.range_succ, List.map_append, List.sum_append, sum_range f n]
    show _ + ([f n] : List Int).sum = Lp.sumN n f + f n
    simp
section
variable {K : PySem.W.Frag} {H : Hp}
theorem at_rat {t : Addr} {p : Int × Int} (h : SqT K H t (ratV p)) : At K H (ratD p) (.ref t) := ⟨t, _, rfl, h, _, _, rfl, rfl, _, _, rfl, rfl, rfl⟩
theorem at_mk {t : Addr} {ds : List Dat} {vs : List V} (h : SqT K H t vs) (a : Ats K H ds vs) : At K H (.t ds) (.ref t) := ⟨t, vs, rfl, h, a⟩
/-- a list of data that grows -/
def DL (K : PySem.W.Frag) (H : Hp) (D : Addr) (ds : List Dat) : Prop := ∃ vs, H D = some (.lst vs) ∧ Ats K H ds vs
theorem DL.same {H' : Hp} {D : Addr} {ds : List Dat} (s : Same H H') (h : DL K H D ds) : DL K H' D ds := let ⟨vs, e, a⟩ := h; ⟨vs, s _ _ e, Ats.same (Same.toT s) a⟩
theorem DL.len {D : Addr} {ds : List Dat} {vs : List V} (h : DL K H D ds) (e : H D = some (.lst vs)) : vs.length = ds.length := by
  obtain ⟨vs', e', a⟩ := h
  rw [e] at e'
  have : vs = vs' := by injection (Option.some.inj e')
  rw [this]; exact a.length
theorem DL.push {D : Addr} {ds : List Dat} {vs : List V} {d : Dat} {v : V} (h : DL K H D ds) (e : H D = some (.lst vs)) (hA : At K H d v) : DL K (upd H D (.lst (vs ++ [v]))) D (ds ++ [d]) := by
  obtain ⟨vs', e', a⟩ := h
  rw [e] at e'
  have : vs = vs' := by injection (Option.some.inj e')
  subst this
  have t : SameT H (upd H D (.lst (vs ++ [v]))) := SameT.upd_lst e
  exact ⟨_, upd_same, Ats.append (Ats.same t a) (Ats.one (At.same t hA))⟩
theorem DL.off {D D' : Addr} {ds : List Dat} {vs ws : List V} (h : DL K H D ds) (n : D ≠ D') (e : H D' = some (.lst ws)) : DL K (upd H D' (.lst vs)) D ds := let ⟨us, e', a⟩ := h; ⟨us, by rw [upd_ne n]; exact e', Ats.same (SameT.upd_lst e) a⟩
end
theorem cut_at {L : List Int} {a k : Nat} (h : a + k ≤ L.length) : cutV (L.map V.int) (some (a : Int)) (some ((a : Int) + (k : Int))) = ((List.range k).map fun i => L.getD (a + i) 0).map V.int := by
  unfold cutV
  rw [show ((a : Int) + (k : Int)) = ((a + k : Nat) : Int) by omega, HT.sIx_nat, HT.sIx_nat, List.length_map, Nat.min_eq_left (by omega), Nat.min_eq_left (by omega)]
  apply List.ext_getElem
  · simp; omega
  · intro i h1 h2
    simp only [List.getElem_take, List.getElem_drop, List.getElem_map, List.getElem_range]
    have : i < k := by simpa using h2
    rw [Lp.getD_lt 0 (by omega)]
theorem cut_0 {L : List Int} {k : Nat} (h : k ≤ L.length) : cutV (L.map V.int) none (some (k : Int)) = ((List.range k).map fun i => L.getD i 0).map V.int := by
  unfold cutV
  rw [HT.sIx_nat, HT.sIx_none, List.length_map, Nat.min_eq_left (by omega)]
  apply List.ext_getElem
  · simp; omega
  · intro i h1 h2
    simp only [List.getElem_take, List.getElem_drop, List.getElem_map, List.getElem_range]
    have : i < k := by simpa using h2
    rw [Lp.getD_lt 0 (by omega)]
    simp only [Nat.zero_add]
theorem nat200 {x : Int} (h : Lp.ab x ≤ 10 ^ 40) : x.natAbs < 2 ^ 200 := Nat.lt_of_lt_of_le (nat_of_ab h) (Nat.pow_le_pow_right (by decide) (by decide))
section
variable {P : Program} {w : World} {K : PySem.W.Frag} {mg : Str → Option Value} {base : Heap}
theorem sc_relaxed : FnScope ["costs", "instance", "rows", "dues", "prices", "shares", "bounds", "scale", "size", "many", "total", "parts", "at", "name", "places", "term", "told", "place", "tops", "share", "price", "value", "bound"] ["costs", "instance"] (defScope s_relaxed) := ⟨rfl, rfl, rfl, by decide +kernel, rfl, by decide +kernel, by decide +kernel⟩
def sp_relaxed (K : PySem.W.Frag) : Sp := fun vs H Q _ => ∃ (I : Lp.Ins) (c v : V), vs = [c, v] ∧ At K H (costsD I) c ∧ At K H (insD I) v ∧ WF2 I ∧ ∀ H' r X, Same H H' → At K H' (resD I X) r → Lp.Fin I X → Q r H'
theorem ok_relaxed (T : Txt K mg) : FnOk P w K mg base CX0 7 T.a_relaxed T.d_relaxed ["costs", "instance"] (sp_relaxed K) := by
  have G_need_sum : FnOk P w K mg base CX0 6 T.a_need_sum T.d_need_sum ["costs", "instance"] (sp_need_terms K) := ok_need_sum T
  have G_relaxation : FnOk P w K mg base CX0 3 T.a_relaxation T.d_relaxation ["costs", "instance"] (sp_relaxation K) := ok_relaxation T
  have G_least_sum : FnOk P w K mg base CX0 4 T.a_least_sum T.d_least_sum ["rows", "dues", "costs"] sp_least_sum := ok_least_sum T
  have G_ratio_of : FnOk P w K mg base CX0 1 T.a_ratio_of T.d_ratio_of ["numerator", "denominator"] sp_ratio_of := ok_ratio_of T
  refine T.F_relaxed.ok sc_relaxed (fun vs H Q E h => ?_) (fun cdv A outer s H vs Q E hr h => ?_)
  · obtain ⟨I, c, v, rfl, _⟩ := h; rfl
  · obtain ⟨I, c, v, rfl, hC, hA, w, q⟩ := h
    have wf := w.wf
    have hW := wf.W
    have hM := wf.M
    have hs3 := w.s3
    have hn4 := w.n
    have hq5 := w.q
    have hsp := wf.spos
    refine ⟨_, (pss_cons (ps_expr (pe_call G_need_sum (hr.mono (by decide)) (by rfl) T.g_need_sum T.F_need_sum.kp T.b_need_sum .nil pass0 (pa_cons (pv 0) (pa_cons (pv 1) pa_nil))))
      (pss_cons (ps_asg (pe_call G_relaxation (hr.mono (by decide)) (by rfl) T.g_relaxation T.F_relaxation.kp T.b_relaxation .nil pass0 (pa_cons (pv 0) (pa_cons (pv 1) pa_nil))) (pg_tup rfl (pgs_cons (pg_name (i := 2) sc_relaxed.nd rfl (Or.inl rfl)) (pgs_cons (pg_name (i := 3) sc_relaxed.nd rfl (Or.inl rfl)) (pgs_cons (pg_name (i := 4) sc_relaxed.nd rfl (Or.inl rfl)) pgs_nil)))))
      (pss_cons (ps_asg (pe_call G_least_sum (hr.mono (by decide)) (by rfl) T.g_least_sum T.F_least_sum.kp T.b_least_sum .nil pass0 (pa_cons (pv 2) (pa_cons (pv 3) (pa_cons (pv 4) pa_nil)))) (pg_tup rfl (pgs_cons (pg_name (i := 5) sc_relaxed.nd rfl (Or.inr rfl)) (pgs_cons (pg_name (i := 6) sc_relaxed.nd rfl (Or.inl rfl)) (pgs_cons (pg_name (i := 7) sc_relaxed.nd rfl (Or.inr rfl)) pgs_nil)))))
      (pss_cons (ps_asg (pe_tup (pa_cons (pe_ix ix_tup (pv 0) pe_int (fun _ _ => rfl)) (pa_cons (pe_ix ix_tup (pv 1) pe_int (fun _ _ => rfl)) pa_nil))) (pg_tup rfl (pgs_cons (pg_name (i := 8) sc_relaxed.nd rfl (Or.inr rfl)) (pgs_cons (pg_name (i := 9) sc_relaxed.nd rfl (Or.inl rfl)) pgs_nil))))
      (pss_cons (ps_set (i := 10) sc_relaxed.nd rfl (Or.inl rfl) (pe_callB (cr_sum rfl) (by rfl) T.z_sum (by decide +kernel) (pa_cons (pe_lc (own := [("share", 19), ("price", 20)]) (by rfl) sc_relaxed.nd (pi_zip (by rfl) T.z_zip (pa_cons (pv 5) (pa_cons (pv 4) pa_nil))) (blkOk_by (own := [("share", 19), ("price", 20)]) (N := ["costs", "instance", "rows", "dues", "prices", "shares", "bounds", "scale", "size", "many", "total", "parts", "at", "name", "places", "term", "told", "place", "tops", "share", "price", "value", "bound"]) (sc := defScope s_relaxed) (by decide +kernel)) (fun _ _ _ _ _ => (kg_tup (n := 2) K rfl rfl (pgs_cons (pg_name (i := 19) sc_relaxed.nd rfl (Or.inl rfl)) (pgs_cons (pg_name (i := 20) sc_relaxed.nd rfl (Or.inl rfl)) pgs_nil)))) (fun _ _ _ _ _ => pts_nil) (fun _ _ _ _ _ => (pe_op op_mulW (pv 19) (pv 20)))) pa_nil)))
      (pss_cons (ps_par (i := 11) (j := 12) (by rfl) sc_relaxed.nd rfl rfl (by decide) rfl rfl (pa_cons (pe_lst pa_nil) (pa_cons (pv 9) pa_nil)) (by rfl))
      (pss_cons (ps_for PassesOwn.never rfl (pi_range1 (by rfl) T.z_range (pa_cons (pv 9) pa_nil)) (pg_name (i := 13) sc_relaxed.nd rfl (Or.inr rfl))
        (pss_one (ps_expr (pe_bm PySem.F.plainAttrs_list PySem.F.slot_list_append PySem.F.type_list_append mt_append (pv 11) (pa_cons (pe_callTy call_tuple_of (by rfl) T.z_tuple (by decide +kernel) (pa_cons (pe_lc (own := [("value", 21)]) (by rfl) sc_relaxed.nd (pi_range1 (by rfl) T.z_range (pa_cons (pv 8) pa_nil)) (blkOk_by (own := [("value", 21)]) (N := ["costs", "instance", "rows", "dues", "prices", "shares", "bounds", "scale", "size", "many", "total", "parts", "at", "name", "places", "term", "told", "place", "tops", "share", "price", "value", "bound"]) (sc := defScope s_relaxed) (by decide +kernel)) (fun _ _ _ _ _ => (pg_name (i := 21) sc_relaxed.nd rfl (Or.inl rfl))) (fun _ _ _ _ _ => pts_nil) (fun _ _ _ _ _ => (pe_call G_ratio_of (hr.mono (by decide)) (by rfl) T.g_ratio_of T.F_ratio_of.kp T.b_ratio_of .nil pass0 (pa_cons (kix_list K rfl (pv 5) (pe_op op_add (pe_op op_mulW (pv 13) (pv 8)) (pv 21)) (fun _ _ => rfl)) (pa_cons (pv 7) pa_nil))))) pa_nil)) pa_nil)))))
      (pss_cons (ps_set (i := 14) sc_relaxed.nd rfl (Or.inl rfl) (pe_lst pa_nil))
      (pss_cons (ps_for PassesOwn.never rfl (pi_tup (pe_ix ix_tup (pv 1) pe_int (fun _ _ => rfl))) (pg_name (i := 15) sc_relaxed.nd rfl (Or.inl rfl))
        (pss_cons (ps_set (i := 16) sc_relaxed.nd rfl (Or.inl rfl) (pe_lst pa_nil))
          (pss_cons (ps_for PassesOwn.never rfl (pi_range1 (by rfl) T.z_range (pa_cons (pe_callB call_len_seq (by rfl) T.z_len (by decide +kernel) (pa_cons (pe_ix ix_tup (pv 15) pe_int (fun _ _ => rfl)) pa_nil)) pa_nil)) (pg_name (i := 17) sc_relaxed.nd rfl (Or.inl rfl))
            (pss_cons (ps_expr (pe_bm PySem.F.plainAttrs_list PySem.F.slot_list_append PySem.F.type_list_append mt_append (pv 16) (pa_cons (pe_callTy call_tuple_of (by rfl) T.z_tuple (by decide +kernel) (pa_cons (pe_lc (own := [("bound", 22)]) (by rfl) sc_relaxed.nd (pi_list (pe_slice sl_list (pv 6) (po_some (pv 12)) (po_some (pe_op op_add (pv 12) (pv 8))))) (blkOk_by (own := [("bound", 22)]) (N := ["costs", "instance", "rows", "dues", "prices", "shares", "bounds", "scale", "size", "many", "total", "parts", "at", "name", "places", "term", "told", "place", "tops", "share", "price", "value", "bound"]) (sc := defScope s_relaxed) (by decide +kernel)) (fun _ _ _ _ _ => (pg_name (i := 22) sc_relaxed.nd rfl (Or.inl rfl))) (fun _ _ _ _ _ => pts_nil) (fun _ _ _ _ _ => (pe_call G_ratio_of (hr.mono (by decide)) (by rfl) T.g_ratio_of T.F_ratio_of.kp T.b_ratio_of .nil pass0 (pa_cons (pv 22) (pa_cons (pv 7) pa_nil))))) pa_nil)) pa_nil)))
              (pss_one (ps_aug (i := 12) sc_relaxed.nd rfl (Or.inl rfl) (pv 8) ip_add))))
          (pss_one (ps_expr (pe_bm PySem.F.plainAttrs_list PySem.F.slot_list_append PySem.F.type_list_append mt_append (pv 14) (pa_cons (pe_callTy call_tuple_of (by rfl) T.z_tuple (by decide +kernel) (pa_cons (pv 16) pa_nil)) pa_nil)))))))
      (pss_cons (ps_set (i := 18) sc_relaxed.nd rfl (Or.inl rfl) (pe_callTy call_tuple_of (by rfl) T.z_tuple (by decide +kernel) (pa_cons (pe_lc (own := [("bound", 22)]) (by rfl) sc_relaxed.nd (pi_list (pe_slice sl_list (pv 6) po_none (po_some (pv 9)))) (blkOk_by (own := [("bound", 22)]) (N := ["costs", "instance", "rows", "dues", "prices", "shares", "bounds", "scale", "size", "many", "total", "parts", "at", "name", "places", "term", "told", "place", "tops", "share", "price", "value", "bound"]) (sc := defScope s_relaxed) (by decide +kernel)) (fun _ _ _ _ _ => (pg_name (i := 22) sc_relaxed.nd rfl (Or.inl rfl))) (fun _ _ _ _ _ => pts_nil) (fun _ _ _ _ _ => (pe_call G_ratio_of (hr.mono (by decide)) (by rfl) T.g_ratio_of T.F_ratio_of.kp T.b_ratio_of .nil pass0 (pa_cons (pv 22) (pa_cons (pv 7) pa_nil))))) pa_nil)))
      (pss_one (ps_ret (pe_tup (pa_cons (pe_call G_ratio_of (hr.mono (by decide)) (by rfl) T.g_ratio_of T.F_ratio_of.kp T.b_ratio_of .nil pass0 (pa_cons (pv 10) (pa_cons (pv 7) pa_nil))) (pa_cons (pe_callTy call_tuple_of (by rfl) T.z_tuple (by decide +kernel) (pa_cons (pv 11) pa_nil)) (pa_cons (pv 18) (pa_cons (pe_callTy call_tuple_of (by rfl) T.z_tuple (by decide +kernel) (pa_cons (pv 14) pa_nil)) pa_nil))))))))))))))))), ?_⟩
    -- need_sum
    refine ⟨_, rfl, _, rfl, I, c, v, rfl, hC, hA, w, fun H1 s1 => ?_⟩
    -- relaxation
    refine ⟨_, rfl, _, rfl, I, c, v, rfl, At.same (Same.toT s1) hC, At.same (Same.toT s1) hA, w, fun H2 t2 ra du co s2 et2 hR hdu hco => ?_⟩
    refine ⟨t2, _, rfl, sqT et2, rfl, _, _, rfl, _, _, rfl, _, _, rfl, rfl, ?_⟩
    -- least_sum
    refine ⟨_, rfl, _, rfl, _, rfl, ra, du, co, I, rfl, wf, hR, hdu, hco, fun H3 t3 xa ya X s3 et3 exa eya F => ?_⟩
    refine ⟨t3, _, rfl, sqT et3, rfl, _, _, rfl, _, _, rfl, _, _, rfl, rfl, ?_⟩
    have s03 : Same H H3 := (s1.trans s2).trans s3
    obtain ⟨ca, cs, rfl, hcT, hcl, _, hci⟩ := (At.same (Same.toT s03) hC).ix
    obtain ⟨c0, ec0, hc0⟩ := hci 0 _ rfl
    obtain rfl := at_i hc0
    obtain ⟨ia, is_, rfl, hiT, hil, _, hii⟩ := (At.same (Same.toT s03) hA).ix
    obtain ⟨i0, ei0, hi0⟩ := hii 0 _ rfl
    obtain rfl := at_i hi0
    obtain ⟨i1, ei1, hi1⟩ := hii 1 _ rfl
    obtain ⟨ta, ts, rfl, hts, htl, hta, _⟩ := hi1.ix
    rw [List.length_map] at htl
    have htq : ts.length = I.q := htl
    have d0 := F.sm.d0
    have dB : Lp.ab X.scale ≤ 10 ^ 40 := by rw [Lp.ab_pos (Int.le_of_lt d0)]; exact Int.le_trans F.sm.d (by decide)
    have ds : X.scale.natAbs < 2 ^ 200 := nat200 dB
    have xl : (X.xs I).length = I.W := by unfold Lp.Tab.xs; rw [List.length_map, List.length_range]
    have yl : (X.ys I).length = I.M := by unfold Lp.Tab.ys; rw [List.length_map, List.length_range]
    have xg : ∀ j, j < I.W → (X.xs I).getD j 0 = Lp.xOf (Lp.sysOf I) X j := fun j hj => by unfold Lp.Tab.xs; exact Lp.getD_map_range _ _ hj
    have yg : ∀ j, j < I.M → (X.ys I).getD j 0 = Lp.yOf (Lp.sysOf I) X j := fun j hj => by unfold Lp.Tab.ys; exact Lp.getD_map_range _ _ hj
    have xB : ∀ j, j < I.W → Lp.ab (Lp.xOf (Lp.sysOf I) X j) ≤ 10 ^ 40 := fun j hj => Int.le_trans (F.x j hj) (by decide)
    have yB : ∀ j, j < I.M → Lp.ab (Lp.yOf (Lp.sysOf I) X j) ≤ 10 ^ 40 := fun j hj => Int.le_trans (F.y j hj) (by decide)
    have eco3 := s3 _ _ hco
    -- size, many
    refine ⟨_, rfl, ca, cs, 0, _, rfl, rfl, hcT, ec0, _, rfl, ia, is_, 0, _, rfl, rfl, hiT, ei0, szl' (by show 2 ≤ 1000000; decide), fun t4 nt4 => ?_⟩
    have s4 : Same H3 (upd H3 t4 (.tup [.int I.s, .int I.n])) := same_upd nt4
    refine ⟨t4, _, rfl, sqT upd_same, rfl, _, _, rfl, _, _, rfl, rfl, ?_⟩
    generalize hH4 : upd H3 t4 (.tup [.int I.s, .int I.n]) = H4 at s4 ⊢
    -- total
    refine ⟨_, rfl, _, rfl, xa, co, _, _, rfl, sqL (s4 _ _ exa), sqL (s4 _ _ eco3), fun D hD => ?_⟩
    refine lc_it (walk_zip (n := I.W) (by rw [List.length_map, List.length_map, xl, Lp.costs_len, Nat.min_self])) (fun j Hj => Same H4 Hj ∧ Hj D = some (.lst (((List.range j).map fun j => Lp.xOf (Lp.sysOf I) X j * I.costs.getD j 0).map L2.V.int))) ⟨same_upd hD, upd_same⟩ (fun j Hj _ h => ⟨Same.seq h.1 (sqL (s4 _ _ exa)), Same.seq h.1 (sqL (s4 _ _ eco3))⟩) ?_ ?_
    · rintro j x Hj Hj' hj ⟨sj, eD⟩ ⟨t, x1, x2, rfl, nt, rfl, f1, f2⟩
      obtain ⟨y1, hy1, rfl⟩ := ints_at f1
      obtain ⟨y2, hy2, rfl⟩ := ints_at f2
      have e1 : y1 = Lp.xOf (Lp.sysOf I) X j := by
        rw [← xg j hj, Lp.getD_lt 0 (by rw [xl]; exact hj)]
        rw [List.getElem?_eq_getElem (by rw [xl]; exact hj)] at hy1
        exact (Option.some.inj hy1).symm
      have e2 : y2 = I.costs.getD j 0 := by
        rw [Lp.getD_lt 0 (by rw [Lp.costs_len]; exact hj)]
        rw [List.getElem?_eq_getElem (by rw [Lp.costs_len]; exact hj)] at hy2
        exact (Option.some.inj hy2).symm
      have cb := wf.costs j hj
      have nDt : D ≠ t := ne_of_none eD nt
      refine ⟨t, _, rfl, sqT upd_same, rfl, _, _, rfl, _, _, rfl, rfl, rfl, ?_⟩
      refine ⟨_, rfl, _, rfl, _, _, rfl, rfl, wide_mul (a := 160) (b := 32) (by rw [e1]; exact nat_of_ab (xB j hj)) (by rw [e2]; omega) (by decide) (by decide) (by decide), _, by rw [upd_ne nDt]; exact eD, szl ?_, same_put (sj.trans (same_upd nt)) hD, ?_⟩
      · rw [List.length_map, List.length_map, List.length_range]; omega
      · rw [upd_same, List.range_succ, List.map_append, List.map_append, e1, e2]; rfl
    · rintro H5 ⟨s5, eD⟩
      refine ⟨D, _, rfl, sqL eD, ?_⟩
      have etot : ((List.range I.W).map fun j => Lp.xOf (Lp.sysOf I) X j * I.costs.getD j 0).sum = totO I X := by rw [sum_range]; exact F.tot
      show tSeq _ _ _ (List.set _ 10 (some (L2.V.int ((List.range I.W).map fun j => Lp.xOf (Lp.sysOf I) X j * I.costs.getD j 0).sum))) H5
      rw [etot]
      have s35 : Same H3 H5 := s4.trans s5
      -- parts, at
      refine ⟨Nat.zero_le _, fun pl npl => ⟨_, rfl, _, _, rfl, ?_⟩⟩
      have s6 : Same H5 (upd H5 pl (.lst [])) := same_upd npl
      generalize hH6 : upd H5 pl (.lst []) = H6 at s6 ⊢
      have epl : H6 pl = some (.lst []) := by rw [← hH6]; exact upd_same
      have s36 : Same H3 H6 := s35.trans s6
      refine ⟨_, rfl, _, rfl, by omega, by omega, ?_⟩
      refine for_it (walk_rg (n := I.n)) (fun i σ Hi => (∃ v13 : Option L2.V, σ = [some (.ref ca), some (.ref ia), some (.ref ra), some (.ref du), some (.ref co), some (.ref xa), some (.ref ya), some (.int X.scale), some (.int I.s), some (.int I.n), some (.int (totO I X)), some (.ref pl), some (.int I.n), v13, none, none, none, none, none, none, none, none, none]) ∧ Same H5 Hi ∧ DL K Hi pl ((List.range i).map (shD I X)))
        ⟨⟨none, rfl⟩, s6, [], epl, rfl⟩ (fun _ _ _ _ _ => trivial) ?_ ?_
      · rintro i x σ Hi Hi' hi ⟨⟨v13, rfl⟩, si, hDL⟩ ⟨rfl, rfl⟩
        have exai := si _ _ (s35 _ _ exa)
        obtain ⟨pvs, epv, _⟩ := id hDL
        refine ⟨_, rfl, .inl ⟨rfl, _, sqL epv⟩, ?_⟩
        refine ⟨_, rfl, (I.s : Int), rfl, by omega, by omega, fun D2 hD2 => ?_⟩
        refine lc_it (walk_rg (n := I.s)) (fun j Hj => Same Hi' Hj ∧ DL K Hj D2 ((List.range j).map fun v => ratD (Lp.ratio (Lp.shO I X i v) X.scale))) ⟨same_upd hD2, [], upd_same, rfl⟩ (fun _ _ _ _ => trivial) ?_ ?_
        · rintro j x Hj Hj' hj ⟨sj, hd2⟩ ⟨rfl, rfl⟩
          have hlt := Lp.blk_lt (p := i) (a := I.n) (s := I.s) (v := j) hi hj
          have hst : I.n * I.s ≤ I.W := Lp.st_ge I I.q
          have hx : i * I.s + j < I.W := by omega
          obtain ⟨vs2, e2, _⟩ := id hd2
          refine ⟨rfl, _, rfl, _, rfl, _, rfl, _, _, rfl, rfl, wide_mul (a := 8) (b := 8) (by rw [Int.natAbs_natCast]; omega) (by rw [Int.natAbs_natCast]; omega) (by decide) (by decide) (by decide), _, rfl, _, _, rfl, rfl, xa, _, _, .int (Lp.shO I X i j), rfl, rfl, sqL (sj _ _ exai), ?_, _, rfl, Lp.shO I X i j, X.scale, rfl, d0, nat200 (xB _ hx), ds, fun t nt => ?_⟩
          · have := int_at (L := X.xs I) (j := i * I.s + j) (by rw [xl]; exact hx)
            rw [xg _ hx] at this
            rw [show ((i : Int) * (I.s : Int) + (j : Int)) = ((i * I.s + j : Nat) : Int) by rw [Int.natCast_add, Int.natCast_mul]]
            exact this
          · have st : Same Hj' (upd Hj' t (.tup (ratV (Lp.ratio (Lp.shO I X i j) X.scale)))) := same_upd nt
            refine ⟨vs2, st _ _ e2, szl (by rw [hd2.len e2, List.length_map, List.length_range]; omega), same_put (sj.trans st) hD2, ?_⟩
            rw [List.range_succ, List.map_append]
            exact (hd2.same st).push (st _ _ e2) (at_rat (sqT upd_same))
        · rintro Hj ⟨sj, vs2, e2, ha2⟩
          refine ⟨D2, _, rfl, .inl ⟨sqL e2, fun t nt => ?_⟩⟩
          have st : Same Hj (upd Hj t (.tup vs2)) := same_upd nt
          have sit : Same Hi' (upd Hj t (.tup vs2)) := sj.trans st
          refine ⟨pl, _, _, rfl, rfl, sit _ _ epv, szl (by rw [hDL.len epv, List.length_map, List.length_range]; omega), ?_⟩
          refine ⟨⟨_, rfl⟩, same_put (si.trans sit) npl, ?_⟩
          rw [List.range_succ, List.map_append]
          exact (hDL.same sit).push (sit _ _ epv) (at_mk (sqT upd_same) (Ats.same (Same.toT st) ha2))
      · rintro σ H7 ⟨⟨v13, rfl⟩, s7, hPL⟩
        -- places
        refine ⟨Nat.zero_le _, fun ql nql => ?_⟩
        have s8 : Same H7 (upd H7 ql (.lst [])) := same_upd nql
        generalize hH8 : upd H7 ql (.lst []) = H8 at s8 ⊢
        have eql : H8 ql = some (.lst []) := by rw [← hH8]; exact upd_same
        have s37 : Same H3 H7 := s35.trans s7
        have s38 : Same H3 H8 := s37.trans s8
        refine ⟨_, rfl, ia, is_, 1, _, rfl, rfl, (Same.toT s38).seq hiT, ei1, ta, rfl, ⟨_, (Same.toT s38).seq hts⟩, ?_⟩
        refine for_it walk_tup (fun i σ Hi => (∃ v13 v15 v16 v17 : Option L2.V, σ = [some (.ref ca), some (.ref ia), some (.ref ra), some (.ref du), some (.ref co), some (.ref xa), some (.ref ya), some (.int X.scale), some (.int I.s), some (.int I.n), some (.int (totO I X)), some (.ref pl), some (.int (I.of i : Nat)), v13, some (.ref ql), v15, v16, v17, none, none, none, none, none]) ∧ Same H7 Hi ∧ DL K Hi ql ((List.range i).map (prT I X)))
          ⟨⟨v13, none, none, none, rfl⟩, s8, [], eql, rfl⟩ (fun i σ Hi _ h => (Same.toT (s37.trans h.2.1)).seq hts) ?_ ?_
        · rintro i x σ Hi Hi' hi ⟨⟨v13, v15, v16, v17, rfl⟩, si, hQL⟩ ⟨rfl, hx⟩
          have hiq : i < I.q := by rw [← htq]; exact hi
          obtain ⟨dd, hd, hAt⟩ := hta.item hx
          rw [List.getElem?_map, (w.tm hiq).1] at hd
          cases hd
          obtain ⟨a, us, rfl, hT, hl, _, hi'⟩ := hAt.ix
          obtain ⟨u1, e1, h1⟩ := hi' 1 _ rfl
          obtain ⟨sa, rfl, hsa⟩ := at_row h1
          have har : I.ar i = 1 ∨ I.ar i = 2 := wf.ar i hiq
          have hofM := Lp.of_le I hiq
          obtain ⟨qvs, eqv, _⟩ := id hQL
          -- told = []
          refine ⟨Nat.zero_le _, fun tl ntl => ?_⟩
          have sA : Same Hi' (upd Hi' tl (.lst [])) := same_upd ntl
          generalize hHA : upd Hi' tl (.lst []) = HA at sA ⊢
          have etl : HA tl = some (.lst []) := by rw [← hHA]; exact upd_same
          have s3A : Same H3 HA := (s37.trans si).trans sA
          have hal : (((I.t i).scope.map fun x : Nat => L2.V.int (x : Int)).length : Int) = (I.ar i : Int) := by rw [List.length_map]; rfl
          refine ⟨_, rfl, a, us, 1, _, rfl, rfl, (Same.toT s3A).seq hT, e1, sa, _, rfl, .inr ((Same.toT s3A).seq hsa), _, rfl, by rw [hal]; omega, by rw [hal]; omega, ?_⟩
          rw [hal]
          refine for_it (walk_rg (n := I.ar i)) (fun p σ Hp_ => (∃ v13 v17 : Option L2.V, σ = [some (.ref ca), some (.ref ia), some (.ref ra), some (.ref du), some (.ref co), some (.ref xa), some (.ref ya), some (.int X.scale), some (.int I.s), some (.int I.n), some (.int (totO I X)), some (.ref pl), some (.int ((I.of i + p * I.s : Nat) : Int)), v13, some (.ref ql), some (.ref a), some (.ref tl), v17, none, none, none, none, none]) ∧ Same Hi' Hp_ ∧ DL K Hp_ tl ((List.range p).map (prD I X i)))
            ⟨⟨v13, v17, by rw [Nat.zero_mul]; rfl⟩, sA, [], etl, rfl⟩ (fun _ _ _ _ _ => trivial) ?_ ?_
          · rintro p x σ Hp_ Hp' hp ⟨⟨v13, v17, rfl⟩, sp_, hTL⟩ ⟨rfl, rfl⟩
            have s3p : Same H3 Hp' := (s37.trans si).trans sp_
            obtain ⟨tvs, etv, _⟩ := id hTL
            have hblk : p * I.s + I.s ≤ I.ar i * I.s := by
              have := Nat.mul_le_mul_right I.s (show p + 1 ≤ I.ar i from hp)
              rw [Nat.succ_mul] at this; exact this
            refine ⟨_, rfl, .inl ⟨rfl, _, sqL etv⟩, ?_⟩
            -- bounds[at:at + size]
            refine ⟨_, rfl, _, rfl, _, rfl, _, rfl, _, rfl, _, _, rfl, rfl, _, rfl, ya, _, rfl, sqL (s3p _ _ eya), fun c nc => ?_⟩
            rw [cut_at (L := X.ys I) (a := I.of i + p * I.s) (k := I.s) (by rw [yl]; omega)]
            have sc_ : Same Hp' (upd Hp' c (.lst (((List.range I.s).map fun j => (X.ys I).getD (I.of i + p * I.s + j) 0).map L2.V.int))) := same_upd nc
            generalize hHC : upd Hp' c (.lst (((List.range I.s).map fun j => (X.ys I).getD (I.of i + p * I.s + j) 0).map L2.V.int)) = HC at sc_ ⊢
            have ec : HC c = some (.lst (((List.range I.s).map fun j => (X.ys I).getD (I.of i + p * I.s + j) 0).map L2.V.int)) := by rw [← hHC]; exact upd_same
            refine ⟨c, rfl, ⟨_, sqL ec⟩, fun D2 hD2 => ?_⟩
            refine lc_it walk_list (fun j Hj => Same HC Hj ∧ DL K Hj D2 ((List.range j).map fun v => ratD (Lp.ratio (Lp.prO I X i p v) X.scale))) ⟨same_upd hD2, [], upd_same, rfl⟩ (fun j Hj _ h => sqL (h.1 _ _ ec)) ?_ ?_
            · rintro j x Hj Hj' hj ⟨sj, hd2⟩ ⟨rfl, hx⟩
              rw [List.length_map, List.length_map, List.length_range] at hj
              obtain ⟨y, hy, rfl⟩ := ints_at hx
              have hjM : I.of i + p * I.s + j < I.M := by omega
              have ey : y = Lp.prO I X i p j := by
                rw [List.getElem?_map, List.getElem?_range hj] at hy
                have this : (X.ys I).getD (I.of i + p * I.s + j) 0 = y := Option.some.inj hy
                rw [yg _ hjM] at this
                rw [← this]
                unfold Lp.prO
                rw [Nat.add_assoc]
              subst ey
              obtain ⟨vs2, e2, _⟩ := id hd2
              refine ⟨rfl, _, rfl, _, rfl, Lp.prO I X i p j, X.scale, rfl, d0, nat200 (by have := yB _ hjM; rw [Nat.add_assoc] at this; exact this), ds, fun t nt => ?_⟩
              have st : Same Hj' (upd Hj' t (.tup (ratV (Lp.ratio (Lp.prO I X i p j) X.scale)))) := same_upd nt
              refine ⟨vs2, st _ _ e2, szl (by rw [hd2.len e2, List.length_map, List.length_range]; omega), same_put (sj.trans st) hD2, ?_⟩
              rw [List.range_succ, List.map_append]
              exact (hd2.same st).push (st _ _ e2) (at_rat (sqT upd_same))
            · rintro Hj ⟨sj, vs2, e2, ha2⟩
              rw [List.length_map, List.length_map, List.length_range] at ha2
              refine ⟨D2, _, rfl, .inl ⟨sqL e2, fun t nt => ?_⟩⟩
              have st : Same Hj (upd Hj t (.tup vs2)) := same_upd nt
              have spt : Same Hp' (upd Hj t (.tup vs2)) := (sc_.trans sj).trans st
              refine ⟨tl, _, _, rfl, rfl, spt _ _ etv, szl (by rw [hTL.len etv, List.length_map, List.length_range]; omega), ?_⟩
              -- at += size
              refine ⟨_, rfl, _, rfl, _, _, rfl, rfl, ?_⟩
              refine ⟨⟨v13, some (.int (p : Int)), ?_⟩, same_put (sp_.trans spt) ntl, ?_⟩
              · rw [show I.of i + (p + 1) * I.s = (I.of i + p * I.s) + I.s by rw [Nat.succ_mul]; omega, Int.natCast_add]
                rfl
              · rw [List.range_succ, List.map_append]
                exact (hTL.same spt).push (spt _ _ etv) (at_mk (sqT upd_same) (Ats.same (Same.toT st) ha2))
          · rintro σ Hq ⟨⟨v13, v17, rfl⟩, sq_, tvs, etv, hta2⟩
            have eqv2 := sq_ _ _ eqv
            refine ⟨_, rfl, .inl ⟨rfl, _, sqL eqv2⟩, ?_⟩
            refine ⟨_, rfl, tl, _, rfl, .inl ⟨sqL etv, fun t nt => ?_⟩⟩
            have st : Same Hq (upd Hq t (.tup tvs)) := same_upd nt
            have sit : Same Hi' (upd Hq t (.tup tvs)) := sq_.trans st
            refine ⟨ql, _, _, rfl, rfl, st _ _ eqv2, szl (by rw [hQL.len eqv, List.length_map, List.length_range]; omega), ?_⟩
            refine ⟨⟨v13, some (.ref a), some (.ref tl), v17, ?_⟩, same_put (si.trans sit) nql, ?_⟩
            · rfl
            · rw [List.range_succ, List.map_append]
              exact (hQL.same sit).push (sit _ _ eqv) (at_mk (sqT upd_same) (Ats.same (Same.toT st) hta2))
        · rintro σ H9 ⟨⟨v13, v15, v16, v17, rfl⟩, s9, hQL⟩
          rw [htq] at hQL
          have s39 : Same H3 H9 := s37.trans s9
          -- tops
          refine ⟨_, rfl, _, rfl, _, rfl, ya, _, rfl, sqL (s39 _ _ eya), fun c nc => ?_⟩
          have hnM : I.n ≤ I.M := Lp.offN_ge _ _ _
          rw [cut_0 (L := X.ys I) (k := I.n) (by rw [yl]; exact hnM)]
          have sc_ : Same H9 (upd H9 c (.lst (((List.range I.n).map fun j => (X.ys I).getD j 0).map L2.V.int))) := same_upd nc
          generalize hHC : upd H9 c (.lst (((List.range I.n).map fun j => (X.ys I).getD j 0).map L2.V.int)) = HC at sc_ ⊢
          have ec : HC c = some (.lst (((List.range I.n).map fun j => (X.ys I).getD j 0).map L2.V.int)) := by rw [← hHC]; exact upd_same
          refine ⟨c, rfl, ⟨_, sqL ec⟩, fun D2 hD2 => ?_⟩
          refine lc_it walk_list (fun j Hj => Same HC Hj ∧ DL K Hj D2 ((List.range j).map (tpD I X))) ⟨same_upd hD2, [], upd_same, rfl⟩ (fun j Hj _ h => sqL (h.1 _ _ ec)) ?_ ?_
          · rintro j x Hj Hj' hj ⟨sj, hd2⟩ ⟨rfl, hx⟩
            rw [List.length_map, List.length_map, List.length_range] at hj
            obtain ⟨y, hy, rfl⟩ := ints_at hx
            have hjM : j < I.M := by omega
            have ey : y = Lp.topO I X j := by
              rw [List.getElem?_map, List.getElem?_range hj] at hy
              have this : (X.ys I).getD j 0 = y := Option.some.inj hy
              rw [yg _ hjM] at this
              exact this.symm
            subst ey
            obtain ⟨vs2, e2, _⟩ := id hd2
            refine ⟨rfl, _, rfl, _, rfl, Lp.topO I X j, X.scale, rfl, d0, nat200 (yB _ hjM), ds, fun t nt => ?_⟩
            have st : Same Hj' (upd Hj' t (.tup (ratV (Lp.ratio (Lp.topO I X j) X.scale)))) := same_upd nt
            refine ⟨vs2, st _ _ e2, szl (by rw [hd2.len e2, List.length_map, List.length_range]; omega), same_put (sj.trans st) hD2, ?_⟩
            rw [List.range_succ, List.map_append]
            exact (hd2.same st).push (st _ _ e2) (at_rat (sqT upd_same))
          · rintro Hj ⟨sj, vs2, e2, ha2⟩
            rw [List.length_map, List.length_map, List.length_range] at ha2
            refine ⟨D2, _, rfl, .inl ⟨sqL e2, fun tt ntt => ?_⟩⟩
            have st : Same Hj (upd Hj tt (.tup vs2)) := same_upd ntt
            generalize hHT : upd Hj tt (.tup vs2) = HT at st ⊢
            have ett : HT tt = some (.tup vs2) := by rw [← hHT]; exact upd_same
            have s9T : Same H9 HT := (sc_.trans sj).trans st
            have ha2T := Ats.same (Same.toT st) ha2
            -- the answer
            refine ⟨_, rfl, _, rfl, totO I X, X.scale, rfl, d0, nat200 (Int.le_trans F.totb (by decide)), ds, fun t0 nt0 => ?_⟩
            have sU : Same HT (upd HT t0 (.tup (ratV (Lp.ratio (totO I X) X.scale)))) := same_upd nt0
            generalize hHU : upd HT t0 (.tup (ratV (Lp.ratio (totO I X) X.scale))) = HU at sU ⊢
            have et0 : HU t0 = some (.tup (ratV (Lp.ratio (totO I X) X.scale))) := by rw [← hHU]; exact upd_same
            have s7U : Same H7 HU := (s9.trans s9T).trans sU
            obtain ⟨pvs, epv, hpa⟩ := hPL.same s7U
            refine ⟨_, rfl, pl, _, rfl, .inl ⟨sqL epv, fun t1 nt1 => ?_⟩⟩
            have sV : Same HU (upd HU t1 (.tup pvs)) := same_upd nt1
            generalize hHV : upd HU t1 (.tup pvs) = HV at sV ⊢
            have et1 : HV t1 = some (.tup pvs) := by rw [← hHV]; exact upd_same
            obtain ⟨qvs, eqv, hqa⟩ := hQL.same ((s9T.trans sU).trans sV)
            refine ⟨_, rfl, _, rfl, ql, _, rfl, .inl ⟨sqL eqv, fun t2' nt2 => ?_⟩⟩
            have sW : Same HV (upd HV t2' (.tup qvs)) := same_upd nt2
            generalize hHW : upd HV t2' (.tup qvs) = HW at sW ⊢
            have et2' : HW t2' = some (.tup qvs) := by rw [← hHW]; exact upd_same
            refine ⟨szl' (by show 4 ≤ 1000000; decide), fun r nr => ?_⟩
            have sR : Same HW (upd HW r (.tup [.ref t0, .ref t1, .ref tt, .ref t2'])) := same_upd nr
            refine q _ (.ref r) X (s03.trans ((((((s37.trans s9).trans s9T).trans sU).trans sV).trans sW).trans sR)) ?_ F
            have vW := sV.trans (sW.trans sR)
            refine at_mk (sqT upd_same) ⟨_, _, rfl, at_rat (sqT (vW _ _ et0)), _, _, rfl, at_mk (sqT ((sW.trans sR) _ _ et1)) (Ats.same (Same.toT vW) hpa), _, _, rfl, at_mk (sqT ((sU.trans vW) _ _ ett)) (Ats.same (Same.toT (sU.trans vW)) ha2T), _, _, rfl, at_mk (sqT (sR _ _ et2')) (Ats.same (Same.toT (sW.trans sR)) hqa), rfl⟩
end
end KV
namespace KV
open PySem PySem.Spec PyProof.Rows L2
/-! ### the draws -/
structure Drw (K : PySem.W.Frag) (H : Hp) (r sc : Addr) (ns : List Int) : Prop where
  ne : sc ≠ r ∨ ∀ H' : Hp, SqL K H' sc (ns.map V.int)
  s : SqL K H sc (ns.map V.int)
  row : ∃ i j k : Int, 0 ≤ i ∧ 0 ≤ j ∧ j < 2147483648 ∧ H r = some (.lst [.ref sc, .int i, .int j, .int k])
/-- all but the row stands -/
def Off (r : Addr) (H H' : Hp) : Prop := SameX (fun b => b = r) H H'
section
variable {K : PySem.W.Frag} {H H' : Hp} {r sc : Addr} {ns : List Int}
theorem Off.seqL {a : Addr} {xs : List V} (s : Off r H H') (n : a ≠ r) (h : SqL K H a xs) : SqL K H' a xs :=
  h.elim (fun e => .inl (e.elim (fun e => .inl (s _ _ e n)) fun ⟨o, e⟩ => .inr ⟨o, s _ _ e n⟩)) .inr
theorem Off.seqS {a : Addr} {xs : List V} (s : Off r H H') (n : a ≠ r ∨ ∀ H' : Hp, SqL K H' a xs) (h : SqL K H a xs) : SqL K H' a xs := n.elim (fun n => s.seqL n h) fun f => f H'
theorem Drw.put (d : Drw K H r sc ns) {i j k : Int} (hi : 0 ≤ i) (h0 : 0 ≤ j) (h1 : j < 2147483648) : Drw K (upd H r (.lst [.ref sc, .int i, .int j, .int k])) r sc ns :=
  ⟨d.ne, Off.seqS (SameX.upd rfl) d.ne d.s, i, j, k, hi, h0, h1, upd_same⟩
theorem Drw.toT (d : Drw K H r sc ns) (s : Off r H H') : SameT H H' := SameX.toT s fun b e xs => by
  obtain ⟨i, j, k, _, _, _, h⟩ := d.row
  rw [e]; exact no_tup_lst h
theorem Drw.same (d : Drw K H r sc ns) (s : Same H H') : Drw K H' r sc ns := by
  obtain ⟨i, j, k, h1, h2, h3, h⟩ := d.row
  exact ⟨d.ne, Same.seq s d.s, i, j, k, h1, h2, h3, s _ _ h⟩
theorem Drw.ne_none (d : Drw K H r sc ns) {p : Addr} (h : H p = none) : p ≠ r := by
  obtain ⟨i, j, k, h1, h2, h3, e⟩ := d.row
  intro z; rw [z, e] at h; cases h
end
theorem fmod_nat {a : Int} {m : Nat} (h : 0 < m) : ∃ v : Nat, v < m ∧ a.fmod (m : Int) = (v : Int) := by
  have h0 := Int.fmod_nonneg_of_pos a (show (0 : Int) < (m : Int) by omega)
  have h1 := Int.fmod_lt_of_pos a (show (0 : Int) < (m : Int) by omega)
  exact ⟨(a.fmod (m : Int)).toNat, by omega, by omega⟩
theorem fmod_rng (a : Int) : 0 ≤ a.fmod 2147483647 ∧ a.fmod 2147483647 < 2147483648 := by
  have h0 := Int.fmod_nonneg_of_pos a (show (0 : Int) < 2147483647 by omega)
  have h1 := Int.fmod_lt_of_pos a (show (0 : Int) < 2147483647 by omega)
  omega
section
variable {P : Program} {w : World} {K : PySem.W.Frag} {mg : Str → Option Value} {base : Heap}
theorem sc_law_taken : FnScope ["_law_row", "_law_many", "_law_found", "_law_cell"] ["_law_row", "_law_many"] (defScope s_law_taken) := ⟨rfl, rfl, rfl, by decide +kernel, rfl, by decide +kernel, by decide +kernel⟩
def sp_taken (K : PySem.W.Frag) : Sp := fun vs H Q _ => ∃ (r sc : Addr) (ns : List Int) (m : Nat), vs = [.ref r, .int m] ∧ 0 < m ∧ m < 100000 ∧ Drw K H r sc ns ∧ ∀ H' (v : Nat), Off r H H' → Drw K H' r sc ns → v < m → Q (.int v) H'
theorem ok_law_taken (T : Txt K mg) : FnOk P w K mg base CX0 1 T.a_law_taken T.d_law_taken ["_law_row", "_law_many"] (sp_taken K) := by
  refine T.F_law_taken.ok sc_law_taken (fun vs H Q E h => ?_) (fun cdv A outer s H vs Q E hr h => ?_)
  · obtain ⟨r, sc, ns, m, rfl, _⟩ := h; rfl
  · obtain ⟨r, sc, ns, m, rfl, m0, m1, D, q⟩ := h
    obtain ⟨i, j, k, i0, j0, j1, eR⟩ := D.row
    have mne : (m : Int) ≠ 0 := by omega
    have wd : ∀ x : Int, CDivW x (m : Int) := fun x => wide_div (b := 64) (by omega) (by rw [Int.natAbs_natCast]; omega) (by decide) (by decide)
    refine ⟨_, (pss_cons (ps_if (pt_cmpR op_gt (pe_ix ix_list (pv 0) pe_int (fun _ _ => rfl)) pe_int (nomark _))
        (pss_cons (ps_set (i := 2) sc_law_taken.nd rfl (Or.inl rfl) (pe_op op_modN (pe_callTy call_int1 (by rfl) T.z_int (by decide +kernel) (pa_cons (pe_ix ix_list (pv 0) pe_int (fun _ _ => rfl)) pa_nil)) (pv 1)))
          (pss_cons (ps_asg (pe_op op_fdivW (pe_ix ix_list (pv 0) pe_int (fun _ _ => rfl)) (pv 1)) (pg_sub (pv 0) pe_int set_list))
          (pss_one (ps_ret (pv 2)))))
        pss_nil)
      (pss_cons (ps_asg (pe_op op_add (pe_ix ix_list (pv 0) pe_int (fun _ _ => rfl)) pe_int) (pg_sub (pv 0) pe_int set_list))
      (pss_cons (ps_if (pt_cmpR op_gt (pe_ix ix_list (pv 0) pe_int (fun _ _ => rfl)) (pe_callB call_len_seq (by rfl) T.z_len (by decide +kernel) (pa_cons (pe_ix ix_list (pv 0) pe_int (fun _ _ => rfl)) pa_nil)) (nomark _))
        (pss_cons (ps_asg (pe_op op_modN (pe_callTy call_int1 (by rfl) T.z_int (by decide +kernel) (pa_cons (pe_op op_add (pe_op op_mulW (pe_ix ix_list (pv 0) pe_int (fun _ _ => rfl)) pe_int) pe_int) pa_nil)) pe_int) (pg_sub (pv 0) pe_int set_list))
          (pss_one (ps_ret (pe_op op_modN (pe_callTy call_int1 (by rfl) T.z_int (by decide +kernel) (pa_cons (pe_op op_fdivW (pe_ix ix_list (pv 0) pe_int (fun _ _ => rfl)) pe_int) pa_nil)) (pv 1)))))
        pss_nil)
      (pss_cons (ps_set (i := 3) sc_law_taken.nd rfl (Or.inl rfl) (pe_ix ix_list (pe_ix ix_list (pv 0) pe_int (fun _ _ => rfl)) (pe_op op_sub (pe_ix ix_list (pv 0) pe_int (fun _ _ => rfl)) pe_int) (fun _ _ => rfl)))
      (pss_cons (ps_asg (pe_op op_modN (pe_callTy call_int1 (by rfl) T.z_int (by decide +kernel) (pa_cons (pe_op op_add (pe_op op_add (pe_op op_mulW (pe_ix ix_list (pv 0) pe_int (fun _ _ => rfl)) pe_int) (pv 3)) pe_int) pa_nil)) pe_int) (pg_sub (pv 0) pe_int set_list))
      (pss_cons (ps_if (pt_cmpR op_ge (pv 3) (pe_op op_pow pe_int pe_int) (nomark _))
        (pss_one (ps_asg (pe_op op_fdivW (pv 3) (pv 1)) (pg_sub (pv 0) pe_int set_list)))
        pss_nil)
      (pss_one (ps_ret (pe_op op_modN (pe_callTy call_int1 (by rfl) T.z_int (by decide +kernel) (pa_cons (pv 3) pa_nil)) (pv 1)))))))))), ?_⟩
    refine ⟨_, rfl, r, _, 3, _, rfl, rfl, sqL eR, rfl, _, _, rfl, rfl, _, rfl, ite2 (fun hk => ?_) (fun hk => ?_)⟩
    · -- found
      refine ⟨_, rfl, r, _, 3, _, rfl, rfl, sqL eR, rfl, .inl ⟨_, rfl, _, rfl, _, _, rfl, rfl, mne, ?_⟩⟩
      obtain ⟨v, hv, ev⟩ := fmod_nat (a := k) m0
      show gName 2 (V.int (k.fmod (m : Int))) _ H _
      rw [ev]
      refine ⟨_, rfl, r, _, 3, _, rfl, rfl, sqL eR, rfl, _, rfl, _, _, rfl, rfl, wd _, _, rfl, r, _, 3, 3, rfl, rfl, eR, rfl, ?_⟩
      exact ⟨_, rfl, q _ v (SameX.upd rfl) (D.put i0 j0 j1) hv⟩
    · refine ⟨_, rfl, r, _, 1, _, rfl, rfl, sqL eR, rfl, _, _, rfl, rfl, _, rfl, r, _, 1, 1, rfl, rfl, eR, rfl, ?_⟩
      have D1 : Drw K (upd H r (.lst [.ref sc, .int (i + 1), .int j, .int k])) r sc ns := D.put (by omega) j0 j1
      have s1 : Off r H (upd H r (.lst [.ref sc, .int (i + 1), .int j, .int k])) := SameX.upd rfl
      show tSeq _ _ _ _ (upd H r (.lst [.ref sc, .int (i + 1), .int j, .int k]))
      have eR1 : (upd H r (.lst [.ref sc, .int (i + 1), .int j, .int k])) r = some (.lst [.ref sc, .int (i + 1), .int j, .int k]) := upd_same
      generalize upd H r (.lst [.ref sc, .int (i + 1), .int j, .int k]) = H1 at D1 s1 eR1 ⊢
      have mulj : CMulW j 48271 := wide_mul (a := 32) (b := 32) (by omega) (by decide) (by decide) (by decide) (by decide)
      refine ⟨_, rfl, r, _, 1, _, rfl, rfl, sqL eR1, rfl, _, rfl, r, _, 0, _, rfl, rfl, sqL eR1, rfl, sc, _, rfl, .inl D1.s, _, _, rfl, rfl, _, rfl, ite2 (fun hk => ?_) (fun hk => ?_)⟩
      · refine ⟨_, rfl, r, _, 2, _, rfl, rfl, sqL eR1, rfl, _, _, rfl, rfl, mulj, _, _, rfl, rfl, .inl ⟨_, rfl, _, _, rfl, rfl, (by decide : (2147483647 : Int) ≠ 0), _, rfl, r, _, 2, 2, rfl, rfl, eR1, rfl, ?_⟩⟩
        obtain ⟨f0, f1⟩ := fmod_rng (j * 48271 + 11)
        have D2 : Drw K (upd H1 r (.lst [.ref sc, .int (i + 1), .int ((j * 48271 + 11).fmod 2147483647), .int k])) r sc ns := D1.put (by omega) f0 f1
        have s2 : Off r H (upd H1 r (.lst [.ref sc, .int (i + 1), .int ((j * 48271 + 11).fmod 2147483647), .int k])) := SameX.trans s1 (SameX.upd rfl)
        have eR2 : (upd H1 r (.lst [.ref sc, .int (i + 1), .int ((j * 48271 + 11).fmod 2147483647), .int k])) r = some (.lst [.ref sc, .int (i + 1), .int ((j * 48271 + 11).fmod 2147483647), .int k]) := upd_same
        refine ⟨_, rfl, r, _, 2, _, rfl, rfl, sqL eR2, rfl, _, _, rfl, rfl, wide_div (b := 64) (by decide) (by decide) (by decide) (by decide), .inl ⟨_, rfl, _, rfl, _, _, rfl, rfl, mne, ?_⟩⟩
        obtain ⟨v, hv, ev⟩ := fmod_nat (a := ((j * 48271 + 11).fmod 2147483647) / 7) m0
        exact (congrArg (fun z : Int => Q (V.int z) (upd H1 r (.lst [.ref sc, .int (i + 1), .int ((j * 48271 + 11).fmod 2147483647), .int k]))) ev).mpr (q _ v s2 D2 hv)
      · have hlt : i.toNat < ns.length := by
          rw [List.length_map] at hk
          have : ¬ ((ns.length : Int) < i + 1) := fun z => hk (decide_eq_true z)
          omega
        have ecell : atI (ns.map V.int) ((i + 1) - 1) = some (V.int ns[i.toNat]) := by
          rw [show (i + 1) - 1 = ((i.toNat : Nat) : Int) by omega]
          exact atI_nat (by rw [List.getElem?_map, List.getElem?_eq_getElem hlt]; rfl)
        refine ⟨_, rfl, r, _, 0, _, rfl, rfl, sqL eR1, rfl, _, rfl, r, _, 1, _, rfl, rfl, sqL eR1, rfl, _, _, rfl, rfl, sc, _, (i + 1) - 1, _, rfl, rfl, D1.s, ecell, ?_⟩
        generalize ns[i.toNat] = cell
        refine ⟨_, rfl, r, _, 2, _, rfl, rfl, sqL eR1, rfl, _, _, rfl, rfl, mulj, _, rfl, _, _, rfl, rfl, _, _, rfl, rfl, .inl ⟨_, rfl, _, _, rfl, rfl, (by decide : (2147483647 : Int) ≠ 0), _, rfl, r, _, 2, 2, rfl, rfl, eR1, rfl, ?_⟩⟩
        obtain ⟨f0, f1⟩ := fmod_rng (j * 48271 + cell + 11)
        have D2 : Drw K (upd H1 r (.lst [.ref sc, .int (i + 1), .int ((j * 48271 + cell + 11).fmod 2147483647), .int k])) r sc ns := D1.put (by omega) f0 f1
        have s2 : Off r H (upd H1 r (.lst [.ref sc, .int (i + 1), .int ((j * 48271 + cell + 11).fmod 2147483647), .int k])) := SameX.trans s1 (SameX.upd rfl)
        have eR2 : (upd H1 r (.lst [.ref sc, .int (i + 1), .int ((j * 48271 + cell + 11).fmod 2147483647), .int k])) r = some (.lst [.ref sc, .int (i + 1), .int ((j * 48271 + cell + 11).fmod 2147483647), .int k]) := upd_same
        refine ⟨_, rfl, _, _, rfl, rfl, ⟨by decide, by decide, by decide⟩, _, _, rfl, rfl, _, rfl, ite2 (fun hk => ?_) (fun hk => ?_)⟩
        · refine ⟨_, rfl, _, rfl, _, _, rfl, rfl, wd _, _, rfl, r, _, 3, 3, rfl, rfl, eR2, rfl, ?_⟩
          refine ⟨_, rfl, .inl ⟨_, rfl, _, rfl, _, _, rfl, rfl, mne, ?_⟩⟩
          obtain ⟨v, hv, ev⟩ := fmod_nat (a := cell) m0
          have hq := q _ v (SameX.trans s2 (SameX.upd (o := .lst [.ref sc, .int (i + 1), .int ((j * 48271 + cell + 11).fmod 2147483647), .int (cell / m)]) rfl)) (D2.put (by omega) f0 f1) hv
          rw [← ev] at hq
          exact hq
        · refine ⟨_, rfl, .inl ⟨_, rfl, _, rfl, _, _, rfl, rfl, mne, ?_⟩⟩
          obtain ⟨v, hv, ev⟩ := fmod_nat (a := cell) m0
          have hq := q _ v s2 D2 hv
          rw [← ev] at hq
          exact hq
theorem sc_law_pick : FnScope ["_law_row", "_law_things"] ["_law_row", "_law_things"] (defScope s_law_pick) := ⟨rfl, rfl, rfl, by decide +kernel, rfl, by decide +kernel, by decide +kernel⟩
/-- one of some ints -/
def sp_pick (K : PySem.W.Frag) : Sp := fun vs H Q _ => ∃ (r sc b : Addr) (ns ms : List Int), vs = [.ref r, .ref b] ∧ b ≠ r ∧ SqL K H b (ms.map V.int) ∧ 0 < ms.length ∧ ms.length < 1000 ∧ Drw K H r sc ns ∧ ∀ H' v, Off r H H' → Drw K H' r sc ns → v ∈ ms → Q (.int v) H'
theorem ok_law_pick (T : Txt K mg) : FnOk P w K mg base CX0 2 T.a_law_pick T.d_law_pick ["_law_row", "_law_things"] (sp_pick K) := by
  have G_law_taken : FnOk P w K mg base CX0 1 T.a_law_taken T.d_law_taken ["_law_row", "_law_many"] (sp_taken K) := ok_law_taken T
  refine T.F_law_pick.ok sc_law_pick (fun vs H Q E h => ?_) (fun cdv A outer s H vs Q E hr h => ?_)
  · obtain ⟨r, sc, b, ns, ms, rfl, _⟩ := h; rfl
  · obtain ⟨r, sc, b, ns, ms, rfl, hb, hB, l0, l1, D, q⟩ := h
    refine ⟨_, (pss_one (ps_ret (pe_ix ix_list (pv 1) (pe_call G_law_taken (hr.mono (by decide)) (by rfl) T.g_law_taken T.F_law_taken.kp T.b_law_taken .nil pass0 (pa_cons (pv 0) (pa_cons (pe_callB call_len_seq (by rfl) T.z_len (by decide +kernel) (pa_cons (pv 1) pa_nil)) pa_nil))) (fun _ _ => rfl)))), ?_⟩
    refine ⟨_, rfl, _, rfl, _, rfl, b, _, rfl, .inl hB, r, sc, ns, ms.length, congrArg (fun n : Nat => [V.ref r, V.int (n : Int)]) (List.length_map ..), l0, by omega, D, fun H' v s' D' hv => ?_⟩
    exact ⟨b, _, (v : Int), .int ms[v], rfl, rfl, s'.seqL hb hB, atI_nat (by rw [List.getElem?_map, List.getElem?_eq_getElem hv]; rfl), q H' _ s' D' (List.getElem_mem hv)⟩
theorem sc_law_whole : FnScope ["_law_value", "_law_least_here", "_law_most"] ["_law_value", "_law_least_here", "_law_most"] (defScope s_law_whole) := ⟨rfl, rfl, rfl, by decide +kernel, rfl, by decide +kernel, by decide +kernel⟩
def sp_whole : Sp := fun vs H Q _ => ∃ n lo hi : Int, vs = [.int n, .int lo, .int hi] ∧ lo ≤ n ∧ n ≤ hi ∧ Q (.bl true) H
theorem ok_law_whole (T : Txt K mg) : FnOk P w K mg base CX0 1 T.a_law_whole T.d_law_whole ["_law_value", "_law_least_here", "_law_most"] sp_whole := by
  refine T.F_law_whole.ok sc_law_whole (fun vs H Q E h => ?_) (fun cdv A outer s H vs Q E hr h => ?_)
  · obtain ⟨n, lo, hi, rfl, _⟩ := h; rfl
  · obtain ⟨n, lo, hi, rfl, h1, h2, q⟩ := h
    refine ⟨_, (pss_one (ps_ret (pe_and (pe_callB call_isi (by rfl) T.z_isinstance (by decide +kernel) (pa_cons (pv 0) (pa_cons (pe_bltn (v := .ty "int") (u := .type "int") (by rfl) T.z_int (by decide +kernel) rfl) pa_nil))) (pe_and (pe_not (pe_callB call_isi (by rfl) T.z_isinstance (by decide +kernel) (pa_cons (pv 0) (pa_cons (pe_bltn (v := .ty "bool") (u := .type "bool") (by rfl) T.z_bool (by decide +kernel) rfl) pa_nil)))) (pe_one (pe_chain op_le op_le (pv 1) (pv 0) (pv 2))))))), ?_⟩
    refine ⟨_, rfl, _, _, _, _, true, rfl, .ty "int", .base (.int n), kit_ty (by decide +kernel), true, rfl, iteT ?_⟩
    refine ⟨_, rfl, _, _, _, _, false, rfl, .ty "bool", .base (.int n), kit_ty (by decide +kernel), false, rfl, true, rfl, iteT ?_⟩
    refine ⟨_, rfl, _, rfl, _, _, rfl, rfl, true, congrArg V.bl (decide_eq_true h1), iteT ?_⟩
    refine ⟨_, rfl, _, _, rfl, rfl, ?_⟩
    show Q (V.bl (decide (n ≤ hi))) H
    rw [decide_eq_true h2]
    exact q
theorem sc_law_same : FnScope ["_law_one", "_law_other"] ["_law_one", "_law_other"] (defScope s_law_same) := ⟨rfl, rfl, rfl, by decide +kernel, rfl, by decide +kernel, by decide +kernel⟩
def sp_same (K : PySem.W.Frag) : Sp := fun vs H Q _ => ∃ (a b : V) (p r : Int × Int), vs = [a, b] ∧ At K H (ratD p) a ∧ At K H (ratD r) b ∧ CMulW p.1 r.2 ∧ CMulW r.1 p.2 ∧ p.1 * r.2 = r.1 * p.2 ∧ Q (.bl true) H
theorem at_ratD {H : Hp} {p : Int × Int} {v : V} (h : At K H (ratD p) v) : ∃ a, v = .ref a ∧ SqT K H a [.int p.1, .int p.2] := at_ints (ns := [p.1, p.2]) h
theorem ok_law_same (T : Txt K mg) : FnOk P w K mg base CX0 1 T.a_law_same T.d_law_same ["_law_one", "_law_other"] (sp_same K) := by
  refine T.F_law_same.ok sc_law_same (fun vs H Q E h => ?_) (fun cdv A outer s H vs Q E hr h => ?_)
  · obtain ⟨a, b, p, r, rfl, _⟩ := h; rfl
  · obtain ⟨a, b, p, r, rfl, hA, hB, m1, m2, e, q⟩ := h
    obtain ⟨a, rfl, gA⟩ := at_ratD hA
    obtain ⟨b, rfl, gB⟩ := at_ratD hB
    refine ⟨_, (pss_one (ps_ret (pe_cmpR op_eq (pe_op op_mulW (pe_ix ix_tup (pv 0) pe_int (fun _ _ => rfl)) (pe_ix ix_tup (pv 1) pe_int (fun _ _ => rfl))) (pe_op op_mulW (pe_ix ix_tup (pv 1) pe_int (fun _ _ => rfl)) (pe_ix ix_tup (pv 0) pe_int (fun _ _ => rfl))) (nomark _)))), ?_⟩
    refine ⟨_, rfl, a, _, 0, _, rfl, rfl, gA, rfl, _, rfl, b, _, 1, _, rfl, rfl, gB, rfl, _, _, rfl, rfl, m1, _, rfl, b, _, 0, _, rfl, rfl, gB, rfl, _, rfl, a, _, 1, _, rfl, rfl, gA, rfl, _, _, rfl, rfl, m2, rfl, ?_⟩
    show Q (V.bl (decide (V.int (p.1 * r.2) = V.int (r.1 * p.2)))) H
    rw [decide_eq_true (congrArg V.int e)]
    exact q
theorem sc_law_below : FnScope ["_law_one", "_law_other"] ["_law_one", "_law_other"] (defScope s_law_below) := ⟨rfl, rfl, rfl, by decide +kernel, rfl, by decide +kernel, by decide +kernel⟩
def sp_below (K : PySem.W.Frag) : Sp := fun vs H Q _ => ∃ (a b : V) (p r : Int × Int), vs = [a, b] ∧ At K H (ratD p) a ∧ At K H (ratD r) b ∧ CMulW p.1 r.2 ∧ CMulW r.1 p.2 ∧ p.1 * r.2 ≤ r.1 * p.2 ∧ Q (.bl true) H
theorem ok_law_below (T : Txt K mg) : FnOk P w K mg base CX0 1 T.a_law_below T.d_law_below ["_law_one", "_law_other"] (sp_below K) := by
  refine T.F_law_below.ok sc_law_below (fun vs H Q E h => ?_) (fun cdv A outer s H vs Q E hr h => ?_)
  · obtain ⟨a, b, p, r, rfl, _⟩ := h; rfl
  · obtain ⟨a, b, p, r, rfl, hA, hB, m1, m2, e, q⟩ := h
    obtain ⟨a, rfl, gA⟩ := at_ratD hA
    obtain ⟨b, rfl, gB⟩ := at_ratD hB
    refine ⟨_, (pss_one (ps_ret (pe_cmpR op_le (pe_op op_mulW (pe_ix ix_tup (pv 0) pe_int (fun _ _ => rfl)) (pe_ix ix_tup (pv 1) pe_int (fun _ _ => rfl))) (pe_op op_mulW (pe_ix ix_tup (pv 1) pe_int (fun _ _ => rfl)) (pe_ix ix_tup (pv 0) pe_int (fun _ _ => rfl))) (nomark _)))), ?_⟩
    refine ⟨_, rfl, a, _, 0, _, rfl, rfl, gA, rfl, _, rfl, b, _, 1, _, rfl, rfl, gB, rfl, _, _, rfl, rfl, m1, _, rfl, b, _, 0, _, rfl, rfl, gB, rfl, _, rfl, a, _, 1, _, rfl, rfl, gA, rfl, _, _, rfl, rfl, m2, _, _, rfl, rfl, ?_⟩
    show Q (V.bl (decide (p.1 * r.2 ≤ r.1 * p.2))) H
    rw [decide_eq_true e]
    exact q
end
end KV
namespace KV
open PySem PySem.Spec PyProof.Rows L2
section
variable {K : PySem.W.Frag} {H H' H1 : Hp} {r sc : Addr} {ns : List Int}
theorem off_put {D : Addr} {o : HO} (s : Off r H H1) (h : H D = none) : Off r H (upd H1 D o) := fun b u e n => by
  rw [upd_ne (ne_of_none e h)]
  exact s b u e n
theorem Off.refl (r : Addr) (H : Hp) : Off r H H := fun _ _ e _ => e
theorem Off.trans {H2 : Hp} (a : Off r H H1) (b : Off r H1 H2) : Off r H H2 := SameX.trans a b
theorem Off.then {H2 : Hp} (a : Off r H H1) (b : Same H1 H2) : Off r H H2 := SameX.trans a (Same.toX b)
theorem same_off (s : Same H H1) : Off r H H1 := Same.toX s
/-- the draws go on after a write to what is new -/
theorem Drw.upd (D0 : Drw K H r sc ns) (s : Off r H H1) (d : Drw K H1 r sc ns) {D : Addr} {o : HO} (n : H D = none) : Drw K (upd H1 D o) r sc ns := by
  obtain ⟨i, j, k, h1, h2, h3, h⟩ := d.row
  exact ⟨D0.ne, Off.seqS (off_put s n) D0.ne D0.s, i, j, k, h1, h2, h3, by rw [upd_ne (D0.ne_none n).symm]; exact h⟩
theorem DL.offX {D : Addr} {ds : List Dat} (d : Drw K H r sc ns) (s : Off r H H') (n : D ≠ r) (h : DL K H D ds) : DL K H' D ds := let ⟨vs, e, a⟩ := h; ⟨vs, s _ _ e n, Ats.same (d.toT s) a⟩
end
section
variable {P : Program} {w : World} {K : PySem.W.Frag} {mg : Str → Option Value} {base : Heap}
theorem flat_rows (z j : Nat) : ∀ l : List (List Nat), (l.flatMap fun r => (List.range z).map fun v => r ++ [v]).length = l.length * z := by
  intro l
  induction l with
  | nil => simp
  | cons a l ih => rw [List.flatMap_cons, List.length_append, ih, List.length_map, List.length_range, List.length_cons, Nat.succ_mul]; omega
theorem sc_law_rows : FnScope ["_law_size", "_law_arity", "_law_found", "_law_turn", "_law_more", "_law_told", "_law_value"] ["_law_size", "_law_arity"] (defScope s_law_rows) := ⟨rfl, rfl, rfl, by decide +kernel, rfl, by decide +kernel, by decide +kernel⟩
theorem ok_law_rows (T : Txt K mg) : FnOk P w K mg base CX0 1 T.a_law_rows T.d_law_rows ["_law_size", "_law_arity"] (sp_all_rows K) := by
  refine T.F_law_rows.ok sc_law_rows (fun vs H Q E h => ?_) (fun cdv A outer s H vs Q E hr h => ?_)
  · obtain ⟨z, k, rfl, _⟩ := h; rfl
  · obtain ⟨z, k, rfl, hz, hk, q⟩ := h
    refine ⟨_, (pss_cons (ps_set (i := 2) sc_law_rows.nd rfl (Or.inl rfl) (pe_lst (pa_cons (pe_tup pa_nil) pa_nil)))
      (pss_cons (ps_for PassesOwn.never rfl (pi_range1 (by rfl) T.z_range (pa_cons (pv 1) pa_nil)) (pg_name (i := 3) sc_law_rows.nd rfl (Or.inl rfl))
        (pss_cons (ps_set (i := 4) sc_law_rows.nd rfl (Or.inl rfl) (pe_lst pa_nil))
          (pss_cons (ps_for PassesOwn.never rfl (pi_list (pv 2)) (pg_name (i := 5) sc_law_rows.nd rfl (Or.inr rfl))
            (pss_one (ps_set (i := 4) sc_law_rows.nd rfl (Or.inl rfl) (pe_op op_cat (pv 4) (pe_lc (own := [("_law_value", 6)]) (by rfl) sc_law_rows.nd (pi_range1 (by rfl) T.z_range (pa_cons (pv 0) pa_nil)) (blkOk_by (own := [("_law_value", 6)]) (N := ["_law_size", "_law_arity", "_law_found", "_law_turn", "_law_more", "_law_told", "_law_value"]) (sc := defScope s_law_rows) (by decide +kernel)) (fun _ _ _ _ _ => (pg_name (i := 6) sc_law_rows.nd rfl (Or.inl rfl))) (fun _ _ _ _ _ => pts_nil) (fun _ _ _ _ _ => (pe_op (kop_catA K rfl) (pv 5) (pe_tup (pa_cons (pv 6) pa_nil)))))))))
          (pss_one (ps_set (i := 2) sc_law_rows.nd rfl (Or.inl rfl) (pv 4))))))
      (pss_one (ps_ret (pv 2))))), ?_⟩
    refine ⟨Nat.zero_le _, fun t0 n0 => ⟨szl' (by show 1 ≤ 1000000; decide), fun l0 m0 => ?_⟩⟩
    have s0 : Same H (upd H t0 (.tup [])) := same_upd n0
    have s1 : Same (upd H t0 (.tup [])) (upd (upd H t0 (.tup [])) l0 (.lst [.ref t0])) := same_upd m0
    refine ⟨_, rfl, (k : Int), rfl, by omega, by omega, for_it (walk_rg (n := k)) (fun i σ H1 => ∃ (l : Addr) (v3 v4 v5 : Option V), σ = [some (.int z), some (.int k), some (.ref l), v3, v4, v5, none] ∧ Same H H1 ∧ H l = none ∧ DL K H1 l ((Lp.rowsN z i).map rowD)) ⟨l0, none, none, none, rfl, s0.trans s1, s0.free m0, [.ref t0], upd_same, ⟨_, _, rfl, ⟨t0, [], rfl, sqT (s1 _ _ upd_same), rfl⟩, rfl⟩⟩ (fun _ _ _ _ _ => trivial) ?_ ?_⟩
    · rintro i x σ H1 H1' hi ⟨l, v3, v4, v5, rfl, sm, nl, hL⟩ ⟨rfl, rfl⟩
      have b1 : z ^ i ≤ 3 ^ 4 := Nat.le_trans (Nat.pow_le_pow_left hz i) (Nat.pow_le_pow_right (by decide) (by omega))
      refine ⟨Nat.zero_le _, fun m nm => ?_⟩
      have sM : Same H1' (upd H1' m (.lst [])) := same_upd nm
      obtain ⟨lvs, el, hla⟩ := hL
      have hll : lvs.length = (Lp.rowsN z i).length := by rw [hla.length, List.length_map]
      refine ⟨_, rfl, l, rfl, ⟨_, sqL (sM _ _ el)⟩, ?_⟩
      refine for_it walk_list (fun j σ H2 => ∃ (M : Addr) (v5 : Option V), σ = [some (.int z), some (.int k), some (.ref l), some (.int (i : Nat)), some (.ref M), v5, none] ∧ Same H1' H2 ∧ H1' M = none ∧ DL K H2 M ((((Lp.rowsN z i).take j).flatMap (fun r => (List.range z).map fun v => r ++ [v])).map rowD)) ⟨m, v5, rfl, sM, nm, [], upd_same, rfl⟩ (fun j σ H2 _ ⟨_, _, _, s2, _⟩ => sqL (s2 _ _ el)) ?_ ?_
      · rintro j x σ H2 H2' hj ⟨M, v5, rfl, s2, nM, hM⟩ ⟨rfl, hxj⟩
        obtain ⟨dd, hd, hdx⟩ := hla.item hxj
        rw [List.getElem?_map] at hd
        obtain ⟨r, hr', rfl⟩ := Option.map_eq_some_iff.mp hd
        obtain ⟨ra, rfl, hra⟩ := at_row (At.same (Same.toT s2) hdx)
        have hrl : r.length = i := rowsN_elt z i r (List.mem_of_getElem? hr')
        obtain ⟨mvs, eM, hMa⟩ := id hM
        refine ⟨_, rfl, _, rfl, (z : Int), rfl, by omega, by omega, fun D hD => ?_⟩
        refine lc_it (walk_rg (n := z)) (fun v H3 => Same H2' H3 ∧ DL K H3 D ((List.range v).map fun v => rowD (r ++ [v]))) ⟨same_upd hD, [], upd_same, rfl⟩ (fun _ _ _ _ => trivial) ?_ ?_
        · rintro v x H3 H3' hv ⟨s3, hD3⟩ ⟨rfl, rfl⟩
          obtain ⟨vs3, e3, _⟩ := id hD3
          have l3 : vs3.length ≤ 1000000 := by rw [hD3.len e3, List.length_map, List.length_range]; have : v < z := hv; omega
          refine ⟨rfl, _, rfl, _, rfl, szl' (by show 1 ≤ 1000000; decide), fun t nt => ?_⟩
          have st : Same H3' (L2.upd H3' t (.tup [.int (v : Nat)])) := same_upd nt
          refine ⟨ra, t, _, _, rfl, rfl, (Same.toT (s3.trans st)).seq hra, sqT upd_same, ?_, fun e => ?_, fun _ e => (by cases e), fun _ _ p hp => ?_⟩
          · rw [List.length_map, hrl]; exact szl' (by show i + 1 ≤ _; omega)
          · have er : r = [] := by simpa using e
            subst er
            refine ⟨vs3, st _ _ e3, szl l3, same_put (s3.trans st) hD, ?_⟩
            rw [List.range_succ, List.map_append]
            exact (hD3.same st).push (st _ _ e3) (at_row_mk (sqT upd_same))
          · have sp : Same H3' (L2.upd (L2.upd H3' t (.tup [.int (v : Nat)])) p (.tup ((r.map fun x : Nat => V.int (x : Int)) ++ [.int (v : Nat)]))) := st.trans (same_upd hp)
            refine ⟨vs3, sp _ _ e3, szl l3, same_put (s3.trans sp) hD, ?_⟩
            rw [List.range_succ, List.map_append]
            refine (hD3.same sp).push (sp _ _ e3) (at_row_mk (sqT ?_))
            rw [upd_same, List.map_append]; rfl
        · rintro H3 ⟨s3, vs3, e3, ha3⟩
          refine ⟨M, D, mvs, vs3, rfl, rfl, s3 _ _ eM, e3, ?_, fun p hp => ?_⟩
          · have h1 := hM.len eM
            have h2 := ha3.length
            rw [List.length_map, List.length_range] at h2
            rw [List.length_map, flat_rows z j, List.length_take] at h1
            have h5 : min j (Lp.rowsN z i).length * z ≤ 81 * 3 := Nat.mul_le_mul (by rw [rowsN_len]; omega) hz
            exact szl' (by omega)
          · have sp : Same H3 (L2.upd H3 p (.lst (mvs ++ vs3))) := same_upd hp
            refine ⟨p, some (.ref ra), rfl, (s2.trans s3).trans sp, (s2.trans s3).free hp, mvs ++ vs3, upd_same, ?_⟩
            have er : ((some r).toList.flatMap fun r => (List.range z).map fun v => r ++ [v]).map rowD = (List.range z).map fun v => rowD (r ++ [v]) := by simp [Function.comp_def]
            rw [List.take_add_one, hr', List.flatMap_append, List.map_append, er]
            exact Ats.append (Ats.same (Same.toT (s3.trans sp)) hMa) (Ats.same (Same.toT sp) ha3)
      · rintro σ H2 ⟨M, v5, rfl, s2, nM, hM⟩
        refine ⟨_, rfl, ?_⟩
        refine ⟨M, _, _, v5, rfl, sm.trans s2, sm.free nM, ?_⟩
        rw [List.take_of_length_le (by omega)] at hM
        exact hM
    · rintro σ H1 ⟨l, v3, v4, v5, rfl, sm, nl, lvs, el, hla⟩
      exact ⟨_, rfl, q H1 l lvs sm nl el hla⟩
theorem sc_law_costs : FnScope ["_law_row", "_law_size", "_law_many", "_law_most", "_law_found", "_law_turn", "_law_arity", "_law_told"] ["_law_row", "_law_size", "_law_many", "_law_most"] (defScope s_law_costs) := ⟨rfl, rfl, rfl, by decide +kernel, rfl, by decide +kernel, by decide +kernel⟩
def sp_costs (K : PySem.W.Frag) : Sp := fun vs H Q _ => ∃ (r sc : Addr) (ns : List Int) (z m c : Nat), vs = [.ref r, .int z, .int m, .int c] ∧ z ≤ 3 ∧ 0 < m ∧ m ≤ 3 ∧ 0 < c ∧ c ≤ 1001 ∧ Drw K H r sc ns ∧
  ∀ H' v (fns : List (Nat × List Int)), Off r H H' → Drw K H' r sc ns → At K H' (.t [.i z, .t (fns.map fnD)]) v → 0 < fns.length → fns.length ≤ 4 → (∀ f, f ∈ fns → (f.1 = 1 ∨ f.1 = 2) ∧ f.2.length = z ^ f.1 ∧ ∀ c, c ∈ f.2 → 0 ≤ c ∧ c ≤ 1000) → Q v H'
theorem ok_law_costs (T : Txt K mg) : FnOk P w K mg base CX0 2 T.a_law_costs T.d_law_costs ["_law_row", "_law_size", "_law_many", "_law_most"] (sp_costs K) := by
  have G_law_taken : FnOk P w K mg base CX0 1 T.a_law_taken T.d_law_taken ["_law_row", "_law_many"] (sp_taken K) := ok_law_taken T
  have G_law_rows : FnOk P w K mg base CX0 1 T.a_law_rows T.d_law_rows ["_law_size", "_law_arity"] (sp_all_rows K) := ok_law_rows T
  refine T.F_law_costs.ok sc_law_costs (fun vs H Q E h => ?_) (fun cdv A outer s H vs Q E hr h => ?_)
  · obtain ⟨r, sc, ns, z, m, c, rfl, _⟩ := h; rfl
  · obtain ⟨r, sc, ns, z, m, c, rfl, hz, m0, m3, c0, c1, D0, q⟩ := h
    refine ⟨_, (pss_cons (ps_set (i := 4) sc_law_costs.nd rfl (Or.inl rfl) (pe_lst pa_nil))
      (pss_cons (ps_for PassesOwn.never rfl (pi_range1 (by rfl) T.z_range (pa_cons (pe_op op_add pe_int (pe_call G_law_taken (hr.mono (by decide)) (by rfl) T.g_law_taken T.F_law_taken.kp T.b_law_taken .nil pass0 (pa_cons (pv 0) (pa_cons (pv 2) pa_nil)))) pa_nil)) (pg_name (i := 5) sc_law_costs.nd rfl (Or.inl rfl))
        (pss_cons (ps_set (i := 6) sc_law_costs.nd rfl (Or.inl rfl) (pe_op op_add pe_int (pe_call G_law_taken (hr.mono (by decide)) (by rfl) T.g_law_taken T.F_law_taken.kp T.b_law_taken .nil pass0 (pa_cons (pv 0) (pa_cons pe_int pa_nil)))))
          (pss_one (ps_expr (pe_bm PySem.F.plainAttrs_list PySem.F.slot_list_append PySem.F.type_list_append mt_append (pv 4) (pa_cons (pe_tup (pa_cons (pv 6) (pa_cons (pe_callTy call_tuple_of (by rfl) T.z_tuple (by decide +kernel) (pa_cons (pe_lc (own := [("_law_told", 7)]) (by rfl) sc_law_costs.nd (pi_list (pe_call G_law_rows (hr.mono (by decide)) (by rfl) T.g_law_rows T.F_law_rows.kp T.b_law_rows .nil pass0 (pa_cons (pv 1) (pa_cons (pv 6) pa_nil)))) (blkOk_by (own := [("_law_told", 7)]) (N := ["_law_row", "_law_size", "_law_many", "_law_most", "_law_found", "_law_turn", "_law_arity", "_law_told"]) (sc := defScope s_law_costs) (by decide +kernel)) (fun _ _ _ _ _ => (pg_name (i := 7) sc_law_costs.nd rfl (Or.inl rfl))) (fun _ _ _ _ _ => pts_nil) (fun _ _ _ _ _ => (pe_call G_law_taken (hr.mono (by decide)) (by rfl) T.g_law_taken T.F_law_taken.kp T.b_law_taken .nil pass0 (pa_cons (pv 0) (pa_cons (pv 3) pa_nil))))) pa_nil)) pa_nil))) pa_nil))))))
      (pss_one (ps_ret (pe_tup (pa_cons (pv 1) (pa_cons (pe_callTy call_tuple_of (by rfl) T.z_tuple (by decide +kernel) (pa_cons (pv 4) pa_nil)) pa_nil))))))), ?_⟩
    refine ⟨Nat.zero_le _, fun F nF => ?_⟩
    have sF : Same H (upd H F (.lst [])) := same_upd nF
    have DF : Drw K (upd H F (.lst [])) r sc ns := D0.same sF
    have nFr : F ≠ r := D0.ne_none nF
    refine ⟨_, rfl, _, rfl, r, sc, ns, m, rfl, m0, by omega, DF, fun H1 v1 o1 D1 hv1 => ⟨_, _, rfl, rfl, ((1 + v1 : Nat) : Int), ?_, by omega, by omega, ?_⟩⟩
    · rw [Int.natCast_add]; rfl
    have O1 : Off r H H1 := Off.trans (same_off sF) o1
    have eF1 : H1 F = some (.lst []) := o1 _ _ upd_same nFr
    refine for_it (walk_rg (n := 1 + v1)) (fun i σ Hi => (∃ v5 v6 : Option V, σ = [some (.ref r), some (.int z), some (.int m), some (.int c), some (.ref F), v5, v6, none]) ∧ Off r H Hi ∧ Drw K Hi r sc ns ∧ ∃ fns : List (Nat × List Int), DL K Hi F (fns.map fnD) ∧ fns.length = i ∧ ∀ f, f ∈ fns → (f.1 = 1 ∨ f.1 = 2) ∧ f.2.length = z ^ f.1 ∧ ∀ c, c ∈ f.2 → 0 ≤ c ∧ c ≤ 1000)
      ⟨⟨none, none, rfl⟩, O1, D1, [], ⟨[], eF1, rfl⟩, rfl, fun f h => by cases h⟩ (fun _ _ _ _ _ => trivial) ?_ ?_
    · rintro i x σ Hi Hi' hi ⟨⟨v5, v6, rfl⟩, Oi, Di, fns, hDL, hfl, hf⟩ ⟨rfl, rfl⟩
      -- arity
      refine ⟨_, rfl, r, sc, ns, 2, rfl, by decide, by decide, Di, fun H2 v2 o2 D2 hv2 => ⟨_, _, rfl, rfl, ?_⟩⟩
      obtain ⟨a, ha⟩ : ∃ a : Nat, a = 1 + v2 := ⟨_, rfl⟩
      have ea : (1 : Int) + (v2 : Int) = (a : Int) := by rw [ha, Int.natCast_add]; rfl
      show tSeq _ _ _ (List.set _ 6 (some (V.int ((1 : Int) + (v2 : Int))))) H2
      rw [ea]
      have hDL2 := hDL.offX Di o2 nFr
      obtain ⟨fvs, eF, hfa⟩ := id hDL2
      have Oi2 : Off r H H2 := Oi.trans o2
      refine ⟨_, rfl, .inl ⟨rfl, _, sqL eF⟩, ?_⟩
      refine ⟨_, rfl, _, rfl, _, rfl, z, a, rfl, hz, by omega, fun H3 l lvs s3 nl el hla => ?_⟩
      have hll : lvs.length = z ^ a := by rw [hla.length, List.length_map, rowsN_len]
      have D3 := D2.same s3
      have nlr : l ≠ r := D2.ne_none nl
      have zb : z ^ a ≤ 3 ^ 2 := Nat.le_trans (Nat.pow_le_pow_left hz a) (Nat.pow_le_pow_right (by decide) (by omega))
      refine ⟨l, rfl, ⟨_, sqL el⟩, fun D hD => ?_⟩
      have nDr : D ≠ r := D3.ne_none hD
      refine lc_it walk_list (fun j Hj => Off r H3 Hj ∧ Drw K Hj r sc ns ∧ ∃ cs : List Int, Hj D = some (.lst (cs.map V.int)) ∧ cs.length = j ∧ ∀ c, c ∈ cs → 0 ≤ c ∧ c ≤ 1000)
        ⟨same_off (same_upd hD), D3.same (same_upd hD), [], upd_same, rfl, fun c h => by cases h⟩ (fun j Hj _ h => h.1.seqL nlr (sqL el)) ?_ ?_
      · rintro j x Hj Hj' hj ⟨oj, Dj, cs, eD, hcl, hcs⟩ ⟨rfl, hxj⟩
        refine ⟨rfl, _, rfl, _, rfl, r, sc, ns, c, rfl, c0, by omega, Dj, fun H5 v5 o5 D5 hv5 => ?_⟩
        have eD5 := o5 _ _ eD nDr
        refine ⟨_, eD5, szl (by rw [List.length_map]; omega), off_put (Off.trans oj o5) hD, D3.upd (Off.trans oj o5) D5 hD, cs ++ [(v5 : Int)], ?_, ?_, ?_⟩
        · rw [upd_same, List.map_append]; rfl
        · rw [List.length_append, hcl]; rfl
        · intro y hy
          rcases List.mem_append.mp hy with h | h
          · exact hcs y h
          · have : y = (v5 : Int) := by simpa using h
            omega
      · rintro H5 ⟨o5, D5, cs, eD, hcl, hcs⟩
        refine ⟨D, _, rfl, .inl ⟨sqL eD, fun t nt => ?_⟩⟩
        have st : Same H5 (L2.upd H5 t (.tup (cs.map V.int))) := same_upd nt
        refine ⟨szl' (by show 2 ≤ 1000000; decide), fun u nu => ?_⟩
        have su : Same (L2.upd H5 t (.tup (cs.map V.int))) (L2.upd (L2.upd H5 t (.tup (cs.map V.int))) u (.tup [.int a, .ref t])) := same_upd nu
        have O35 : Off r H2 (L2.upd (L2.upd H5 t (.tup (cs.map V.int))) u (.tup [.int a, .ref t])) := (Off.trans (same_off s3) o5).then (st.trans su)
        have eFu := O35 _ _ eF nFr
        refine ⟨F, _, _, rfl, rfl, eFu, szl (by rw [hDL2.len eF, List.length_map]; omega), ?_⟩
        have DU : Drw K (L2.upd (L2.upd H5 t (.tup (cs.map V.int))) u (.tup [.int a, .ref t])) r sc ns := D5.same (st.trans su)
        refine ⟨⟨_, _, rfl⟩, off_put (Oi2.trans O35) nF, D0.upd (Oi2.trans O35) DU nF, fns ++ [(a, cs)], ?_, ?_, ?_⟩
        · rw [List.map_append]
          refine (hDL2.offX D2 O35 nFr).push eFu ?_
          exact at_mk (sqT upd_same) ⟨_, _, rfl, rfl, _, _, rfl, at_mk (sqT (su _ _ upd_same)) (Ats.ints cs), rfl⟩
        · rw [List.length_append, hfl]; rfl
        · intro f hf'
          rcases List.mem_append.mp hf' with h | h
          · exact hf f h
          · have e : f = (a, cs) := by simpa using h
            rw [e]
            exact ⟨by show a = 1 ∨ a = 2; omega, by show cs.length = z ^ a; rw [hcl, hll], hcs⟩
    · rintro σ H2 ⟨⟨v5, v6, rfl⟩, O2, D2, fns, ⟨fvs, eF, hfa⟩, hfl, hf⟩
      refine ⟨_, rfl, _, rfl, F, _, rfl, .inl ⟨sqL eF, fun t nt => ?_⟩⟩
      have st : Same H2 (L2.upd H2 t (.tup fvs)) := same_upd nt
      refine ⟨szl' (by show 2 ≤ 1000000; decide), fun u nu => ?_⟩
      have su : Same (L2.upd H2 t (.tup fvs)) (L2.upd (L2.upd H2 t (.tup fvs)) u (.tup [.int z, .ref t])) := same_upd nu
      refine q _ _ fns (O2.then (st.trans su)) (D2.same (st.trans su)) ?_ (by omega) (by omega) hf
      exact at_mk (sqT upd_same) ⟨_, _, rfl, rfl, _, _, rfl, at_mk (sqT (su _ _ upd_same)) (Ats.same (Same.toT (st.trans su)) hfa), rfl⟩
end
end KV
namespace KV
open PySem PySem.Spec PyProof.Rows L2
section
variable {P : Program} {w : World} {K : PySem.W.Frag} {mg : Str → Option Value} {base : Heap}
def TermOk (fns : List (Nat × List Int)) (n : Nat) (t : Lp.Trm) : Prop := t.which < fns.length ∧ t.scope.length = (fns.getD t.which (0, [])).1 ∧ (∀ x, x ∈ t.scope → x < n) ∧ 1 ≤ t.w ∧ t.w ≤ 1000
theorem sc_law_terms : FnScope ["_law_row", "_law_costs_here", "_law_variables", "_law_most", "_law_weight", "_law_found", "_law_turn", "_law_which", "_law_scope", "_law_place"] ["_law_row", "_law_costs_here", "_law_variables", "_law_most", "_law_weight"] (defScope s_law_terms) := ⟨rfl, rfl, rfl, by decide +kernel, rfl, by decide +kernel, by decide +kernel⟩
def sp_terms (K : PySem.W.Frag) : Sp := fun vs H Q _ => ∃ (r sc : Addr) (ns : List Int) (cv : V) (z n wt : Nat) (fns : List (Nat × List Int)), vs = [.ref r, cv, .int n, .int 5, .int wt] ∧ At K H (.t [.i z, .t (fns.map fnD)]) cv ∧ 0 < fns.length ∧ fns.length ≤ 4 ∧ (∀ f, f ∈ fns → f.1 = 1 ∨ f.1 = 2) ∧ n ≤ 4 ∧ 0 < wt ∧ wt ≤ 1000 ∧ Drw K H r sc ns ∧
  ∀ H' v (terms : List Lp.Trm), Off r H H' → Drw K H' r sc ns → At K H' (.t [.i n, .t (terms.map trmD)]) v → terms.length ≤ 5 → (∀ t, t ∈ terms → TermOk fns n t) → Q v H'
theorem ok_law_terms (T : Txt K mg) : FnOk P w K mg base CX0 2 T.a_law_terms T.d_law_terms ["_law_row", "_law_costs_here", "_law_variables", "_law_most", "_law_weight"] (sp_terms K) := by
  have G_law_taken : FnOk P w K mg base CX0 1 T.a_law_taken T.d_law_taken ["_law_row", "_law_many"] (sp_taken K) := ok_law_taken T
  refine T.F_law_terms.ok sc_law_terms (fun vs H Q E h => ?_) (fun cdv A outer s H vs Q E hr h => ?_)
  · obtain ⟨r, sc, ns, cv, z, n, wt, fns, rfl, _⟩ := h; rfl
  · obtain ⟨r, sc, ns, cv, z, n, wt, fns, rfl, hC, f0, f4, hf, hn, w0, w1, D0, q⟩ := h
    obtain ⟨ca, cs, rfl, hcT, hcl, _, hci⟩ := hC.ix
    obtain ⟨u1, e1, h1⟩ := hci 1 _ rfl
    obtain ⟨b, fs, rfl, hb, hfl, hfs, _⟩ := h1.ix
    rw [List.length_map] at hfl
    refine ⟨_, (pss_cons (ps_set (i := 5) sc_law_terms.nd rfl (Or.inl rfl) (pe_lst pa_nil))
      (pss_cons (ps_if (pt_cmpR op_gt (pv 2) pe_int (nomark _))
        (pss_one (ps_for PassesOwn.never rfl (pi_range1 (by rfl) T.z_range (pa_cons (pe_call G_law_taken (hr.mono (by decide)) (by rfl) T.g_law_taken T.F_law_taken.kp T.b_law_taken .nil pass0 (pa_cons (pv 0) (pa_cons (pe_op op_add (pv 3) pe_int) pa_nil))) pa_nil)) (pg_name (i := 6) sc_law_terms.nd rfl (Or.inl rfl))
            (pss_cons (ps_set (i := 7) sc_law_terms.nd rfl (Or.inl rfl) (pe_call G_law_taken (hr.mono (by decide)) (by rfl) T.g_law_taken T.F_law_taken.kp T.b_law_taken .nil pass0 (pa_cons (pv 0) (pa_cons (pe_callB call_len_seq (by rfl) T.z_len (by decide +kernel) (pa_cons (pe_ix ix_tup (pv 1) pe_int (fun _ _ => rfl)) pa_nil)) pa_nil))))
              (pss_cons (ps_set (i := 8) sc_law_terms.nd rfl (Or.inl rfl) (pe_callTy call_tuple_of (by rfl) T.z_tuple (by decide +kernel) (pa_cons (pe_lc (own := [("_law_place", 9)]) (by rfl) sc_law_terms.nd (pi_range1 (by rfl) T.z_range (pa_cons (pe_ix ix_tup (pe_ix ix_tup (pe_ix ix_tup (pv 1) pe_int (fun _ _ => rfl)) (pv 7) (fun _ _ => rfl)) pe_int (fun _ _ => rfl)) pa_nil)) (blkOk_by (own := [("_law_place", 9)]) (N := ["_law_row", "_law_costs_here", "_law_variables", "_law_most", "_law_weight", "_law_found", "_law_turn", "_law_which", "_law_scope", "_law_place"]) (sc := defScope s_law_terms) (by decide +kernel)) (fun _ _ _ _ _ => (pg_name (i := 9) sc_law_terms.nd rfl (Or.inl rfl))) (fun _ _ _ _ _ => pts_nil) (fun _ _ _ _ _ => (pe_call G_law_taken (hr.mono (by decide)) (by rfl) T.g_law_taken T.F_law_taken.kp T.b_law_taken .nil pass0 (pa_cons (pv 0) (pa_cons (pv 2) pa_nil))))) pa_nil)))
              (pss_one (ps_expr (pe_bm PySem.F.plainAttrs_list PySem.F.slot_list_append PySem.F.type_list_append mt_append (pv 5) (pa_cons (pe_tup (pa_cons (pv 7) (pa_cons (pv 8) (pa_cons (pe_op op_add pe_int (pe_call G_law_taken (hr.mono (by decide)) (by rfl) T.g_law_taken T.F_law_taken.kp T.b_law_taken .nil pass0 (pa_cons (pv 0) (pa_cons (pv 4) pa_nil)))) pa_nil)))) pa_nil))))))))
        pss_nil)
      (pss_one (ps_ret (pe_tup (pa_cons (pv 2) (pa_cons (pe_callTy call_tuple_of (by rfl) T.z_tuple (by decide +kernel) (pa_cons (pv 5) pa_nil)) pa_nil))))))), ?_⟩
    refine ⟨Nat.zero_le _, fun F nF => ?_⟩
    have sF : Same H (L2.upd H F (.lst [])) := same_upd nF
    have DF : Drw K (L2.upd H F (.lst [])) r sc ns := D0.same sF
    have nFr : F ≠ r := D0.ne_none nF
    refine ⟨_, rfl, _, _, rfl, rfl, _, rfl, ite2 (fun e => ?_) (fun e => ?_)⟩
    · have n0 : 0 < n := by
        have : (0 : Int) < (n : Int) := of_decide_eq_true e
        omega
      refine ⟨_, rfl, _, rfl, _, _, rfl, rfl, r, sc, ns, 6, rfl, by decide, by decide, DF, fun H1 v1 o1 D1 hv1 => ⟨(v1 : Int), rfl, by omega, by omega, ?_⟩⟩
      have O1 : Off r H H1 := Off.trans (same_off sF) o1
      have eF1 : H1 F = some (.lst []) := o1 _ _ upd_same nFr
      refine for_it (walk_rg (n := v1)) (fun i σ Hi => (∃ v6 v7 v8 : Option V, σ = [some (.ref r), some (.ref ca), some (.int n), some (.int 5), some (.int wt), some (.ref F), v6, v7, v8, none]) ∧ Off r H Hi ∧ Drw K Hi r sc ns ∧ ∃ terms : List Lp.Trm, DL K Hi F (terms.map trmD) ∧ terms.length = i ∧ ∀ t, t ∈ terms → TermOk fns n t)
        ⟨⟨none, none, none, rfl⟩, O1, D1, [], ⟨[], eF1, rfl⟩, rfl, fun f h => by cases h⟩ (fun _ _ _ _ _ => trivial) ?_ ?_
      · rintro i x σ Hi Hi' hi ⟨⟨v6, v7, v8, rfl⟩, Oi, Di, terms, hDL, htl, ht⟩ ⟨rfl, rfl⟩
        -- which
        have T0 : SameT H Hi' := D0.toT Oi
        refine ⟨_, rfl, _, rfl, _, _, 1, _, rfl, rfl, T0.seq hcT, e1, b, fs, rfl, .inr (T0.seq hb), r, sc, ns, fns.length, congrArg (fun n : Nat => [V.ref r, V.int (n : Int)]) hfl, f0, by omega, Di, fun H2 wh o2 D2 hwh => ?_⟩
        obtain ⟨fv, efv, hfv⟩ := hfs.get (j := wh) (d := fnD fns[wh]) (by rw [List.getElem?_map, List.getElem?_eq_getElem hwh]; rfl)
        have hfm : fns[wh] ∈ fns := List.getElem_mem hwh
        have egd : fns.getD wh (0, []) = fns[wh] := by simp [List.getD_eq_getElem?_getD, hwh]
        obtain ⟨fa, fus, rfl, hfT, _, _, hfi⟩ := hfv.ix
        obtain ⟨g0, eg0, hg0⟩ := hfi 0 _ rfl
        obtain rfl := at_i hg0
        have har := hf _ hfm
        generalize hff : fns[wh] = ff at *
        have Oi2 := Oi.trans o2
        have T2 : SameT H H2 := D0.toT Oi2
        refine ⟨_, rfl, _, _, 1, _, rfl, rfl, T2.seq hcT, e1, _, rfl, _, _, (wh : Int), _, rfl, rfl, T2.seq hb, atI_nat efv, _, _, 0, _, rfl, rfl, T2.seq hfT, eg0, (ff.1 : Int), rfl, by omega, by omega, fun D hD => ?_⟩
        have nDr : D ≠ r := D2.ne_none hD
        refine lc_it (walk_rg (n := ff.1)) (fun j Hj => Off r H2 Hj ∧ Drw K Hj r sc ns ∧ ∃ ss : List Nat, Hj D = some (.lst (ss.map fun x : Nat => V.int (x : Int))) ∧ ss.length = j ∧ ∀ c, c ∈ ss → c < n)
          ⟨same_off (same_upd hD), D2.same (same_upd hD), [], upd_same, rfl, fun c h => by cases h⟩ (fun _ _ _ _ => trivial) ?_ ?_
        · rintro j x Hj Hj' hj ⟨oj, Dj, ss, eD, hsl, hss⟩ ⟨rfl, rfl⟩
          refine ⟨rfl, _, rfl, _, rfl, r, sc, ns, n, rfl, n0, by omega, Dj, fun H5 v5 o5 D5 hv5 => ?_⟩
          have eD5 := o5 _ _ eD nDr
          refine ⟨_, eD5, szl (by rw [List.length_map]; omega), off_put (Off.trans oj o5) hD, D2.upd (Off.trans oj o5) D5 hD, ss ++ [v5], ?_, ?_, ?_⟩
          · rw [upd_same, List.map_append]; rfl
          · rw [List.length_append, hsl]; rfl
          · intro y hy
            rcases List.mem_append.mp hy with h | h
            · exact hss y h
            · have : y = v5 := by simpa using h
              omega
        · rintro H5 ⟨o5, D5, ss, eD, hsl, hss⟩
          refine ⟨D, _, rfl, .inl ⟨sqL eD, fun t nt => ?_⟩⟩
          have st : Same H5 (L2.upd H5 t (.tup (ss.map fun x : Nat => V.int (x : Int)))) := same_upd nt
          have ett : (L2.upd H5 t (.tup (ss.map fun x : Nat => V.int (x : Int)))) t = some (.tup (ss.map fun x : Nat => V.int (x : Int))) := upd_same
          generalize L2.upd H5 t (.tup (ss.map fun x : Nat => V.int (x : Int))) = H6 at st ett ⊢
          have D6 := D5.same st
          have O6 : Off r H H6 := (Oi2.trans o5).then st
          have hDL6 := hDL.offX Di ((o2.trans o5).then st) nFr
          obtain ⟨tvs6, eF6, _⟩ := id hDL6
          refine ⟨_, rfl, .inl ⟨rfl, _, sqL eF6⟩, ?_⟩
          refine ⟨_, rfl, _, rfl, _, rfl, _, rfl, r, sc, ns, wt, rfl, w0, by omega, D6, fun H7 v7 o7 D7 hv7 => ⟨_, _, rfl, rfl, szl' (by show 3 ≤ 1000000; decide), fun u nu => ?_⟩⟩
          have su : Same H7 (L2.upd H7 u (.tup [.int (wh : Nat), .ref t, .int (1 + (v7 : Nat))])) := same_upd nu
          have hDL7 := (hDL6.offX D6 o7 nFr).same su
          obtain ⟨tvs, eF, _⟩ := id hDL7
          have D8 := D7.same su
          have O8 := (O6.trans o7).then su
          refine ⟨F, _, _, rfl, rfl, eF, szl (by rw [hDL7.len eF, List.length_map]; omega), ?_⟩
          refine ⟨⟨_, _, _, rfl⟩, off_put O8 nF, D0.upd O8 D8 nF, terms ++ [⟨wh, ss, 1 + (v7 : Int)⟩], ?_, ?_, ?_⟩
          · rw [List.map_append]
            refine hDL7.push eF ?_
            refine at_mk (sqT upd_same) ⟨_, _, rfl, rfl, _, _, rfl, at_row_mk (sqT (su _ _ (o7 _ _ ett ?_))), _, _, rfl, rfl, rfl⟩
            exact D5.ne_none nt
          · rw [List.length_append, htl]; rfl
          · intro y hy
            rcases List.mem_append.mp hy with h | h
            · exact ht y h
            · have e : y = ⟨wh, ss, 1 + (v7 : Int)⟩ := by simpa using h
              rw [e]
              refine ⟨hwh, ?_, hss, ?_, ?_⟩
              · show ss.length = (fns.getD wh (0, [])).1
                rw [egd, hsl]
              · show (1 : Int) ≤ 1 + (v7 : Int); omega
              · show (1 : Int) + (v7 : Int) ≤ 1000; omega
      · rintro σ H2 ⟨⟨v6, v7, v8, rfl⟩, O2, D2, terms, ⟨tvs, eF, hta⟩, htl, ht⟩
        refine ⟨_, rfl, _, rfl, F, _, rfl, .inl ⟨sqL eF, fun t nt => ?_⟩⟩
        have st : Same H2 (L2.upd H2 t (.tup tvs)) := same_upd nt
        refine ⟨szl' (by show 2 ≤ 1000000; decide), fun u nu => ?_⟩
        have su : Same (L2.upd H2 t (.tup tvs)) (L2.upd (L2.upd H2 t (.tup tvs)) u (.tup [.int n, .ref t])) := same_upd nu
        refine q _ _ terms (O2.then (st.trans su)) (D2.same (st.trans su)) ?_ (by omega) ht
        exact at_mk (sqT upd_same) ⟨_, _, rfl, rfl, _, _, rfl, at_mk (sqT (su _ _ upd_same)) (Ats.same (Same.toT (st.trans su)) hta), rfl⟩
    · refine ⟨_, rfl, _, rfl, F, _, rfl, .inl ⟨sqL upd_same, fun t nt => ?_⟩⟩
      have st : Same (L2.upd H F (.lst [])) (L2.upd (L2.upd H F (.lst [])) t (.tup [])) := same_upd nt
      refine ⟨szl' (by show 2 ≤ 1000000; decide), fun u nu => ?_⟩
      have su : Same (L2.upd (L2.upd H F (.lst [])) t (.tup [])) (L2.upd (L2.upd (L2.upd H F (.lst [])) t (.tup [])) u (.tup [.int n, .ref t])) := same_upd nu
      refine q _ _ [] (same_off (sF.trans (st.trans su))) (DF.same (st.trans su)) ?_ (by decide) (fun t h => by cases h)
      exact at_mk (sqT upd_same) ⟨_, _, rfl, rfl, _, _, rfl, at_mk (sqT (su _ _ upd_same)) rfl, rfl⟩
/-! ### what an assignment costs -/
def atOf (I : Lp.Ins) (row : List Nat) (t : Nat) : Nat := placeN I.s ((I.t t).scope.map fun x => row.getD x 0)
def totalN (I : Lp.Ins) (row : List Nat) : Int := Lp.sumN I.q (fun t => I.c t (atOf I row t))
theorem place_ok : ∀ s, (s = 2 ∨ s = 3) → ∀ a, a < s → (placeN s [a] < s ^ 1 ∧ (Lp.rowsN s 1).getD (placeN s [a]) [] = [a]) ∧ ∀ b, b < s → placeN s [a, b] < s ^ 2 ∧ (Lp.rowsN s 2).getD (placeN s [a, b]) [] = [a, b] := by
  intro s hs
  rcases hs with rfl | rfl <;> decide
theorem atOf_ok {I : Lp.Ins} {row : List Nat} (w : WF2 I) (hrl : row.length = I.n) (hrx : ∀ x, x ∈ row → x < I.s) {t : Nat} (ht : t < I.q) : atOf I row t < I.s ^ I.ar t ∧ (I.lot t).getD (atOf I row t) [] = (I.t t).scope.map fun x => row.getD x 0 := by
  have tw := w.t _ (w.tm ht).2
  have har : (I.t t).scope.length = 1 ∨ (I.t t).scope.length = 2 := w.wf.ar t ht
  have hmem : ∀ x, x ∈ (I.t t).scope → row.getD x 0 < I.s := fun x hx => by
    have hxn := tw.2.2.1 x hx
    rw [Lp.getD_lt 0 (by omega)]
    exact hrx _ (List.getElem_mem _)
  unfold atOf Lp.Ins.lot Lp.Ins.ar
  generalize (I.t t).scope = sc at *
  match sc, har with
  | [a], _ =>
    have := (place_ok I.s w.s _ (hmem a (by simp))).1
    exact this
  | [a, b], _ =>
    have := (place_ok I.s w.s _ (hmem a (by simp))).2 _ (hmem b (by simp))
    exact this
theorem atOf_lt {I : Lp.Ins} {row : List Nat} (w : WF2 I) (hrl : row.length = I.n) (hrx : ∀ x, x ∈ row → x < I.s) {t : Nat} (ht : t < I.q) : atOf I row t < I.s ^ I.ar t := (atOf_ok w hrl hrx ht).1
theorem sc_law_total : FnScope ["_law_costs_here", "_law_instance", "_law_values", "_law_found", "_law_which", "_law_scope", "_law_weight", "_law_at", "_law_name"] ["_law_costs_here", "_law_instance", "_law_values"] (defScope s_law_total) := ⟨rfl, rfl, rfl, by decide +kernel, rfl, by decide +kernel, by decide +kernel⟩
def sp_total (K : PySem.W.Frag) : Sp := fun vs H Q _ => ∃ (I : Lp.Ins) (c v u : V) (row : List Nat), vs = [c, v, u] ∧ At K H (costsD I) c ∧ At K H (insD I) v ∧ At K H (rowD row) u ∧ WF2 I ∧ row.length = I.n ∧ (∀ x, x ∈ row → x < I.s) ∧ Q (.int (totalN I row)) H
theorem ok_law_total (T : Txt K mg) : FnOk P w K mg base CX0 1 T.a_law_total T.d_law_total ["_law_costs_here", "_law_instance", "_law_values"] (sp_total K) := by
  refine T.F_law_total.ok sc_law_total (fun vs H Q E h => ?_) (fun cdv A outer s H vs Q E hr h => ?_)
  · obtain ⟨I, c, v, u, row, rfl, _⟩ := h; rfl
  · obtain ⟨I, c, v, u, row, rfl, hC, hA, hU, w, hrl, hrx, q⟩ := h
    have wf := w.wf
    have hs3 := w.s3
    obtain ⟨ua, rfl, hu⟩ := at_row hU
    obtain ⟨ca, cs, rfl, hcT, hcl, _, hci⟩ := hC.ix
    obtain ⟨c0, ec0, hc0⟩ := hci 0 _ rfl
    obtain rfl := at_i hc0
    obtain ⟨c1, ec1, hc1⟩ := hci 1 _ rfl
    obtain ⟨b, fs, rfl, hb, hfl, hfs, _⟩ := hc1.ix
    obtain ⟨ia, is_, rfl, hiT, hil, _, hii⟩ := hA.ix
    obtain ⟨i1, ei1, hi1⟩ := hii 1 _ rfl
    obtain ⟨ta, ts, rfl, hts, htl, hta, _⟩ := hi1.ix
    rw [List.length_map] at htl
    have htq : ts.length = I.q := htl
    refine ⟨_, (pss_cons (ps_set (i := 3) sc_law_total.nd rfl (Or.inl rfl) pe_int)
      (pss_cons (ps_for PassesOwn.never rfl (pi_tup (pe_ix ix_tup (pv 1) pe_int (fun _ _ => rfl))) (pg_tup rfl (pgs_cons (pg_name (i := 4) sc_law_total.nd rfl (Or.inl rfl)) (pgs_cons (pg_name (i := 5) sc_law_total.nd rfl (Or.inl rfl)) (pgs_cons (pg_name (i := 6) sc_law_total.nd rfl (Or.inl rfl)) pgs_nil))))
        (pss_cons (ps_set (i := 7) sc_law_total.nd rfl (Or.inl rfl) pe_int)
          (pss_cons (ps_for PassesOwn.never rfl (pi_tup (pv 5)) (pg_name (i := 8) sc_law_total.nd rfl (Or.inl rfl))
            (pss_one (ps_set (i := 7) sc_law_total.nd rfl (Or.inl rfl) (pe_op op_add (pe_op op_mulW (pv 7) (pe_ix ix_tup (pv 0) pe_int (fun _ _ => rfl))) (pe_ix ix_tup (pv 2) (pv 8) (fun _ _ => rfl))))))
          (pss_one (ps_set (i := 3) sc_law_total.nd rfl (Or.inl rfl) (pe_op op_add (pv 3) (pe_op op_mulW (pv 6) (pe_ix ix_tup (pe_ix ix_tup (pe_ix ix_tup (pe_ix ix_tup (pv 0) pe_int (fun _ _ => rfl)) (pv 4) (fun _ _ => rfl)) pe_int (fun _ _ => rfl)) (pv 7) (fun _ _ => rfl)))))))))
      (pss_one (ps_ret (pv 3))))), ?_⟩
    refine ⟨_, rfl, ia, is_, 1, _, rfl, rfl, hiT, ei1, ta, rfl, ⟨_, hts⟩, ?_⟩
    refine for_it walk_tup (fun i σ Hi => (∃ v4 v5 v6 v7 v8 : Option V, σ = [some (.ref ca), some (.ref ia), some (.ref ua), some (.int (Lp.sumN i (fun t => I.c t (atOf I row t)))), v4, v5, v6, v7, v8]) ∧ Hi = H) ⟨⟨none, none, none, none, none, rfl⟩, rfl⟩ (fun i σ Hi _ h => by rw [h.2]; exact hts) ?_ ?_
    · rintro i x σ Hi Hi' hi ⟨⟨v4, v5, v6, v7, v8, rfl⟩, rfl⟩ ⟨rfl, hx⟩
      have hiq : i < I.q := by rw [← htq]; exact hi
      obtain ⟨dd, hd, hAt⟩ := hta.item hx
      rw [List.getElem?_map, (w.tm hiq).1] at hd
      cases hd
      have tw := w.t _ (w.tm hiq).2
      have fm := w.fn tw.1
      have ff := w.f _ fm.2
      obtain ⟨a, us, rfl, hT, hl, _, hi'⟩ := hAt.ix
      obtain ⟨w0, ew0, hw0⟩ := hi' 0 _ rfl
      obtain rfl := at_i hw0
      obtain ⟨w1, ew1, hw1⟩ := hi' 1 _ rfl
      obtain ⟨sa, rfl, hsa⟩ := at_row hw1
      obtain ⟨w2, ew2, hw2⟩ := hi' 2 _ rfl
      obtain rfl := at_i hw2
      have hus : us = [.int ((I.t i).which : Nat), .ref sa, .int (I.t i).w] := by
        have l3 : us.length = 3 := hl
        match us, l3, ew0, ew1, ew2 with
        | [x0, x1, x2], _, ew0, ew1, ew2 =>
          cases (Option.some.inj ew0); cases (Option.some.inj ew1); cases (Option.some.inj ew2); rfl
      subst hus
      refine ⟨a, _, rfl, hT, rfl, _, _, rfl, _, _, rfl, _, _, rfl, rfl, ?_⟩
      refine ⟨_, rfl, sa, rfl, ⟨_, hsa⟩, ?_⟩
      have har := wf.ar i hiq
      have harl : (I.t i).scope.length ≤ 2 := by
        have : (I.t i).scope.length = 1 ∨ (I.t i).scope.length = 2 := har
        omega
      have hmem : ∀ y, y ∈ ((I.t i).scope.map fun x => row.getD x 0) → y < 3 := fun y hy => by
        obtain ⟨x, hx, rfl⟩ := List.mem_map.mp hy
        have hxn := tw.2.2.1 x hx
        rw [Lp.getD_lt 0 (by omega)]
        have := hrx _ (List.getElem_mem (show x < row.length by omega))
        omega
      refine for_it walk_tup (fun j σ Hj => (∃ v8 : Option V, σ = [some (.ref ca), some (.ref ia), some (.ref ua), some (.int (Lp.sumN i (fun t => I.c t (atOf I row t)))), some (.int ((I.t i).which : Nat)), some (.ref sa), some (.int (I.t i).w), some (.int ((placeN I.s (((I.t i).scope.map fun x => row.getD x 0).take j) : Nat) : Int)), v8]) ∧ Hj = Hi') ⟨⟨v8, rfl⟩, rfl⟩ (fun i σ Hi _ h => by rw [h.2]; exact hsa) ?_ ?_
      · rintro j x σ Hj Hj' hj ⟨⟨v8, rfl⟩, rfl⟩ ⟨rfl, hxi⟩
        rw [List.getElem?_map] at hxi
        obtain ⟨y, hy, rfl⟩ := Option.map_eq_some_iff.mp hxi
        have hyn := tw.2.2.1 y (List.mem_of_getElem? hy)
        have hp : placeN I.s (((I.t i).scope.map fun x => row.getD x 0).take j) ≤ 100000 := place_lt hs3 _ 0 (by rw [List.length_take, List.length_map]; omega) (fun y hy => hmem y (List.mem_of_mem_take hy)) (by decide)
        refine ⟨_, rfl, _, rfl, ca, cs, 0, _, rfl, rfl, hcT, ec0, _, _, rfl, rfl, wide_mul (a := 20) (b := 8) (by rw [Int.natAbs_natCast]; omega) (by rw [Int.natAbs_natCast]; omega) (by decide) (by decide) (by decide), _, rfl, _, rfl, ua, _, (y : Int), .int ((row.getD y 0 : Nat) : Int), rfl, rfl, hu, atI_nat (by rw [List.getElem?_map, Lp.getD_lt 0 (by omega), List.getElem?_eq_getElem (by omega)]; rfl), _, _, rfl, rfl, ?_⟩
        refine ⟨⟨some (.int (y : Int)), ?_⟩, rfl⟩
        rw [List.take_add_one, List.getElem?_map, hy]
        unfold placeN
        rw [List.foldl_append]
        rfl
      · rintro σ Hj ⟨⟨v8, rfl⟩, rfl⟩
        rw [List.take_of_length_le (by rw [List.length_map, List.length_map]; exact Nat.le_refl _)]
        obtain ⟨fv, efv, hfv⟩ := hfs.get (j := (I.t i).which) (d := fnD (I.fns.getD (I.t i).which (0, []))) (by rw [List.getElem?_map, fm.1]; rfl)
        obtain ⟨fa, fus, rfl, hfT, _, _, hfi⟩ := hfv.ix
        obtain ⟨g1, eg1, hg1⟩ := hfi 1 _ rfl
        obtain ⟨ga, rfl, hga⟩ := at_ints hg1
        have hat : atOf I row i < (I.tab i).length := by
          rw [wf.tl i hiq]
          exact atOf_lt w hrl hrx hiq
        have tbb := wf.tb i (atOf I row i) hiq
        have ww := wf.w i hiq
        refine ⟨_, rfl, _, rfl, _, rfl, ca, cs, 1, _, rfl, rfl, hcT, ec1, _, rfl, b, fs, ((I.t i).which : Nat), _, rfl, rfl, hb, atI_nat efv, fa, fus, 1, _, rfl, rfl, hfT, eg1, _, rfl, ga, _, ((atOf I row i : Nat) : Int), .int ((I.tab i).getD (atOf I row i) 0), rfl, rfl, hga, int_at hat, _, _, rfl, rfl, wide_mul (a := 16) (b := 16) (by omega) (by omega) (by decide) (by decide) (by decide), _, _, rfl, rfl, ?_⟩
        refine ⟨⟨some (.int ((I.t i).which : Nat)), some (.ref sa), some (.int (I.t i).w), some (.int ((atOf I row i : Nat) : Int)), v8, ?_⟩, rfl⟩
        show [_, _, _, some (V.int (Lp.sumN i (fun t => I.c t (atOf I row t)) + (I.t i).w * (I.tab i).getD (atOf I row i) 0)), _, _, _, _, _] = _
        rw [Int.mul_comm]
        rfl
    · rintro σ Hi ⟨⟨v4, v5, v6, v7, v8, rfl⟩, rfl⟩
      rw [htq]
      exact ⟨_, rfl, q⟩
end
end KV
namespace KV
open PySem PySem.Spec PyProof.Rows L2
theorem rowsN_mem (z : Nat) : ∀ k, ∀ r ∈ Lp.rowsN z k, ∀ x ∈ r, x < z
  | 0, r, h, x, hx => by
    have e : r = [] := by simpa [Lp.rowsN] using h
    rw [e] at hx; cases hx
  | k + 1, r, h, x, hx => by
    obtain ⟨r', h', hr⟩ := List.mem_flatMap.mp h
    obtain ⟨v, hv, rfl⟩ := List.mem_map.mp hr
    rcases List.mem_append.mp hx with h1 | h1
    · exact rowsN_mem z k r' h' x h1
    · have : x = v := by simpa using h1
      rw [this]; exact List.mem_range.mp hv
/-! ### Euclid's turns -/
theorem euc_step {a b : Nat} (h0 : 0 < b) (h : b < a) : 2 * (b * (a % b + 1)) ≤ a * (b + 1) := by
  have hr := Nat.mod_lt a h0
  have hq : b + a % b ≤ a := by
    have e := Nat.div_add_mod a b
    have q1 : 1 ≤ a / b := Nat.div_pos (by omega) h0
    have := Nat.mul_le_mul_left b q1
    omega
  have h1 : (b + a % b) * (b + 1) ≤ a * (b + 1) := Nat.mul_le_mul_right _ hq
  refine Nat.le_trans ?_ h1
  generalize a % b = r at *
  obtain ⟨d, rfl⟩ : ∃ d, b = r + 1 + d := ⟨b - (r + 1), by omega⟩
  have e1 : 2 * ((r + 1 + d) * (r + 1)) = (r+1)*(r+1) + (r+1)*(r+1) + 2 * (d * (r + 1)) := by grind
  have e2 : (r + 1 + d + r) * (r + 1 + d + 1) = (r+1)*(r+1) + (r+1)*(r+1) + 2 * (d * (r + 1)) + (d * (r + 1) + r + d * d) := by grind
  omega
def Euc (i a b : Nat) : Prop := Nat.gcd a b = 1 ∧ ((i = 0 ∧ 0 < b ∧ b ≤ 10 ^ 40) ∨ (0 < i ∧ b < a ∧ a * (b + 1) * 2 ^ (i - 1) ≤ 10 ^ 80))
theorem Euc.next {i a b : Nat} (h : Euc i a b) (h0 : 0 < b) : Euc (i + 1) b (a % b) := by
  obtain ⟨g, h⟩ := h
  refine ⟨?_, .inr ⟨Nat.succ_pos _, Nat.mod_lt _ h0, ?_⟩⟩
  · rw [Nat.gcd_comm, ← Nat.gcd_rec, Nat.gcd_comm]; exact g
  · rcases h with ⟨rfl, _, hb⟩ | ⟨hi, hlt, hp⟩
    · have hr := Nat.mod_lt a h0
      have h1 : b * (a % b + 1) ≤ 10 ^ 40 * 10 ^ 40 := Nat.mul_le_mul hb (by omega)
      simpa using h1
    · obtain ⟨k, rfl⟩ : ∃ k, i = k + 1 := ⟨i - 1, by omega⟩
      have e : k + 1 + 1 - 1 = k + 1 := by omega
      rw [e, Nat.pow_succ]
      rw [show k + 1 - 1 = k by omega] at hp
      have h1 := Nat.mul_le_mul_right (2 ^ k) (euc_step h0 hlt)
      have e2 : b * (a % b + 1) * (2 ^ k * 2) = 2 * (b * (a % b + 1)) * 2 ^ k := by grind
      rw [e2]
      exact Nat.le_trans h1 hp
theorem Euc.out {a b : Nat} (h : Euc 300 a b) : False := by
  obtain ⟨g, h⟩ := h
  rcases h with ⟨h, _⟩ | ⟨_, hlt, hp⟩
  · omega
  · have h1 : 1 * 2 ^ 299 ≤ a * (b + 1) * 2 ^ (300 - 1) := Nat.mul_le_mul_right _ (Nat.mul_pos (by omega) (by omega))
    have : (10 : Nat) ^ 80 < 1 * 2 ^ 299 := by decide
    omega
theorem Euc.start {p : Int × Int} (h : Lp.Low p) : Euc 0 p.1.natAbs p.2.natAbs := by
  obtain ⟨g, h1, h2, _, _⟩ := h
  exact ⟨g, .inl ⟨rfl, by omega, by omega⟩⟩
theorem fmod_cast (a b : Nat) : ((a : Int)).fmod (b : Int) = ((a % b : Nat) : Int) := by
  rw [Int.fmod_eq_emod_of_nonneg _ (by omega)]
  omega
section
variable {P : Program} {w : World} {K : PySem.W.Frag} {mg : Str → Option Value} {base : Heap}
theorem sc_law_ratio : FnScope ["_law_value", "_law_one", "_law_other", "_law_turn"] ["_law_value"] (defScope s_law_ratio) := ⟨rfl, rfl, rfl, by decide +kernel, rfl, by decide +kernel, by decide +kernel⟩
def sp_ratio (K : PySem.W.Frag) : Sp := fun vs H Q _ => ∃ (v : V) (p : Int × Int), vs = [v] ∧ At K H (ratD p) v ∧ Lp.Low p ∧ Q (.bl true) H
theorem ok_law_ratio (T : Txt K mg) : FnOk P w K mg base CX0 2 T.a_law_ratio T.d_law_ratio ["_law_value"] (sp_ratio K) := by
  have G_law_whole : FnOk P w K mg base CX0 1 T.a_law_whole T.d_law_whole ["_law_value", "_law_least_here", "_law_most"] sp_whole := ok_law_whole T
  refine T.F_law_ratio.ok sc_law_ratio (fun vs H Q E h => ?_) (fun cdv A outer s H vs Q E hr h => ?_)
  · obtain ⟨v, p, rfl, _⟩ := h; rfl
  · obtain ⟨v, p, rfl, hA, hp, q⟩ := h
    obtain ⟨a, rfl, hT⟩ := at_ratD hA
    have ⟨_, p1, p2, p3, p4⟩ := hp
    refine ⟨_, (pss_cons (ps_if (PW.pt (pw_or (pt_not (pt_val (pe_callB call_isi (by rfl) T.z_isinstance (by decide +kernel) (pa_cons (pv 0) (pa_cons (pe_bltn (v := .ty "tuple") (u := .type "tuple") (by rfl) T.z_tuple (by decide +kernel) rfl) pa_nil))))) (pw_or (pt_cmpR op_ne (pe_callB call_len_seq (by rfl) T.z_len (by decide +kernel) (pa_cons (pv 0) pa_nil)) pe_int (nomark _)) (pw_or1 (pt_not (pt_val (pe_call G_law_whole (hr.mono (by decide)) (by rfl) T.g_law_whole T.F_law_whole.kp T.b_law_whole .nil pass0 (pa_cons (pe_ix ix_tup (pv 0) pe_int (fun _ _ => rfl)) (pa_cons pe_int (pa_cons (pe_op op_pow pe_int pe_int) pa_nil))))))))))
        (pss_one (ps_ret pe_bl))
        pss_nil)
      (pss_cons (ps_if (pt_not (pt_val (pe_call G_law_whole (hr.mono (by decide)) (by rfl) T.g_law_whole T.F_law_whole.kp T.b_law_whole .nil pass0 (pa_cons (pe_ix ix_tup (pv 0) pe_int (fun _ _ => rfl)) (pa_cons (pe_op op_sub pe_int (pe_op op_pow pe_int pe_int)) (pa_cons (pe_op op_pow pe_int pe_int) pa_nil))))))
        (pss_one (ps_ret pe_bl))
        pss_nil)
      (pss_cons (ps_par (i := 1) (j := 2) (by rfl) sc_law_ratio.nd rfl rfl (by decide) rfl rfl (pa_cons (pe_callB call_abs (by rfl) T.z_abs (by decide +kernel) (pa_cons (pe_ix ix_tup (pv 0) pe_int (fun _ _ => rfl)) pa_nil)) (pa_cons (pe_ix ix_tup (pv 0) pe_int (fun _ _ => rfl)) pa_nil)) (by rfl))
      (pss_cons (ps_for PassesOwn.never rfl (pi_range1 (by rfl) T.z_range (pa_cons pe_int pa_nil)) (pg_name (i := 3) sc_law_ratio.nd rfl (Or.inl rfl))
        (pss_cons (ps_if (pt_cmpR op_eq (pv 2) pe_int (nomark _))
            (pss_one (ps_ret (pe_cmpR op_eq (pv 1) pe_int (nomark _))))
            pss_nil)
          (pss_one (ps_par (i := 1) (j := 2) (by rfl) sc_law_ratio.nd rfl rfl (by decide) rfl rfl (pa_cons (pv 2) (pa_cons (pe_op op_modN (pv 1) (pv 2)) pa_nil)) (by rfl)))))
      (pss_one (ps_ret pe_bl)))))), ?_⟩
    refine ⟨_, rfl, _, _, _, _, true, rfl, .ty "tuple", tyT hT, kit_ty (by decide +kernel), true, rfl, ?_⟩
    refine ⟨_, rfl, a, _, rfl, .inr hT, rfl, _, rfl, ?_⟩
    refine ⟨_, rfl, a, _, 1, _, rfl, rfl, hT, rfl, _, _, rfl, rfl, ⟨by decide, by decide, by decide⟩, p.2, 1, 10 ^ 40, rfl, p1, p2, true, rfl, ?_⟩
    refine ⟨_, rfl, a, _, 0, _, rfl, rfl, hT, rfl, _, _, rfl, rfl, ⟨by decide, by decide, by decide⟩, _, _, rfl, rfl, _, _, rfl, rfl, ⟨by decide, by decide, by decide⟩, p.1, 0 - 10 ^ 40, 10 ^ 40, rfl, by omega, p4, true, rfl, ?_⟩
    refine ⟨_, rfl, a, _, 0, _, rfl, rfl, hT, rfl, p.1, rfl, _, rfl, a, _, 1, _, rfl, rfl, hT, rfl, _, _, rfl, ?_⟩
    have ea : (if p.1 < 0 then -p.1 else p.1) = ((p.1.natAbs : Nat) : Int) := by split <;> omega
    have eb : p.2 = ((p.2.natAbs : Nat) : Int) := by omega
    rw [ea]
    refine ⟨300, rfl, by decide, by decide, for_it (walk_rg (n := 300)) (fun i σ Hi => (∃ (x y : Nat) (v3 : Option V), σ = [some (.ref a), some (.int x), some (.int y), v3] ∧ Euc i x y) ∧ Hi = H) ⟨⟨p.1.natAbs, p.2.natAbs, none, ?_, Euc.start hp⟩, rfl⟩ (fun _ _ _ _ _ => trivial) ?_ ?_⟩
    · rw [← eb]; rfl
    · rintro i x σ Hi Hi' hi ⟨⟨x, y, v3, rfl, he⟩, rfl⟩ ⟨rfl, rfl⟩
      refine ⟨_, rfl, rfl, _, rfl, ite2 (fun e => ?_) (fun e => ?_)⟩
      · have y0 : (y : Int) = 0 := V.int.inj (of_decide_eq_true e)
        have : y = 0 := by omega
        subst this
        have x1 : x = 1 := by have := he.1; rw [Nat.gcd_zero_right] at this; exact this
        subst x1
        exact ⟨_, rfl, rfl, q⟩
      · have y0 : 0 < y := by
          rcases Nat.eq_zero_or_pos y with z | z
          · exact absurd (decide_eq_true (by rw [z]; rfl)) e
          · exact z
        refine ⟨_, rfl, _, rfl, _, rfl, _, _, rfl, rfl, by omega, _, _, rfl, ?_⟩
        refine ⟨⟨y, x % y, some (.int (i : Int)), ?_, he.next y0⟩, rfl⟩
        show [_, _, some (V.int ((x : Int).fmod (y : Int))), _] = _
        rw [fmod_cast]
    · rintro σ Hi ⟨⟨x, y, v3, rfl, he⟩, rfl⟩
      exact he.out.elim
theorem sc_law_least : FnScope ["_law_costs_here", "_law_instance", "_law_best", "_law_values", "_law_cost"] ["_law_costs_here", "_law_instance"] (defScope s_law_least) := ⟨rfl, rfl, rfl, by decide +kernel, rfl, by decide +kernel, by decide +kernel⟩
def sp_least (K : PySem.W.Frag) : Sp := fun vs H Q _ => ∃ (I : Lp.Ins) (c v : V), vs = [c, v] ∧ At K H (costsD I) c ∧ At K H (insD I) v ∧ WF2 I ∧ ∀ H' t u row, Same H H' → H' t = some (.tup [.int (totalN I row), u]) → row.length = I.n → (∀ x, x ∈ row → x < I.s) → Q (.ref t) H'
theorem ok_law_least (T : Txt K mg) : FnOk P w K mg base CX0 2 T.a_law_least T.d_law_least ["_law_costs_here", "_law_instance"] (sp_least K) := by
  have G_law_rows : FnOk P w K mg base CX0 1 T.a_law_rows T.d_law_rows ["_law_size", "_law_arity"] (sp_all_rows K) := ok_law_rows T
  have G_law_total : FnOk P w K mg base CX0 1 T.a_law_total T.d_law_total ["_law_costs_here", "_law_instance", "_law_values"] (sp_total K) := ok_law_total T
  refine T.F_law_least.ok sc_law_least (fun vs H Q E h => ?_) (fun cdv A outer s H vs Q E hr h => ?_)
  · obtain ⟨I, c, v, rfl, _⟩ := h; rfl
  · obtain ⟨I, c, v, rfl, hC, hA, w, q⟩ := h
    have hsp := w.wf.spos
    obtain ⟨ca, cs, rfl, hcT, hcl, _, hci⟩ := (id hC).ix
    obtain ⟨c0, ec0, hc0⟩ := hci 0 _ rfl
    obtain rfl := at_i hc0
    obtain ⟨ia, is_, rfl, hiT, hil, _, hii⟩ := (id hA).ix
    obtain ⟨i0, ei0, hi0⟩ := hii 0 _ rfl
    obtain rfl := at_i hi0
    refine ⟨_, (pss_cons (ps_set (i := 2) sc_law_least.nd rfl (Or.inl rfl) pe_non)
      (pss_cons (ps_for PassesOwn.never rfl (pi_list (pe_call G_law_rows (hr.mono (by decide)) (by rfl) T.g_law_rows T.F_law_rows.kp T.b_law_rows .nil pass0 (pa_cons (pe_ix ix_tup (pv 0) pe_int (fun _ _ => rfl)) (pa_cons (pe_ix ix_tup (pv 1) pe_int (fun _ _ => rfl)) pa_nil)))) (pg_name (i := 3) sc_law_least.nd rfl (Or.inl rfl))
        (pss_cons (ps_set (i := 4) sc_law_least.nd rfl (Or.inl rfl) (pe_call G_law_total (hr.mono (by decide)) (by rfl) T.g_law_total T.F_law_total.kp T.b_law_total .nil pass0 (pa_cons (pv 0) (pa_cons (pv 1) (pa_cons (pv 3) pa_nil)))))
          (pss_one (ps_if (PW.pt (pw_or (pt_cmpR op_isN (pv 2) pe_non (nomark _)) (pw_or1 (pt_cmpR op_lt (pv 4) (pe_ix ix_tup (pv 2) pe_int (fun _ _ => rfl)) (nomark _)))))
            (pss_one (ps_set (i := 2) sc_law_least.nd rfl (Or.inl rfl) (pe_tup (pa_cons (pv 4) (pa_cons (pv 3) pa_nil)))))
            pss_nil))))
      (pss_one (ps_ret (pv 2))))), ?_⟩
    refine ⟨_, rfl, ca, cs, 0, _, rfl, rfl, hcT, ec0, _, rfl, ia, is_, 0, _, rfl, rfl, hiT, ei0, I.s, I.n, rfl, w.s3, w.n, fun H1 l lvs s1 nl el hla => ⟨l, rfl, ⟨_, sqL el⟩, ?_⟩⟩
    have hll : lvs.length = I.s ^ I.n := by rw [hla.length, List.length_map, rowsN_len]
    refine for_it walk_list (fun i σ Hi => Same H1 Hi ∧ ((i = 0 ∧ σ = [some (.ref ca), some (.ref ia), some .non, none, none]) ∨ ∃ (t : Addr) (u : V) (row : List Nat) (v3 v4 : Option V), σ = [some (.ref ca), some (.ref ia), some (.ref t), v3, v4] ∧ Hi t = some (.tup [.int (totalN I row), u]) ∧ row.length = I.n ∧ ∀ x, x ∈ row → x < I.s))
      ⟨Same.refl _, .inl ⟨rfl, rfl⟩⟩ (fun i σ Hi _ h => Same.seq h.1 (sqL el)) ?_ ?_
    · rintro i x σ Hi Hi' hi ⟨si, hst⟩ ⟨rfl, hx⟩
      obtain ⟨dd, hd, hdx⟩ := hla.item hx
      rw [List.getElem?_map] at hd
      obtain ⟨r, hr', rfl⟩ := Option.map_eq_some_iff.mp hd
      have hrm := List.mem_of_getElem? hr'
      have hrl : r.length = I.n := rowsN_elt _ _ r hrm
      have hrx := rowsN_mem _ _ r hrm
      have s1i := s1.trans si
      have hC' := At.same (Same.toT s1i) hC
      have hA' := At.same (Same.toT s1i) hA
      have hX' := At.same (Same.toT si) hdx
      rcases hst with ⟨rfl, rfl⟩ | ⟨t, u, row, v3, v4, rfl, et, hl, hx2⟩
      · refine ⟨_, rfl, _, rfl, _, rfl, I, _, _, _, r, rfl, hC', hA', hX', w, hrl, hrx, ?_⟩
        refine ⟨_, rfl, rfl, _, rfl, ?_⟩
        refine ⟨_, rfl, _, rfl, szl' (by show 2 ≤ 1000000; decide), fun t2 nt2 => ?_⟩
        exact ⟨si.trans (same_upd nt2), .inr ⟨t2, x, r, _, _, rfl, upd_same, hrl, hrx⟩⟩
      · refine ⟨_, rfl, _, rfl, _, rfl, I, _, _, _, r, rfl, hC', hA', hX', w, hrl, hrx, ?_⟩
        refine ⟨_, rfl, rfl, _, rfl, ?_⟩
        refine ⟨_, rfl, _, rfl, t, _, 0, _, rfl, rfl, sqT et, rfl, _, _, rfl, rfl, _, rfl, ite2 (fun e => ?_) (fun e => ?_)⟩
        · refine ⟨_, rfl, _, rfl, szl' (by show 2 ≤ 1000000; decide), fun t2 nt2 => ?_⟩
          exact ⟨si.trans (same_upd nt2), .inr ⟨t2, x, r, _, _, rfl, upd_same, hrl, hrx⟩⟩
        · exact ⟨si, .inr ⟨t, u, row, _, _, rfl, et, hl, hx2⟩⟩
    · rintro σ Hi ⟨si, hst⟩
      rcases hst with ⟨e, _⟩ | ⟨t, u, row, v3, v4, rfl, et, hl, hx2⟩
      · have := Nat.pow_pos (n := I.n) hsp
        omega
      · exact ⟨_, rfl, q Hi t u row (s1.trans si) et hl hx2⟩
end
end KV
namespace KV
open PySem PySem.Spec PyProof.Rows L2
/-- a ratio of at most so many bits -/
def Bits (b : Nat) (p : Int × Int) : Prop := p.1.natAbs < 2 ^ b ∧ p.2.natAbs < 2 ^ b
def addS (z p : Int × Int) : Int × Int := (z.1 * p.2 + p.1 * z.2, z.2 * p.2)
theorem addR_fold (l : List (Int × Int)) : Lp.addR l = l.foldl addS (0, 1) := rfl
theorem natAbs_mul_lt {x y : Int} {a b : Nat} (hx : x.natAbs < 2 ^ a) (hy : y.natAbs < 2 ^ b) : (x * y).natAbs < 2 ^ (a + b) := wide_lt hx hy
theorem addS_bits {z p : Int × Int} {a b : Nat} (hz : Bits a z) (hp : Bits b p) : Bits (a + (b + 1)) (addS z p) := by
  have h1 := natAbs_mul_lt hz.1 hp.2
  have h2 := natAbs_mul_lt hp.1 hz.2
  have h3 := natAbs_mul_lt hz.2 hp.2
  rw [Nat.add_comm b a] at h2
  have e : 2 ^ (a + (b + 1)) = 2 ^ (a + b) + 2 ^ (a + b) := by rw [← Nat.add_assoc, Nat.pow_succ]; omega
  refine ⟨?_, ?_⟩
  · show (z.1 * p.2 + p.1 * z.2).natAbs < _
    have := Int.natAbs_add_le (z.1 * p.2) (p.1 * z.2)
    omega
  · show (z.2 * p.2).natAbs < _
    omega
theorem add_bits {b : Nat} : ∀ (l : List (Int × Int)) (z : Int × Int) (a : Nat), Bits a z → (∀ p, p ∈ l → Bits b p) → Bits (a + l.length * (b + 1)) (l.foldl addS z)
  | [], z, a, hz, _ => by simpa using hz
  | p :: l, z, a, hz, h => by
    have := add_bits l (addS z p) (a + (b + 1)) (addS_bits hz (h p (by simp))) (fun q hq => h q (by simp [hq]))
    rw [List.length_cons, Nat.succ_mul, Nat.add_comm (l.length * (b + 1)), ← Nat.add_assoc]
    exact this
theorem addR_bits {b : Nat} {l : List (Int × Int)} (h : ∀ p, p ∈ l → Bits b p) : Bits (1 + l.length * (b + 1)) (Lp.addR l) := add_bits l (0, 1) 1 ⟨by decide, by decide⟩ h
/-- the law's cost of a term by the shares -/
def chR (ts : List Int) (ps : List (Int × Int)) (w : Int) : Int × Int :=
  if ps.length = 1 then (w * ((ps.getD 0 (0, 1)).1 * ts.getD 0 0 + ((ps.getD 0 (0, 1)).2 - (ps.getD 0 (0, 1)).1) * ts.getD 1 0), (ps.getD 0 (0, 1)).2)
  else (w * Lp.cheap2 (ts.getD 0 0) (ts.getD 1 0) (ts.getD 2 0) (ts.getD 3 0) ((ps.getD 0 (0, 1)).1 * (ps.getD 1 (0, 1)).2) ((ps.getD 1 (0, 1)).1 * (ps.getD 0 (0, 1)).2) ((ps.getD 0 (0, 1)).2 * (ps.getD 1 (0, 1)).2), (ps.getD 0 (0, 1)).2 * (ps.getD 1 (0, 1)).2)
section
variable {P : Program} {w : World} {K : PySem.W.Frag} {mg : Str → Option Value} {base : Heap}
theorem sc_law_added : FnScope ["_law_some", "_law_top", "_law_low", "_law_told"] ["_law_some"] (defScope s_law_added) := ⟨rfl, rfl, rfl, by decide +kernel, rfl, by decide +kernel, by decide +kernel⟩
def sp_added (K : PySem.W.Frag) : Sp := fun vs H Q _ => ∃ (a : Addr) (us : List V) (ps : List (Int × Int)) (b : Nat), vs = [.ref a] ∧ (SqL K H a us ∨ SqT K H a us) ∧ Ats K H (ps.map ratD) us ∧ (∀ p, p ∈ ps → Bits b p) ∧ 0 < b ∧ b ≤ 1000 ∧ ps.length ≤ 50 ∧ ∀ H' t, Same H H' → H' t = some (.tup (ratV (Lp.addR ps))) → Q (.ref t) H'
theorem ok_law_added (T : Txt K mg) : FnOk P w K mg base CX0 1 T.a_law_added T.d_law_added ["_law_some"] (sp_added K) := by
  refine T.F_law_added.ok sc_law_added (fun vs H Q E h => ?_) (fun cdv A outer s H vs Q E hr h => ?_)
  · obtain ⟨a, us, ps, b, rfl, _⟩ := h; rfl
  · obtain ⟨a, us, ps, b, rfl, hS, hA, hb, b0, b1, hl, q⟩ := h
    have hul : us.length = ps.length := by rw [hA.length, List.length_map]
    have step : ∀ i (x : V), us[i]? = some x → ∃ (t : Addr) (p : Int × Int), x = .ref t ∧ SqT K H t [.int p.1, .int p.2] ∧ ps[i]? = some p := fun i x hx => by
      obtain ⟨dd, hd, hdx⟩ := hA.item hx
      rw [List.getElem?_map] at hd
      obtain ⟨p, hp, rfl⟩ := Option.map_eq_some_iff.mp hd
      obtain ⟨t, rfl, hT⟩ := at_ratD hdx
      exact ⟨t, p, rfl, hT, hp⟩
    have pre : ∀ i, i < ps.length → Bits (1 + i * (b + 1)) (Lp.addR (ps.take i)) := fun i hi => by
      have := addR_bits (l := ps.take i) (fun p hp => hb p (List.mem_of_mem_take hp))
      rw [List.length_take, Nat.min_eq_left (by omega)] at this
      exact this
    have wd : ∀ (i : Nat) (x y : Int), i < ps.length → x.natAbs < 2 ^ (1 + i * (b + 1)) → y.natAbs < 2 ^ b → CMulW x y := fun i x y hi hx hy => wide_mul hx hy (by omega) b0 (by
      have : i * (b + 1) ≤ 50 * 1001 := Nat.mul_le_mul (by omega) (by omega)
      omega)
    have wd' : ∀ (i : Nat) (x y : Int), i < ps.length → x.natAbs < 2 ^ (1 + i * (b + 1)) → y.natAbs < 2 ^ b → CMulW y x := fun i x y hi hx hy => wide_mul hy hx b0 (by omega) (by
      have : i * (b + 1) ≤ 50 * 1001 := Nat.mul_le_mul (by omega) (by omega)
      omega)
    rcases hS with hS | hS
    · refine ⟨_, (pss_cons (ps_asg (pe_tup (pa_cons pe_int (pa_cons pe_int pa_nil))) (pg_tup rfl (pgs_cons (pg_name (i := 1) sc_law_added.nd rfl (Or.inl rfl)) (pgs_cons (pg_name (i := 2) sc_law_added.nd rfl (Or.inl rfl)) pgs_nil))))
      (pss_cons (ps_for PassesOwn.never rfl (pi_list (pv 0)) (pg_name (i := 3) sc_law_added.nd rfl (Or.inl rfl))
        (pss_one (ps_par (i := 1) (j := 2) (by rfl) sc_law_added.nd rfl rfl (by decide) rfl rfl (pa_cons (pe_op op_add (pe_op op_mulW (pv 1) (pe_ix ix_tup (pv 3) pe_int (fun _ _ => rfl))) (pe_op op_mulW (pe_ix ix_tup (pv 3) pe_int (fun _ _ => rfl)) (pv 2))) (pa_cons (pe_op op_mulW (pv 2) (pe_ix ix_tup (pv 3) pe_int (fun _ _ => rfl))) pa_nil)) (by rfl))))
      (pss_one (ps_ret (pe_tup (pa_cons (pv 1) (pa_cons (pv 2) pa_nil))))))), ?_⟩
      refine ⟨szl' (by show 2 ≤ 1000000; decide), fun t0 nt0 => ?_⟩
      have s0 : Same H (L2.upd H t0 (.tup [.int 0, .int 1])) := same_upd nt0
      refine ⟨t0, _, rfl, sqT upd_same, rfl, _, _, rfl, _, _, rfl, rfl, ?_⟩
      generalize L2.upd H t0 (.tup [.int 0, .int 1]) = H0 at s0 ⊢
      refine ⟨_, rfl, a, rfl, ⟨_, Same.seq s0 hS⟩, ?_⟩
      refine for_it walk_list (fun i σ Hi => (∃ v3 : Option V, σ = [some (.ref a), some (.int (Lp.addR (ps.take i)).1), some (.int (Lp.addR (ps.take i)).2), v3]) ∧ Hi = H0) ⟨⟨none, rfl⟩, rfl⟩ (fun i σ Hi _ h => by rw [h.2]; exact Same.seq s0 hS) ?_ ?_
      · rintro i x σ Hi Hi' hi ⟨⟨v3, rfl⟩, eHi⟩ ⟨eHi', hx⟩
        rw [eHi', eHi]
        obtain ⟨t, p, rfl, hT, hp⟩ := step i x hx
        have hT := (Same.toT s0).seq hT
        have hi' : i < ps.length := by omega
        have pb := pre i hi'
        have bp := hb p (List.mem_of_getElem? hp)
        refine ⟨_, rfl, _, rfl, t, _, 1, _, rfl, rfl, hT, rfl, _, _, rfl, rfl, wd i _ _ hi' pb.1 bp.2, ?_⟩
        refine ⟨_, rfl, t, _, 0, _, rfl, rfl, hT, rfl, _, rfl, _, _, rfl, rfl, wd' i _ _ hi' pb.2 bp.1, _, _, rfl, rfl, ?_⟩
        refine ⟨_, rfl, _, rfl, t, _, 1, _, rfl, rfl, hT, rfl, _, _, rfl, rfl, wd i _ _ hi' pb.2 bp.2, _, _, rfl, ?_⟩
        refine ⟨⟨some (.ref t), ?_⟩, rfl⟩
        rw [List.take_add_one, hp, addR_fold, addR_fold, List.foldl_append]
        rfl
      · rintro σ Hi ⟨⟨v3, rfl⟩, eHi⟩
        rw [eHi]
        rw [hul, List.take_of_length_le (Nat.le_refl _)]
        exact ⟨_, rfl, _, rfl, szl' (by show 2 ≤ 1000000; decide), fun t nt => q _ t (s0.trans (same_upd nt)) upd_same⟩
    · refine ⟨_, (pss_cons (ps_asg (pe_tup (pa_cons pe_int (pa_cons pe_int pa_nil))) (pg_tup rfl (pgs_cons (pg_name (i := 1) sc_law_added.nd rfl (Or.inl rfl)) (pgs_cons (pg_name (i := 2) sc_law_added.nd rfl (Or.inl rfl)) pgs_nil))))
      (pss_cons (ps_for PassesOwn.never rfl (pi_tup (pv 0)) (pg_name (i := 3) sc_law_added.nd rfl (Or.inl rfl))
        (pss_one (ps_par (i := 1) (j := 2) (by rfl) sc_law_added.nd rfl rfl (by decide) rfl rfl (pa_cons (pe_op op_add (pe_op op_mulW (pv 1) (pe_ix ix_tup (pv 3) pe_int (fun _ _ => rfl))) (pe_op op_mulW (pe_ix ix_tup (pv 3) pe_int (fun _ _ => rfl)) (pv 2))) (pa_cons (pe_op op_mulW (pv 2) (pe_ix ix_tup (pv 3) pe_int (fun _ _ => rfl))) pa_nil)) (by rfl))))
      (pss_one (ps_ret (pe_tup (pa_cons (pv 1) (pa_cons (pv 2) pa_nil))))))), ?_⟩
      refine ⟨szl' (by show 2 ≤ 1000000; decide), fun t0 nt0 => ?_⟩
      have s0 : Same H (L2.upd H t0 (.tup [.int 0, .int 1])) := same_upd nt0
      refine ⟨t0, _, rfl, sqT upd_same, rfl, _, _, rfl, _, _, rfl, rfl, ?_⟩
      generalize L2.upd H t0 (.tup [.int 0, .int 1]) = H0 at s0 ⊢
      refine ⟨_, rfl, a, rfl, ⟨_, (Same.toT s0).seq hS⟩, ?_⟩
      refine for_it walk_tup (fun i σ Hi => (∃ v3 : Option V, σ = [some (.ref a), some (.int (Lp.addR (ps.take i)).1), some (.int (Lp.addR (ps.take i)).2), v3]) ∧ Hi = H0) ⟨⟨none, rfl⟩, rfl⟩ (fun i σ Hi _ h => by rw [h.2]; exact (Same.toT s0).seq hS) ?_ ?_
      · rintro i x σ Hi Hi' hi ⟨⟨v3, rfl⟩, eHi⟩ ⟨eHi', hx⟩
        rw [eHi', eHi]
        obtain ⟨t, p, rfl, hT, hp⟩ := step i x hx
        have hT := (Same.toT s0).seq hT
        have hi' : i < ps.length := by omega
        have pb := pre i hi'
        have bp := hb p (List.mem_of_getElem? hp)
        refine ⟨_, rfl, _, rfl, t, _, 1, _, rfl, rfl, hT, rfl, _, _, rfl, rfl, wd i _ _ hi' pb.1 bp.2, ?_⟩
        refine ⟨_, rfl, t, _, 0, _, rfl, rfl, hT, rfl, _, rfl, _, _, rfl, rfl, wd' i _ _ hi' pb.2 bp.1, _, _, rfl, rfl, ?_⟩
        refine ⟨_, rfl, _, rfl, t, _, 1, _, rfl, rfl, hT, rfl, _, _, rfl, rfl, wd i _ _ hi' pb.2 bp.2, _, _, rfl, ?_⟩
        refine ⟨⟨some (.ref t), ?_⟩, rfl⟩
        rw [List.take_add_one, hp, addR_fold, addR_fold, List.foldl_append]
        rfl
      · rintro σ Hi ⟨⟨v3, rfl⟩, eHi⟩
        rw [eHi]
        rw [hul, List.take_of_length_le (Nat.le_refl _)]
        exact ⟨_, rfl, _, rfl, szl' (by show 2 ≤ 1000000; decide), fun t nt => q _ t (s0.trans (same_upd nt)) upd_same⟩
theorem sc_law_cheapest : FnScope ["_law_table", "_law_given", "_law_weight", "_law_top", "_law_low", "_law_one", "_law_other", "_law_whole_here", "_law_found", "_law_both", "_law_rest"] ["_law_table", "_law_given", "_law_weight"] (defScope s_law_cheapest) := ⟨rfl, rfl, rfl, by decide +kernel, rfl, by decide +kernel, by decide +kernel⟩
def sp_cheapest (K : PySem.W.Frag) : Sp := fun vs H Q _ => ∃ (tb g : Addr) (us : List V) (ts : List Int) (ps : List (Int × Int)) (wt : Int), vs = [.ref tb, .ref g, .int wt] ∧ SqT K H tb (ts.map V.int) ∧ SqL K H g us ∧ Ats K H (ps.map ratD) us ∧ (∀ p, p ∈ ps → Bits 140 p) ∧ (∀ t, t ∈ ts → 0 ≤ t ∧ t ≤ 1000) ∧ 1 ≤ wt ∧ wt ≤ 1000 ∧ (ps.length = 1 ∧ ts.length = 2 ∨ ps.length = 2 ∧ ts.length = 4) ∧ ∀ H' t, Same H H' → H' t = some (.tup (ratV (chR ts ps wt))) → Q (.ref t) H'
theorem ok_law_cheapest (T : Txt K mg) : FnOk P w K mg base CX0 1 T.a_law_cheapest T.d_law_cheapest ["_law_table", "_law_given", "_law_weight"] (sp_cheapest K) := by
  refine T.F_law_cheapest.ok sc_law_cheapest (fun vs H Q E h => ?_) (fun cdv A outer s H vs Q E hr h => ?_)
  · obtain ⟨tb, g, us, ts, ps, wt, rfl, _⟩ := h; rfl
  · obtain ⟨tb, g, us, ts, ps, wt, rfl, hT, hG, hA, hb, ht, w0, w1, hl, q⟩ := h
    have tn : ∀ t, t ∈ ts → t.natAbs < 2 ^ 10 := fun t h => by have := ht t h; omega
    have wn : wt.natAbs < 2 ^ 10 := by omega
    have mw : ∀ {x y : Int} (a b : Nat), x.natAbs < 2 ^ (a + 1) → y.natAbs < 2 ^ (b + 1) → a ≤ 1000 → b ≤ 1000 → CMulW x y := fun a b hx hy ha hb => wide_mul hx hy (Nat.succ_pos _) (Nat.succ_pos _) (by omega)
    refine ⟨_, (pss_cons (ps_if (pt_cmpR op_eq (pe_callB call_len_seq (by rfl) T.z_len (by decide +kernel) (pa_cons (pv 1) pa_nil)) pe_int (nomark _))
        (pss_cons (ps_asg (pe_ix ix_list (pv 1) pe_int (fun _ _ => rfl)) (pg_tup rfl (pgs_cons (pg_name (i := 3) sc_law_cheapest.nd rfl (Or.inl rfl)) (pgs_cons (pg_name (i := 4) sc_law_cheapest.nd rfl (Or.inl rfl)) pgs_nil))))
          (pss_one (ps_ret (pe_tup (pa_cons (pe_op op_mulW (pv 2) (pe_op op_add (pe_op op_mulW (pv 3) (pe_ix ix_tup (pv 0) pe_int (fun _ _ => rfl))) (pe_op op_mulW (pe_op op_sub (pv 4) (pv 3)) (pe_ix ix_tup (pv 0) pe_int (fun _ _ => rfl))))) (pa_cons (pv 4) pa_nil))))))
        pss_nil)
      (pss_cons (ps_par (i := 5) (j := 6) (by rfl) sc_law_cheapest.nd rfl rfl (by decide) rfl rfl (pa_cons (pe_op op_mulW (pe_ix ix_tup (pe_ix ix_list (pv 1) pe_int (fun _ _ => rfl)) pe_int (fun _ _ => rfl)) (pe_ix ix_tup (pe_ix ix_list (pv 1) pe_int (fun _ _ => rfl)) pe_int (fun _ _ => rfl))) (pa_cons (pe_op op_mulW (pe_ix ix_tup (pe_ix ix_list (pv 1) pe_int (fun _ _ => rfl)) pe_int (fun _ _ => rfl)) (pe_ix ix_tup (pe_ix ix_list (pv 1) pe_int (fun _ _ => rfl)) pe_int (fun _ _ => rfl))) pa_nil)) (by rfl))
      (pss_cons (ps_par (i := 7) (j := 8) (by rfl) sc_law_cheapest.nd rfl rfl (by decide) rfl rfl (pa_cons (pe_op op_mulW (pe_ix ix_tup (pe_ix ix_list (pv 1) pe_int (fun _ _ => rfl)) pe_int (fun _ _ => rfl)) (pe_ix ix_tup (pe_ix ix_list (pv 1) pe_int (fun _ _ => rfl)) pe_int (fun _ _ => rfl))) (pa_cons (pe_lst pa_nil) pa_nil)) (by rfl))
      (pss_cons (ps_for PassesOwn.never rfl (pi_list (pe_lst (pa_cons (pe_callB (call_max2 rfl) (by rfl) T.z_max (by decide +kernel) (pa_cons pe_int (pa_cons (pe_op op_sub (pe_op op_add (pv 5) (pv 6)) (pv 7)) pa_nil))) (pa_cons (pe_callB (call_min2 rfl) (by rfl) T.z_min (by decide +kernel) (pa_cons (pv 5) (pa_cons (pv 6) pa_nil))) pa_nil)))) (pg_name (i := 9) sc_law_cheapest.nd rfl (Or.inl rfl))
        (pss_cons (ps_set (i := 10) sc_law_cheapest.nd rfl (Or.inl rfl) (pe_op op_add (pe_op op_add (pe_op op_mulW (pe_op op_sub (pv 5) (pv 9)) (pe_ix ix_tup (pv 0) pe_int (fun _ _ => rfl))) (pe_op op_mulW (pe_op op_sub (pv 6) (pv 9)) (pe_ix ix_tup (pv 0) pe_int (fun _ _ => rfl)))) (pe_op op_mulW (pe_op op_add (pe_op op_sub (pe_op op_sub (pv 7) (pv 5)) (pv 6)) (pv 9)) (pe_ix ix_tup (pv 0) pe_int (fun _ _ => rfl)))))
          (pss_one (ps_expr (pe_bm PySem.F.plainAttrs_list PySem.F.slot_list_append PySem.F.type_list_append mt_append (pv 8) (pa_cons (pe_op op_add (pe_op op_mulW (pv 9) (pe_ix ix_tup (pv 0) pe_int (fun _ _ => rfl))) (pv 10)) pa_nil))))))
      (pss_one (ps_ret (pe_tup (pa_cons (pe_op op_mulW (pv 2) (pe_callB (cr_min rfl) (by rfl) T.z_min (by decide +kernel) (pa_cons (pv 8) pa_nil))) (pa_cons (pv 7) pa_nil))))))))), ?_⟩
    rcases hl with ⟨hl, htl⟩ | ⟨hl, htl⟩
    · match ps, us, ts, hl, htl, hA, hb, tn, hT, hG, q with
      | [p], us, [t0, t1], _, _, hA, hb, tn, hT, hG, q =>
        obtain ⟨u0, l0, rfl, hp, z0⟩ := hA
        have z0 : l0 = [] := z0
        subst z0
        obtain ⟨a, rfl, hP⟩ := at_ratD hp
        have bp := hb p (by simp)
        have h0 := tn t0 (by simp)
        have h1 := tn t1 (by simp)
        refine ⟨_, rfl, g, _, rfl, .inl hG, rfl, _, rfl, ?_⟩
        refine ⟨_, rfl, g, _, 0, _, rfl, rfl, hG, rfl, a, _, rfl, hP, rfl, _, _, rfl, _, _, rfl, rfl, ?_⟩
        have b1 : (p.1 * t0).natAbs < 2 ^ (140 + 10) := natAbs_mul_lt bp.1 h0
        have bd : (p.2 - p.1).natAbs < 2 ^ 141 := by have := bp.1; have := bp.2; omega
        have b2 : ((p.2 - p.1) * t1).natAbs < 2 ^ (141 + 10) := natAbs_mul_lt bd h1
        refine ⟨_, rfl, _, rfl, _, rfl, tb, _, 0, _, rfl, rfl, hT, rfl, _, _, rfl, rfl, mw 139 9 bp.1 h0 (by decide) (by decide), ?_⟩
        refine ⟨_, rfl, _, rfl, _, _, rfl, rfl, _, rfl, tb, _, 1, _, rfl, rfl, hT, rfl, _, _, rfl, rfl, mw 140 9 bd h1 (by decide) (by decide), _, _, rfl, rfl, _, _, rfl, rfl, mw 9 151 wn (by omega) (by decide) (by decide), ?_⟩
        exact ⟨_, rfl, szl' (by show 2 ≤ 1000000; decide), fun t nt => q _ t (same_upd nt) upd_same⟩
    · match ps, us, ts, hl, htl, hA, hb, tn, hT, hG, q with
      | [p, r], us, [t0, t1, t2, t3], _, _, hA, hb, tn, hT, hG, q =>
        obtain ⟨u0, l0, rfl, hp, u1, l1, rfl, hr, z0⟩ := hA
        have z0 : l1 = [] := z0
        subst z0
        obtain ⟨a, rfl, hP⟩ := at_ratD hp
        obtain ⟨c, rfl, hR⟩ := at_ratD hr
        have bp := hb p (by simp)
        have br := hb r (by simp)
        have h0 := tn t0 (by simp)
        have h1 := tn t1 (by simp)
        have h2 := tn t2 (by simp)
        have h3 := tn t3 (by simp)
        refine ⟨_, rfl, g, _, rfl, .inl hG, rfl, _, rfl, ?_⟩
        have m1 : (p.1 * r.2).natAbs < 2 ^ (140 + 140) := natAbs_mul_lt bp.1 br.2
        have m2 : (r.1 * p.2).natAbs < 2 ^ (140 + 140) := natAbs_mul_lt br.1 bp.2
        have m3 : (p.2 * r.2).natAbs < 2 ^ (140 + 140) := natAbs_mul_lt bp.2 br.2
        refine ⟨_, rfl, g, _, 0, _, rfl, rfl, hG, rfl, a, _, 0, _, rfl, rfl, hP, rfl, _, rfl, g, _, 1, _, rfl, rfl, hG, rfl, c, _, 1, _, rfl, rfl, hR, rfl, _, _, rfl, rfl, mw 139 139 bp.1 br.2 (by decide) (by decide), ?_⟩
        refine ⟨_, rfl, g, _, 1, _, rfl, rfl, hG, rfl, c, _, 0, _, rfl, rfl, hR, rfl, _, rfl, g, _, 0, _, rfl, rfl, hG, rfl, a, _, 1, _, rfl, rfl, hP, rfl, _, _, rfl, rfl, mw 139 139 br.1 bp.2 (by decide) (by decide), _, _, rfl, ?_⟩
        refine ⟨_, rfl, g, _, 0, _, rfl, rfl, hG, rfl, a, _, 1, _, rfl, rfl, hP, rfl, _, rfl, g, _, 1, _, rfl, rfl, hG, rfl, c, _, 1, _, rfl, rfl, hR, rfl, _, _, rfl, rfl, mw 139 139 bp.2 br.2 (by decide) (by decide), ?_⟩
        refine ⟨Nat.zero_le _, fun F nF => ⟨_, _, rfl, ?_⟩⟩
        have sF : Same H (L2.upd H F (.lst [])) := same_upd nF
        -- the two ends
        refine ⟨_, rfl, _, rfl, _, _, rfl, rfl, _, rfl, _, _, rfl, rfl, 0, _, rfl, _, rfl, _, rfl, _, _, rfl, szl' (by show 2 ≤ 1000000; decide), fun l nl => ⟨l, rfl, ⟨_, sqL upd_same⟩, ?_⟩⟩
        have eF0 : (L2.upd H F (.lst [])) F = some (.lst []) := upd_same
        generalize L2.upd H F (.lst []) = HF at sF nl eF0 ⊢
        generalize hX1 : (if p.1 * r.2 + r.1 * p.2 - p.2 * r.2 > 0 then p.1 * r.2 + r.1 * p.2 - p.2 * r.2 else 0) = x1
        generalize hX2 : (if r.1 * p.2 < p.1 * r.2 then r.1 * p.2 else p.1 * r.2) = x2
        have ex1 : max 0 (p.1 * r.2 + r.1 * p.2 - p.2 * r.2) = x1 := by rw [← hX1]; split <;> omega
        have ex2 : min (p.1 * r.2) (r.1 * p.2) = x2 := by rw [← hX2]; split <;> omega
        have ech : Lp.cheap2 t0 t1 t2 t3 (p.1 * r.2) (r.1 * p.2) (p.2 * r.2) = min (Lp.edge t0 t1 t2 t3 (p.1 * r.2) (r.1 * p.2) (p.2 * r.2) x1) (Lp.edge t0 t1 t2 t3 (p.1 * r.2) (r.1 * p.2) (p.2 * r.2) x2) := by unfold Lp.cheap2; rw [ex1, ex2]
        have chq : chR [t0, t1, t2, t3] [p, r] wt = (wt * Lp.cheap2 t0 t1 t2 t3 (p.1 * r.2) (r.1 * p.2) (p.2 * r.2), p.2 * r.2) := rfl
        rw [chq, ech] at q
        have xb1 : x1.natAbs < 2 ^ 283 := by rw [← hX1]; split <;> omega
        have xb2 : x2.natAbs < 2 ^ 283 := by rw [← hX2]; split <;> omega
        generalize hX : p.1 * r.2 = X at *
        generalize hY : r.1 * p.2 = Y at *
        generalize hZ : p.2 * r.2 = Z at *
        have sl : Same HF (L2.upd HF l (.lst [.int x1, .int x2])) := same_upd nl
        have yb : ∀ y, y ∈ [x1, x2] → y.natAbs < 2 ^ 283 := fun y hy => by
          rcases List.mem_cons.mp hy with h | h
          · rw [h]; exact xb1
          · rw [List.mem_singleton.mp h]; exact xb2
        have cb : ∀ y : Int, y.natAbs < 2 ^ 283 → (X - y).natAbs < 2 ^ 284 ∧ (Y - y).natAbs < 2 ^ 284 ∧ (Z - X - Y + y).natAbs < 2 ^ 286 := fun y hy => by omega
        have eb : ∀ y : Int, y.natAbs < 2 ^ 283 → (Lp.edge t0 t1 t2 t3 X Y Z y).natAbs < 2 ^ 298 := fun y hy => by
          obtain ⟨k1, k2, k3⟩ := cb y hy
          have j0 := natAbs_mul_lt hy h0
          have j1 := natAbs_mul_lt k1 h1
          have j2 := natAbs_mul_lt k2 h2
          have j3 := natAbs_mul_lt k3 h3
          unfold Lp.edge
          generalize y * t0 = a0 at *
          generalize (X - y) * t1 = a1 at *
          generalize (Y - y) * t2 = a2 at *
          generalize (Z - X - Y + y) * t3 = a3 at *
          omega
        have nlF : l ≠ F := (ne_of_none eF0 nl).symm
        refine for_it (walk_list (xs := [x1, x2].map V.int)) (fun j σ Hi => (∃ v9 v10 : Option V, σ = [some (.ref tb), some (.ref g), some (.int wt), none, none, some (.int X), some (.int Y), some (.int Z), some (.ref F), v9, v10]) ∧ Same H Hi ∧ Hi l = some (.lst ([x1, x2].map V.int)) ∧ Hi F = some (.lst ((([x1, x2].take j).map (Lp.edge t0 t1 t2 t3 X Y Z)).map V.int)))
          (by subst hX1 hX2 hX hY hZ; exact ⟨⟨none, none, rfl⟩, sF.trans (same_upd nl), upd_same, (same_upd nl) _ _ eF0⟩) (fun i σ Hi _ h => sqL h.2.2.1) ?_ ?_
        · rintro j x σ Hi Hi' hj ⟨⟨v9, v10, rfl⟩, si, el, eF⟩ ⟨rfl, hx⟩
          obtain ⟨y, hy, rfl⟩ := ints_at hx
          have hyb := yb y (List.mem_of_getElem? hy)
          obtain ⟨k1, k2, k3⟩ := cb y hyb
          have hT' := (Same.toT si).seq hT
          refine ⟨_, rfl, _, rfl, _, _, rfl, rfl, _, rfl, tb, _, 1, _, rfl, rfl, hT', rfl, _, _, rfl, rfl, mw 283 9 k1 h1 (by decide) (by decide), ?_⟩
          refine ⟨_, rfl, _, rfl, _, _, rfl, rfl, _, rfl, tb, _, 2, _, rfl, rfl, hT', rfl, _, _, rfl, rfl, mw 283 9 k2 h2 (by decide) (by decide), _, _, rfl, rfl, ?_⟩
          refine ⟨_, rfl, _, rfl, _, _, rfl, rfl, _, rfl, _, _, rfl, rfl, _, rfl, _, _, rfl, rfl, _, rfl, tb, _, 3, _, rfl, rfl, hT', rfl, _, _, rfl, rfl, mw 285 9 k3 h3 (by decide) (by decide), _, _, rfl, rfl, ?_⟩
          refine ⟨_, rfl, .inl ⟨rfl, _, sqL eF⟩, ?_⟩
          refine ⟨_, rfl, _, rfl, tb, _, 0, _, rfl, rfl, hT', rfl, _, _, rfl, rfl, mw 282 9 hyb h0 (by decide) (by decide), _, rfl, _, _, rfl, rfl, ?_⟩
          refine ⟨F, _, _, rfl, rfl, eF, szl (by rw [List.length_map, List.length_map, List.length_take]; have : j < 2 := hj; simp; omega), ?_⟩
          refine ⟨⟨_, _, rfl⟩, same_put si nF, by rw [upd_ne nlF]; exact el, ?_⟩
          rw [upd_same, List.take_add_one, hy, List.map_append, List.map_append]
          rfl
        · rintro σ Hi ⟨⟨v9, v10, rfl⟩, si, el, eF⟩
          refine ⟨_, rfl, _, rfl, F, [Lp.edge t0 t1 t2 t3 X Y Z x1, Lp.edge t0 t1 t2 t3 X Y Z x2], rfl, sqL eF, Nat.succ_pos _, fun m hm hmin => ?_⟩
          have g1 := hmin _ (List.mem_cons_self ..)
          have g2 := hmin _ (List.mem_cons_of_mem _ (List.mem_singleton.mpr rfl))
          have hm' : m = Lp.edge t0 t1 t2 t3 X Y Z x1 ∨ m = Lp.edge t0 t1 t2 t3 X Y Z x2 := by
            rcases List.mem_cons.mp hm with h | h
            · exact .inl h
            · exact .inr (List.mem_singleton.mp h)
          have mb : m.natAbs < 2 ^ 298 := by
            rcases hm' with h | h <;> rw [h]
            · exact eb _ xb1
            · exact eb _ xb2
          have em : min (Lp.edge t0 t1 t2 t3 X Y Z x1) (Lp.edge t0 t1 t2 t3 X Y Z x2) = m := by omega
          rw [em] at q
          refine ⟨_, _, rfl, rfl, mw 9 297 wn mb (by decide) (by decide), _, rfl, szl' (by show 2 ≤ 1000000; decide), fun t nt => q _ t (si.trans (same_upd nt)) upd_same⟩
end
end KV
namespace KV
open PySem PySem.Spec PyProof.Rows L2
/-! ### the ratios of the answer -/
def rat (X : Lp.Tab) (x : Int) : Int × Int := Lp.ratio x X.scale
theorem low_bits {p : Int × Int} (h : Lp.Low p) : Bits 140 p := by
  obtain ⟨_, h1, h2, h3, h4⟩ := h
  have e : (10 : Nat) ^ 40 < 2 ^ 140 := by decide
  exact ⟨by omega, by omega⟩
section
variable {I : Lp.Ins} {X : Lp.Tab}
theorem rat_low (F : Lp.Fin I X) {x : Int} (h : Lp.ab x ≤ 10 ^ 40) : Lp.Low (rat X x) :=
  Lp.low_ratio F.sm.d0 (Int.le_trans F.sm.d (by decide)) (Lp.ab_le h).1 (Lp.ab_le h).2
theorem rat_rep (F : Lp.Fin I X) (x : Int) : Lp.Rep X.scale x (rat X x) := Lp.rep_ratio F.sm.d0
theorem sum_rep (F : Lp.Fin I X) (xs : List Int) : Lp.Rep X.scale xs.sum (Lp.addR (xs.map (rat X))) := by
  have := Lp.addR_rep (d := X.scale) (l := xs.map (rat X)) (Xs := xs) (by rw [List.length_map]) (fun i hi => by
    rw [List.length_map] at hi
    rw [Lp.getD_lt 0 hi, Lp.getD_lt (0, 1) (by rw [List.length_map]; exact hi), List.getElem_map]
    exact rat_rep F _) (0, 1) 0 (Lp.rep_zero _)
  rw [Int.zero_add] at this
  exact this
theorem sh_ab (F : Lp.Fin I X) {nm v : Nat} (h : nm < I.n) (hv : v < I.s) : Lp.ab (Lp.shO I X nm v) ≤ 10 ^ 40 := by
  have hlt := Lp.blk_lt (p := nm) (a := I.n) (s := I.s) (v := v) h hv
  have hst : I.n * I.s ≤ I.W := Lp.st_ge I I.q
  exact Int.le_trans (F.x _ (by omega)) (by decide)
theorem pr_ab (F : Lp.Fin I X) {t p v : Nat} (h : t < I.q) (hp : p < I.ar t) (hv : v < I.s) : Lp.ab (Lp.prO I X t p v) ≤ 10 ^ 40 := by
  have hlt := Lp.blk_lt (p := p) (a := I.ar t) (s := I.s) (v := v) hp hv
  have := Lp.of_le I h
  exact Int.le_trans (F.y _ (by omega)) (by decide)
theorem top_ab (F : Lp.Fin I X) {nm : Nat} (h : nm < I.n) : Lp.ab (Lp.topO I X nm) ≤ 10 ^ 40 := by
  have : I.n ≤ I.M := Lp.offN_ge _ _ _
  exact Int.le_trans (F.y _ (by omega)) (by decide)
theorem tot_ab (F : Lp.Fin I X) : Lp.ab (totO I X) ≤ 10 ^ 40 := Int.le_trans F.totb (by decide)
theorem bits_mono {a b : Nat} {p : Int × Int} (h : a ≤ b) (hp : Bits a p) : Bits b p := ⟨Nat.lt_of_lt_of_le hp.1 (Nat.pow_le_pow_right (by decide) h), Nat.lt_of_lt_of_le hp.2 (Nat.pow_le_pow_right (by decide) h)⟩
theorem bits_mul {a b : Nat} {p r : Int × Int} (hp : Bits a p) (hr : Bits b r) (h0 : 0 < a) (h1 : 0 < b) (h : a + b ≤ 1000000) : CMulW p.1 r.2 ∧ CMulW r.1 p.2 := ⟨wide_mul hp.1 hr.2 h0 h1 h, wide_mul hr.1 hp.2 h1 h0 (by omega)⟩
theorem rats_bits (F : Lp.Fin I X) {xs : List Int} (h : ∀ x, x ∈ xs → Lp.ab x ≤ 10 ^ 40) : ∀ p, p ∈ xs.map (rat X) → Bits 140 p := fun p hp => by
  obtain ⟨x, hx, rfl⟩ := List.mem_map.mp hp
  exact low_bits (rat_low F (h x hx))
theorem sum_bits (F : Lp.Fin I X) {xs : List Int} (h : ∀ x, x ∈ xs → Lp.ab x ≤ 10 ^ 40) (hl : xs.length ≤ 50) : Bits 8000 (Lp.addR (xs.map (rat X))) :=
  bits_mono (by rw [List.length_map]; omega) (addR_bits (rats_bits F h))
/-- the prices at a value of a name -/
def valL (I : Lp.Ins) (X : Lp.Tab) (nm v a : Nat) : List Int := (List.range a).flatMap fun t => ((List.range (I.ar t)).filter fun p => decide (I.sc t p = nm)).map fun p => Lp.prO I X t p v
theorem sum_filter (f : Nat → Int) (c : Nat → Bool) : ∀ n, (((List.range n).filter c).map f).sum = Lp.sumN n fun p => if c p = true then f p else 0
  | 0 => rfl
  | n + 1 => by
    rw [List.range_succ, List.filter_append, List.map_append, List.sum_append, sum_filter f c n]
    show _ + (List.map f (List.filter c [n])).sum = Lp.sumN n (fun p => if c p = true then f p else 0) + (if c n = true then f n else 0)
    rw [List.filter_cons]
    split <;> simp
theorem valL_sum (nm v : Nat) : ∀ a, (valL I X nm v a).sum = Lp.sumN a fun t => Lp.sumN (I.ar t) fun p => if I.sc t p = nm then Lp.prO I X t p v else 0
  | 0 => rfl
  | a + 1 => by
    unfold valL
    rw [List.range_succ, List.flatMap_append, List.sum_append]
    have := valL_sum nm v a
    unfold valL at this
    rw [this]
    show _ + (List.flatMap _ [a]).sum = _ + _
    rw [List.flatMap_cons, List.flatMap_nil, List.append_nil, sum_filter]
    simp only [decide_eq_true_eq]
theorem valL_mem {nm v a : Nat} {x : Int} (h : x ∈ valL I X nm v a) : ∃ t p, t < a ∧ p < I.ar t ∧ x = Lp.prO I X t p v := by
  obtain ⟨t, ht, h⟩ := List.mem_flatMap.mp h
  obtain ⟨p, hp, rfl⟩ := List.mem_map.mp h
  exact ⟨t, p, List.mem_range.mp ht, List.mem_range.mp (List.mem_filter.mp hp).1, rfl⟩
theorem valL_succ (nm v a : Nat) : valL I X nm v (a + 1) = valL I X nm v a ++ ((List.range (I.ar a)).filter fun p => decide (I.sc a p = nm)).map fun p => Lp.prO I X a p v := by
  unfold valL
  rw [List.range_succ, List.flatMap_append]
  simp
theorem valL_len (wf : Lp.WF I) (nm v : Nat) : ∀ a, a ≤ I.q → (valL I X nm v a).length ≤ a * 2
  | 0, _ => Nat.le_refl _
  | a + 1, h => by
    have h1 := valL_len wf nm v a (by omega)
    rw [valL_succ, List.length_append, List.length_map]
    have h2 : ((List.range (I.ar a)).filter fun p => decide (I.sc a p = nm)).length ≤ I.ar a := by
      have := List.length_filter_le (fun p => decide (I.sc a p = nm)) (List.range (I.ar a))
      rw [List.length_range] at this
      exact this
    have h3 := wf.ar a (by omega)
    omega
end
section
variable {P : Program} {w : World} {K : PySem.W.Frag} {mg : Str → Option Value} {base : Heap}
theorem sc_law_bounded : FnScope ["_law_costs_here", "_law_instance", "_law_tops", "_law_prices", "_law_size", "_law_at", "_law_which", "_law_scope", "_law_weight", "_law_rows_here", "_law_told", "_law_k", "_law_name", "_law_value", "_law_some", "_law_one", "_law_place"] ["_law_costs_here", "_law_instance", "_law_tops", "_law_prices"] (defScope s_law_bounded) := ⟨rfl, rfl, rfl, by decide +kernel, rfl, by decide +kernel, by decide +kernel⟩
def sp_bounded (K : PySem.W.Frag) : Sp := fun vs H Q _ => ∃ (I : Lp.Ins) (X : Lp.Tab) (c v tp pr : V), vs = [c, v, tp, pr] ∧ At K H (costsD I) c ∧ At K H (insD I) v ∧ At K H (.t ((List.range I.n).map (tpD I X))) tp ∧ At K H (.t ((List.range I.q).map (prT I X))) pr ∧ WF2 I ∧ Lp.Fin I X ∧ ∀ H', Same H H' → Q (.bl true) H'
theorem ok_law_bounded (T : Txt K mg) : FnOk P w K mg base CX0 3 T.a_law_bounded T.d_law_bounded ["_law_costs_here", "_law_instance", "_law_tops", "_law_prices"] (sp_bounded K) := by
  have G_law_rows : FnOk P w K mg base CX0 1 T.a_law_rows T.d_law_rows ["_law_size", "_law_arity"] (sp_all_rows K) := ok_law_rows T
  have G_law_ratio : FnOk P w K mg base CX0 2 T.a_law_ratio T.d_law_ratio ["_law_value"] (sp_ratio K) := ok_law_ratio T
  have G_law_added : FnOk P w K mg base CX0 1 T.a_law_added T.d_law_added ["_law_some"] (sp_added K) := ok_law_added T
  have G_law_below : FnOk P w K mg base CX0 1 T.a_law_below T.d_law_below ["_law_one", "_law_other"] (sp_below K) := ok_law_below T
  refine T.F_law_bounded.ok sc_law_bounded (fun vs H Q E h => ?_) (fun cdv A outer s H vs Q E hr h => ?_)
  · obtain ⟨I, X, c, v, tp, pr, rfl, _⟩ := h; rfl
  · obtain ⟨I, X, c, v, tp, pr, rfl, hC, hA, hTp, hPr, w, F, q⟩ := h
    have wf := w.wf
    have d0 := F.sm.d0
    have hs3 := w.s3
    have hn4 := w.n
    have hq5 : I.q ≤ 5 := w.q
    obtain ⟨ca, cs, rfl, hcT, hcl, _, hci⟩ := hC.ix
    obtain ⟨c0, ec0, hc0⟩ := hci 0 _ rfl
    obtain rfl := at_i hc0
    obtain ⟨c1, ec1, hc1⟩ := hci 1 _ rfl
    obtain ⟨b, fs, rfl, hb, hfl, hfs, _⟩ := hc1.ix
    obtain ⟨ia, is_, rfl, hiT, hil, _, hii⟩ := hA.ix
    obtain ⟨i0, ei0, hi0⟩ := hii 0 _ rfl
    obtain rfl := at_i hi0
    obtain ⟨i1, ei1, hi1⟩ := hii 1 _ rfl
    obtain ⟨ta, ts, rfl, hts, htl, hta, _⟩ := hi1.ix
    rw [List.length_map] at htl
    have htq : ts.length = I.q := htl
    obtain ⟨tpa, tps, rfl, htpT, _, _, htpi⟩ := hTp.ix
    obtain ⟨pra, prs, rfl, hprT, _, _, hpri⟩ := hPr.ix
    -- a term, its scope and its prices
    have term : ∀ i, i < I.q → ∃ (a sa pa : Addr) (pvs : List V), atI ts (i : Int) = some (.ref a) ∧ SqT K H a [.int ((I.t i).which : Nat), .ref sa, .int (I.t i).w] ∧ SqT K H sa ((I.t i).scope.map fun x : Nat => V.int (x : Int)) ∧ atI prs (i : Int) = some (.ref pa) ∧ SqT K H pa pvs ∧ Ats K H ((List.range (I.ar i)).map (prD I X i)) pvs := fun i hiq => by
      obtain ⟨u, hu, hAt⟩ := hta.get (j := i) (d := trmD (I.t i)) (by rw [List.getElem?_map, (w.tm hiq).1]; rfl)
      obtain ⟨a, us, rfl, hT, hl, _, hi'⟩ := hAt.ix
      obtain ⟨w0, ew0, hw0⟩ := hi' 0 _ rfl
      obtain rfl := at_i hw0
      obtain ⟨w1, ew1, hw1⟩ := hi' 1 _ rfl
      obtain ⟨sa, rfl, hsa⟩ := at_row hw1
      obtain ⟨w2, ew2, hw2⟩ := hi' 2 _ rfl
      obtain rfl := at_i hw2
      have hus : us = [.int ((I.t i).which : Nat), .ref sa, .int (I.t i).w] := by
        have l3 : us.length = 3 := hl
        match us, l3, ew0, ew1, ew2 with
        | [x0, x1, x2], _, ew0, ew1, ew2 =>
          cases (Option.some.inj ew0); cases (Option.some.inj ew1); cases (Option.some.inj ew2); rfl
      subst hus
      obtain ⟨pv_, ep, hp⟩ := hpri i (prT I X i) (by rw [List.getElem?_map, List.getElem?_range hiq]; rfl)
      obtain ⟨pa, pvs, rfl, hpT, _, hpa, _⟩ := hp.ix
      exact ⟨a, sa, pa, pvs, atI_nat hu, hT, hsa, ep, hpT, hpa⟩
    -- a price of a place
    have price : ∀ {H' : Hp} {i : Nat} {pvs : List V} {p v : Nat}, Same H H' → p < I.ar i → v < I.s → Ats K H ((List.range (I.ar i)).map (prD I X i)) pvs → ∃ (da : Addr) (dvs : List V) (u : V), atI pvs (p : Int) = some (.ref da) ∧ SqT K H' da dvs ∧ atI dvs (v : Int) = some u ∧ At K H' (ratD (rat X (Lp.prO I X i p v))) u := fun {H' i pvs p v} s hp hv ha => by
      obtain ⟨u, eu, hu⟩ := ha.get (j := p) (d := prD I X i p) (by rw [List.getElem?_map, List.getElem?_range hp]; rfl)
      obtain ⟨da, dvs, rfl, hdT, _, hda, _⟩ := (At.same (Same.toT s) hu).ix
      obtain ⟨u2, eu2, hu2⟩ := hda.get (j := v) (d := ratD (rat X (Lp.prO I X i p v))) (by rw [List.getElem?_map, List.getElem?_range hv]; rfl)
      exact ⟨da, dvs, u2, atI_nat eu, hdT, atI_nat eu2, hu2⟩
    refine ⟨_, (pss_cons (ps_set (i := 4) sc_law_bounded.nd rfl (Or.inl rfl) (pe_ix ix_tup (pv 0) pe_int (fun _ _ => rfl)))
      (pss_cons (ps_for PassesOwn.never rfl (pi_range1 (by rfl) T.z_range (pa_cons (pe_callB call_len_seq (by rfl) T.z_len (by decide +kernel) (pa_cons (pe_ix ix_tup (pv 1) pe_int (fun _ _ => rfl)) pa_nil)) pa_nil)) (pg_name (i := 5) sc_law_bounded.nd rfl (Or.inr rfl))
        (pss_cons (ps_asg (pe_ix ix_tup (pe_ix ix_tup (pv 1) pe_int (fun _ _ => rfl)) (pv 5) (fun _ _ => rfl)) (pg_tup rfl (pgs_cons (pg_name (i := 6) sc_law_bounded.nd rfl (Or.inl rfl)) (pgs_cons (pg_name (i := 7) sc_law_bounded.nd rfl (Or.inr rfl)) (pgs_cons (pg_name (i := 8) sc_law_bounded.nd rfl (Or.inl rfl)) pgs_nil)))))
          (pss_cons (ps_set (i := 9) sc_law_bounded.nd rfl (Or.inr rfl) (pe_call G_law_rows (hr.mono (by decide)) (by rfl) T.g_law_rows T.F_law_rows.kp T.b_law_rows .nil pass0 (pa_cons (pv 4) (pa_cons (pe_callB call_len_seq (by rfl) T.z_len (by decide +kernel) (pa_cons (pv 7) pa_nil)) pa_nil))))
          (pss_cons (ps_if (PW.pt (pw_or (pt_not (pt_val (pe_callB call_isi (by rfl) T.z_isinstance (by decide +kernel) (pa_cons (pe_ix ix_tup (pv 3) (pv 5) (fun _ _ => rfl)) (pa_cons (pe_bltn (v := .ty "tuple") (u := .type "tuple") (by rfl) T.z_tuple (by decide +kernel) rfl) pa_nil))))) (pw_or1 (pt_cmpR op_ne (pe_callB call_len_seq (by rfl) T.z_len (by decide +kernel) (pa_cons (pe_ix ix_tup (pv 3) (pv 5) (fun _ _ => rfl)) pa_nil)) (pe_callB call_len_seq (by rfl) T.z_len (by decide +kernel) (pa_cons (pv 7) pa_nil)) (nomark _)))))
            (pss_one (ps_ret pe_bl))
            pss_nil)
          (pss_cons (ps_for PassesOwn.never rfl (pi_tup (pe_ix ix_tup (pv 3) (pv 5) (fun _ _ => rfl))) (pg_name (i := 10) sc_law_bounded.nd rfl (Or.inl rfl))
            (pss_one (ps_if (PW.pt (pw_or (pt_not (pt_val (pe_callB call_isi (by rfl) T.z_isinstance (by decide +kernel) (pa_cons (pv 10) (pa_cons (pe_bltn (v := .ty "tuple") (u := .type "tuple") (by rfl) T.z_tuple (by decide +kernel) rfl) pa_nil))))) (pw_or (pt_cmpR op_ne (pe_callB call_len_seq (by rfl) T.z_len (by decide +kernel) (pa_cons (pv 10) pa_nil)) (pv 4) (nomark _)) (pw_or1 (pt_cmpR (op_neD hr.units) (pe_lc (own := [("_law_one", 15)]) (by rfl) sc_law_bounded.nd (pi_tup (pv 10)) (blkOk_by (own := [("_law_one", 15)]) (N := ["_law_costs_here", "_law_instance", "_law_tops", "_law_prices", "_law_size", "_law_at", "_law_which", "_law_scope", "_law_weight", "_law_rows_here", "_law_told", "_law_k", "_law_name", "_law_value", "_law_some", "_law_one", "_law_place"]) (sc := defScope s_law_bounded) (by decide +kernel)) (fun _ _ _ _ _ => (pg_name (i := 15) sc_law_bounded.nd rfl (Or.inl rfl))) (fun _ _ _ _ _ => (pts_one (pt_not (pt_val (pe_call G_law_ratio (hr.mono (by decide)) (by rfl) T.g_law_ratio T.F_law_ratio.kp T.b_law_ratio .nil pass0 (pa_cons (pv 15) pa_nil)))))) (fun _ _ _ _ _ => (pv 15))) (pe_lst pa_nil) (nomark _))))))
                (pss_one (ps_ret pe_bl))
                pss_nil)))
          (pss_one (ps_for PassesOwn.never rfl (pi_range1 (by rfl) T.z_range (pa_cons (pe_callB call_len_seq (by rfl) T.z_len (by decide +kernel) (pa_cons (pv 9) pa_nil)) pa_nil)) (pg_name (i := 11) sc_law_bounded.nd rfl (Or.inr rfl))
            (pss_cons (ps_set (i := 10) sc_law_bounded.nd rfl (Or.inl rfl) (pe_call G_law_added (hr.mono (by decide)) (by rfl) T.g_law_added T.F_law_added.kp T.b_law_added .nil pass0 (pa_cons (pe_lc (own := [("_law_place", 16)]) (by rfl) sc_law_bounded.nd (pi_range1 (by rfl) T.z_range (pa_cons (pe_callB call_len_seq (by rfl) T.z_len (by decide +kernel) (pa_cons (pv 7) pa_nil)) pa_nil)) (blkOk_by (own := [("_law_place", 16)]) (N := ["_law_costs_here", "_law_instance", "_law_tops", "_law_prices", "_law_size", "_law_at", "_law_which", "_law_scope", "_law_weight", "_law_rows_here", "_law_told", "_law_k", "_law_name", "_law_value", "_law_some", "_law_one", "_law_place"]) (sc := defScope s_law_bounded) (by decide +kernel)) (fun _ _ _ _ _ => (pg_name (i := 16) sc_law_bounded.nd rfl (Or.inl rfl))) (fun _ _ _ _ _ => pts_nil) (fun _ _ _ _ _ => (kix_tup K rfl (kix_tup K rfl (kix_tup K rfl (pv 3) (pv 5) (fun _ _ => rfl)) (pv 16) (fun _ _ => rfl)) (kix_tup K rfl (kix_list K rfl (pv 9) (pv 11) (fun _ _ => rfl)) (pv 16) (fun _ _ => rfl)) (fun _ _ => rfl)))) pa_nil)))
              (pss_one (ps_if (pt_not (pt_val (pe_call G_law_below (hr.mono (by decide)) (by rfl) T.g_law_below T.F_law_below.kp T.b_law_below .nil pass0 (pa_cons (pv 10) (pa_cons (pe_tup (pa_cons (pe_op op_mulW (pv 8) (pe_ix ix_tup (pe_ix ix_tup (pe_ix ix_tup (pe_ix ix_tup (pv 0) pe_int (fun _ _ => rfl)) (pv 6) (fun _ _ => rfl)) pe_int (fun _ _ => rfl)) (pv 11) (fun _ _ => rfl))) (pa_cons pe_int pa_nil))) pa_nil)))))
                (pss_one (ps_ret pe_bl))
                pss_nil))))))))))
      (pss_cons (ps_for PassesOwn.never rfl (pi_range1 (by rfl) T.z_range (pa_cons (pe_ix ix_tup (pv 1) pe_int (fun _ _ => rfl)) pa_nil)) (pg_name (i := 12) sc_law_bounded.nd rfl (Or.inr rfl))
        (pss_one (ps_for PassesOwn.never rfl (pi_range1 (by rfl) T.z_range (pa_cons (pv 4) pa_nil)) (pg_name (i := 13) sc_law_bounded.nd rfl (Or.inr rfl))
            (pss_cons (ps_set (i := 14) sc_law_bounded.nd rfl (Or.inl rfl) (pe_lst pa_nil))
              (pss_cons (ps_for PassesOwn.never rfl (pi_range1 (by rfl) T.z_range (pa_cons (pe_callB call_len_seq (by rfl) T.z_len (by decide +kernel) (pa_cons (pe_ix ix_tup (pv 1) pe_int (fun _ _ => rfl)) pa_nil)) pa_nil)) (pg_name (i := 5) sc_law_bounded.nd rfl (Or.inr rfl))
                (pss_cons (ps_set (i := 7) sc_law_bounded.nd rfl (Or.inr rfl) (pe_ix ix_tup (pe_ix ix_tup (pe_ix ix_tup (pv 1) pe_int (fun _ _ => rfl)) (pv 5) (fun _ _ => rfl)) pe_int (fun _ _ => rfl)))
                  (pss_one (ps_set (i := 14) sc_law_bounded.nd rfl (Or.inl rfl) (pe_op op_cat (pv 14) (pe_lc (own := [("_law_place", 16)]) (by rfl) sc_law_bounded.nd (pi_range1 (by rfl) T.z_range (pa_cons (pe_callB call_len_seq (by rfl) T.z_len (by decide +kernel) (pa_cons (pv 7) pa_nil)) pa_nil)) (blkOk_by (own := [("_law_place", 16)]) (N := ["_law_costs_here", "_law_instance", "_law_tops", "_law_prices", "_law_size", "_law_at", "_law_which", "_law_scope", "_law_weight", "_law_rows_here", "_law_told", "_law_k", "_law_name", "_law_value", "_law_some", "_law_one", "_law_place"]) (sc := defScope s_law_bounded) (by decide +kernel)) (fun _ _ _ _ _ => (pg_name (i := 16) sc_law_bounded.nd rfl (Or.inl rfl))) (fun _ _ _ _ _ => (pts_one (pt_cmpR op_eq (kix_tup K rfl (pv 7) (pv 16) (fun _ _ => rfl)) (pv 12) (nomark _)))) (fun _ _ _ _ _ => (kix_tup K rfl (kix_tup K rfl (kix_tup K rfl (pv 3) (pv 5) (fun _ _ => rfl)) (pv 16) (fun _ _ => rfl)) (pv 13) (fun _ _ => rfl)))))))))
              (pss_one (ps_if (pt_not (pt_val (pe_call G_law_below (hr.mono (by decide)) (by rfl) T.g_law_below T.F_law_below.kp T.b_law_below .nil pass0 (pa_cons (pe_ix ix_tup (pv 2) (pv 12) (fun _ _ => rfl)) (pa_cons (pe_call G_law_added (hr.mono (by decide)) (by rfl) T.g_law_added T.F_law_added.kp T.b_law_added .nil pass0 (pa_cons (pv 14) pa_nil)) pa_nil)))))
                (pss_one (ps_ret pe_bl))
                pss_nil)))))))
      (pss_one (ps_ret pe_bl))))), ?_⟩
    refine ⟨_, rfl, ca, cs, 0, _, rfl, rfl, hcT, ec0, ?_⟩
    refine ⟨_, rfl, ia, is_, 1, _, rfl, rfl, hiT, ei1, ta, _, rfl, .inr hts, (I.q : Int), congrArg (fun n : Nat => [V.int (n : Int)]) htq, by omega, by omega, ?_⟩
    refine for_it (walk_rg (n := I.q)) (fun i σ Hi => (∃ v5 v6 v7 v8 v9 v10 v11 : Option V, σ = [some (.ref ca), some (.ref ia), some (.ref tpa), some (.ref pra), some (.int I.s), v5, v6, v7, v8, v9, v10, v11, none, none, none, none, none]) ∧ Same H Hi)
      ⟨⟨none, none, none, none, none, none, none, rfl⟩, Same.refl H⟩ (fun _ _ _ _ _ => trivial) ?_ ?_
    · rintro i x σ Hi Hi' hi ⟨⟨v5, v6, v7, v8, v9, v10, v11, rfl⟩, si⟩ ⟨rfl, rfl⟩
      have hiq : i < I.q := hi
      obtain ⟨a, sa, pa, pvs, ea, hT, hsa, ep, hpT, hpa⟩ := term i hiq
      have har := wf.ar i hiq
      have hpl : pvs.length = I.ar i := by rw [hpa.length, List.length_map, List.length_range]
      have hsl : ((I.t i).scope.map fun x : Nat => V.int (x : Int)).length = I.ar i := List.length_map ..
      have Ti := Same.toT si
      refine ⟨_, rfl, ia, is_, 1, _, rfl, rfl, Ti.seq hiT, ei1, _, rfl, ta, ts, (i : Int), _, rfl, rfl, Ti.seq hts, ea, a, _, rfl, Ti.seq hT, rfl, _, _, rfl, _, _, rfl, _, _, rfl, rfl, ?_⟩
      refine ⟨_, rfl, _, rfl, sa, _, rfl, .inr (Ti.seq hsa), I.s, I.ar i, congrArg (fun n : Nat => [V.int (I.s : Int), V.int (n : Int)]) hsl, hs3, by omega, fun H2 l lvs s2 nl el hla => ?_⟩
      have sH2 : Same H H2 := si.trans s2
      have T2 := Same.toT sH2
      have hll : lvs.length = I.ll i := by rw [hla.length, List.length_map]; rfl
      refine ⟨_, rfl, _, rfl, pra, prs, (i : Int), _, rfl, rfl, T2.seq hprT, ep, _, _, _, _, true, rfl, .ty "tuple", tyT (T2.seq hpT), kit_ty (by decide +kernel), true, rfl, ?_⟩
      refine ⟨_, rfl, _, rfl, pra, prs, (i : Int), _, rfl, rfl, T2.seq hprT, ep, pa, pvs, rfl, .inr (T2.seq hpT), _, rfl, sa, _, rfl, .inr (T2.seq hsa), rfl, _, rfl, iteNS (by rw [hpl, hsl]) ?_⟩
      -- the prices of each place
      refine ⟨_, rfl, _, rfl, pra, prs, (i : Int), _, rfl, rfl, T2.seq hprT, ep, pa, rfl, ⟨_, T2.seq hpT⟩, ?_⟩
      refine for_it walk_tup (fun p σ Hj => (∃ v10 : Option V, σ = [some (.ref ca), some (.ref ia), some (.ref tpa), some (.ref pra), some (.int I.s), some (.int (i : Nat)), some (.int ((I.t i).which : Nat)), some (.ref sa), some (.int (I.t i).w), some (.ref l), v10, v11, none, none, none, none, none]) ∧ Same H2 Hj)
        ⟨⟨v10, rfl⟩, Same.refl _⟩ (fun p σ Hj _ h => (Same.toT (sH2.trans h.2)).seq hpT) ?_ ?_
      · rintro p x σ Hj Hj' hp ⟨⟨v10, rfl⟩, sj⟩ ⟨rfl, hx⟩
        rw [hpl] at hp
        have sHj := sH2.trans sj
        obtain ⟨dd, hd, hdx⟩ := hpa.item hx
        rw [List.getElem?_map, List.getElem?_range hp] at hd
        cases hd
        obtain ⟨da, dvs, rfl, hdT, hdl, hda, _⟩ := (At.same (Same.toT sHj) hdx).ix
        rw [List.length_map, List.length_range] at hdl
        refine ⟨_, rfl, _, _, _, _, true, rfl, .ty "tuple", tyT hdT, kit_ty (by decide +kernel), true, rfl, ?_⟩
        refine ⟨_, rfl, da, dvs, rfl, .inr hdT, _, rfl, rfl, _, rfl, iteNS (by rw [hdl]) ?_⟩
        refine ⟨_, rfl, da, rfl, ⟨_, hdT⟩, fun D hD => ?_⟩
        refine lc_it walk_tup (fun k Hk => Same Hj' Hk ∧ Hk D = some (.lst [])) ⟨same_upd hD, upd_same⟩ (fun k Hk _ h => (Same.toT h.1).seq hdT) ?_ ?_
        · rintro k x Hk Hk' hk ⟨sk, eD⟩ ⟨rfl, hx⟩
          rw [hdl] at hk
          obtain ⟨dd, hd, hdx⟩ := hda.item hx
          rw [List.getElem?_map, List.getElem?_range hk] at hd
          cases hd
          exact ⟨rfl, _, rfl, x, rat X (Lp.prO I X i p k), rfl, At.same (Same.toT sk) hdx, rat_low F (pr_ab F hiq hp hk), true, rfl, sk, eD⟩
        · rintro Hk ⟨sk, eD⟩
          refine ⟨Nat.zero_le _, fun D0 hD0 => ?_⟩
          have s3 : Same Hk (L2.upd Hk D0 (.lst [])) := same_upd hD0
          refine ⟨.list [], .list [], .lst (sqL (s3 _ _ eD)) .nil, .lst (sqL upd_same) .nil, by decide +kernel, by decide +kernel, _, rfl, ?_⟩
          exact ⟨⟨_, rfl⟩, sj.trans (sk.trans s3)⟩
      · rintro σ Hj ⟨⟨v10, rfl⟩, sj⟩
        have sHj := sH2.trans sj
        have elj := sj _ _ el
        have hllb : I.ll i ≤ 9 := by
          rw [wf.ll hiq]
          have : I.s ^ I.ar i ≤ 3 ^ I.ar i := Nat.pow_le_pow_left hs3 _
          rcases har with e | e <;> rw [e] at this ⊢ <;> omega
        refine ⟨_, rfl, l, lvs, rfl, .inl (sqL elj), (I.ll i : Int), congrArg (fun n : Nat => [V.int (n : Int)]) hll, by omega, by omega, ?_⟩
        refine for_it (walk_rg (n := I.ll i)) (fun k σ Hk => (∃ v10 v11 : Option V, σ = [some (.ref ca), some (.ref ia), some (.ref tpa), some (.ref pra), some (.int I.s), some (.int (i : Nat)), some (.int ((I.t i).which : Nat)), some (.ref sa), some (.int (I.t i).w), some (.ref l), v10, v11, none, none, none, none, none]) ∧ Same Hj Hk)
          ⟨⟨v10, v11, rfl⟩, Same.refl _⟩ (fun _ _ _ _ _ => trivial) ?_ ?_
        · rintro k x σ Hk Hk' hk ⟨⟨v10, v11, rfl⟩, sk⟩ ⟨rfl, rfl⟩
          have hk' : k < I.ll i := hk
          have sHk := sHj.trans sk
          have Tk := Same.toT sHk
          have hkl : k < (I.lot i).length := hk'
          obtain ⟨rwv, erw, hrw⟩ := hla.get (j := k) (d := rowD ((I.lot i).getD k [])) (by rw [List.getElem?_map, Lp.getD_lt [] hkl]; exact congrArg (Option.map rowD) (List.getElem?_eq_getElem hkl))
          obtain ⟨rwa, rfl, hrwT⟩ := at_row (At.same (Same.toT (sj.trans sk)) hrw)
          have hrl : ((I.lot i).getD k []).length = I.ar i := rowsN_elt I.s (I.ar i) _ (by rw [Lp.getD_lt [] hkl]; exact List.getElem_mem hkl)
          have elk := sk _ _ elj
          refine ⟨_, rfl, sa, _, rfl, .inr (Tk.seq hsa), (I.ar i : Int), congrArg (fun n : Nat => [V.int (n : Int)]) hsl, by omega, by omega, fun D hD => ?_⟩
          refine lc_it (walk_rg (n := I.ar i)) (fun p Hm => Same Hk' Hm ∧ DL K Hm D ((((List.range p).map fun p => Lp.prO I X i p (I.lv i k p)).map (rat X)).map ratD)) ⟨same_upd hD, [], upd_same, rfl⟩ (fun _ _ _ _ => trivial) ?_ ?_
          · rintro p x Hm Hm' hp ⟨sm, hDL⟩ ⟨rfl, rfl⟩
            have hp' : p < I.ar i := hp
            have sHm := sHk.trans sm
            have Tm := Same.toT sHm
            obtain ⟨da, dvs, u, epd, hdT, eu, hu⟩ := price sHm hp' (wf.lv hiq hk' hp') hpa
            obtain ⟨acc, eD, _⟩ := id hDL
            refine ⟨rfl, _, rfl, _, rfl, pra, prs, (i : Int), _, rfl, rfl, Tm.seq hprT, ep, _, rfl, pa, pvs, (p : Int), _, rfl, rfl, Tm.seq hpT, epd, _, rfl, _, rfl, l, lvs, (k : Int), _, rfl, rfl, sqL (sm _ _ elk), atI_nat erw, _, rfl, rwa, _, (p : Int), .int ((I.lv i k p : Nat) : Int), rfl, rfl, (Same.toT sm).seq hrwT, ?_, da, dvs, _, u, rfl, rfl, hdT, eu, acc, eD, szl ?_, same_put sm hD, ?_⟩
            · refine atI_nat ?_
              rw [List.getElem?_map, List.getElem?_eq_getElem (by omega)]
              show some (V.int _) = some (V.int ((((I.lot i).getD k []).getD p 0 : Nat) : Int))
              rw [Lp.getD_lt 0 (by omega)]
            · rw [hDL.len eD, List.length_map, List.length_map, List.length_map, List.length_range]; omega
            · rw [List.range_succ, List.map_append, List.map_append, List.map_append]
              exact hDL.push eD hu
          · rintro Hm ⟨sm, dvs, eD, hda⟩
            generalize hxs : ((List.range (I.ar i)).map fun p => Lp.prO I X i p (I.lv i k p)) = xs at hda
            have hxl : xs.length ≤ 50 := by rw [← hxs, List.length_map, List.length_range]; omega
            have hxb : ∀ x, x ∈ xs → Lp.ab x ≤ 10 ^ 40 := fun x hx => by
              rw [← hxs] at hx
              obtain ⟨p, hp, rfl⟩ := List.mem_map.mp hx
              have hp := List.mem_range.mp hp
              exact pr_ab F hiq hp (wf.lv hiq hk' hp)
            have hsum : xs.sum = Lp.sumN (I.ar i) fun p => Lp.prO I X i p (I.lv i k p) := by rw [← hxs, sum_range]
            refine ⟨D, dvs, xs.map (rat X), 140, rfl, .inl (sqL eD), hda, rats_bits F hxb, by decide, by decide, by rw [List.length_map]; exact hxl, fun H3 t s3 et => ?_⟩
            have sH3 := (sHk.trans sm).trans s3
            have T3 := Same.toT sH3
            have tw := w.t _ (w.tm hiq).2
            have fm := w.fn tw.1
            obtain ⟨fv, efv, hfv⟩ := hfs.get (j := (I.t i).which) (d := fnD (I.fns.getD (I.t i).which (0, []))) (by rw [List.getElem?_map, fm.1]; rfl)
            obtain ⟨fa, fus, rfl, hfT, _, _, hfi⟩ := hfv.ix
            obtain ⟨g1, eg1, hg1⟩ := hfi 1 _ rfl
            obtain ⟨ga, rfl, hga⟩ := at_ints hg1
            have hat : k < (I.tab i).length := by rw [wf.tl i hiq, ← wf.ll hiq]; exact hk'
            have tbb := wf.tb i k hiq
            have ww := wf.w i hiq
            have cbb := Lp.WF.cb wf k hiq
            have ec : (I.t i).w * (I.tab i).getD k 0 = I.c i k := Int.mul_comm _ _
            refine ⟨_, rfl, _, rfl, _, rfl, ca, cs, 1, _, rfl, rfl, T3.seq hcT, ec1, _, rfl, b, fs, ((I.t i).which : Nat), _, rfl, rfl, T3.seq hb, atI_nat efv, fa, fus, 1, _, rfl, rfl, T3.seq hfT, eg1, _, rfl, ga, _, (k : Int), .int ((I.tab i).getD k 0), rfl, rfl, T3.seq hga, int_at hat, _, _, rfl, rfl, wide_mul (a := 16) (b := 16) (by omega) (by omega) (by decide) (by decide) (by decide), szl' (by show 2 ≤ 1000000; decide), fun t2 nt2 => ?_⟩
            have s4 : Same H3 (L2.upd H3 t2 (.tup [.int ((I.t i).w * (I.tab i).getD k 0), .int 1])) := same_upd nt2
            have B1 := sum_bits F hxb hxl
            have B2 : Bits 64 (I.c i k, 1) := ⟨by show (I.c i k).natAbs < _; omega, by show (1 : Int).natAbs < _; decide⟩
            have bm := bits_mul B1 B2 (by decide) (by decide) (by decide)
            have le : xs.sum ≤ X.scale * I.c i k := by rw [hsum]; exact F.C.row i k hiq hk'
            have below := Lp.rep_below d0 (sum_rep F xs) (Lp.rep_int X.scale (I.c i k)) le
            refine ⟨.ref t, .ref t2, _, (I.c i k, 1), rfl, at_rat (sqT (s4 _ _ et)), at_rat (sqT ?_), bm.1, bm.2, below, true, rfl, ⟨some (.ref t), some (.int (k : Nat)), rfl⟩, ((sk.trans sm).trans s3).trans s4⟩
            rw [← ec]; exact upd_same
        · rintro σ Hk ⟨⟨v10, v11, rfl⟩, sk⟩
          exact ⟨⟨_, _, _, _, _, v10, v11, rfl⟩, sHj.trans sk⟩
    · rintro σ Hi ⟨⟨v5, v6, v7, v8, v9, v10, v11, rfl⟩, si⟩
      refine ⟨_, rfl, ia, is_, 0, _, rfl, rfl, (Same.toT si).seq hiT, ei0, (I.n : Int), rfl, by omega, by omega, ?_⟩
      refine for_it (walk_rg (n := I.n)) (fun nm σ Hn => (∃ v5 v7 v12 v13 v14 : Option V, σ = [some (.ref ca), some (.ref ia), some (.ref tpa), some (.ref pra), some (.int I.s), v5, v6, v7, v8, v9, v10, v11, v12, v13, v14, none, none]) ∧ Same H Hn)
        ⟨⟨v5, v7, none, none, none, rfl⟩, si⟩ (fun _ _ _ _ _ => trivial) ?_ ?_
      · rintro nm x σ Hn Hn' hnm ⟨⟨v5, v7, v12, v13, v14, rfl⟩, sn⟩ ⟨rfl, rfl⟩
        have hnm' : nm < I.n := hnm
        refine ⟨_, rfl, (I.s : Int), rfl, by omega, by omega, ?_⟩
        refine for_it (walk_rg (n := I.s)) (fun v σ Hv => (∃ v5 v7 v13 v14 : Option V, σ = [some (.ref ca), some (.ref ia), some (.ref tpa), some (.ref pra), some (.int I.s), v5, v6, v7, v8, v9, v10, v11, some (.int (nm : Nat)), v13, v14, none, none]) ∧ Same H Hv)
          ⟨⟨v5, v7, v13, v14, rfl⟩, sn⟩ (fun _ _ _ _ _ => trivial) ?_ ?_
        · rintro v x σ Hv Hv' hv ⟨⟨v5, v7, v13, v14, rfl⟩, sv⟩ ⟨rfl, rfl⟩
          have hv' : v < I.s := hv
          refine ⟨Nat.zero_le _, fun S0 nS0 => ?_⟩
          have sS : Same Hv' (L2.upd Hv' S0 (.lst [])) := same_upd nS0
          refine ⟨_, rfl, ia, is_, 1, _, rfl, rfl, (Same.toT (sv.trans sS)).seq hiT, ei1, ta, _, rfl, .inr ((Same.toT (sv.trans sS)).seq hts), (I.q : Int), congrArg (fun n : Nat => [V.int (n : Int)]) htq, by omega, by omega, ?_⟩
          refine for_it (walk_rg (n := I.q)) (fun i σ Hi => ∃ (S : Addr) (v5 v7 : Option V), σ = [some (.ref ca), some (.ref ia), some (.ref tpa), some (.ref pra), some (.int I.s), v5, v6, v7, v8, v9, v10, v11, some (.int (nm : Nat)), some (.int (v : Nat)), some (.ref S), none, none] ∧ Same H Hi ∧ DL K Hi S (((valL I X nm v i).map (rat X)).map ratD))
            ⟨S0, v5, v7, rfl, sv.trans sS, [], upd_same, rfl⟩ (fun _ _ _ _ _ => trivial) ?_ ?_
          · rintro i x σ Hi Hi' hi ⟨S, v5, v7, rfl, si, hDL⟩ ⟨rfl, rfl⟩
            have hiq : i < I.q := hi
            obtain ⟨a, sa, pa, pvs, ea, hT, hsa, ep, hpT, hpa⟩ := term i hiq
            have har := wf.ar i hiq
            have hsl : ((I.t i).scope.map fun x : Nat => V.int (x : Int)).length = I.ar i := List.length_map ..
            have Ti := Same.toT si
            obtain ⟨svs, eS, hsa2⟩ := id hDL
            refine ⟨_, rfl, ia, is_, 1, _, rfl, rfl, Ti.seq hiT, ei1, _, rfl, ta, ts, (i : Int), _, rfl, rfl, Ti.seq hts, ea, a, _, 1, _, rfl, rfl, Ti.seq hT, rfl, ?_⟩
            refine ⟨_, rfl, _, rfl, sa, _, rfl, .inr (Ti.seq hsa), (I.ar i : Int), congrArg (fun n : Nat => [V.int (n : Int)]) hsl, by omega, by omega, fun D hD => ?_⟩
            refine lc_it (walk_rg (n := I.ar i)) (fun p Hm => Same Hi' Hm ∧ DL K Hm D (((((List.range p).filter fun p => decide (I.sc i p = nm)).map fun p => Lp.prO I X i p v).map (rat X)).map ratD)) ⟨same_upd hD, [], upd_same, rfl⟩ (fun _ _ _ _ => trivial) ?_ ?_
            · rintro p x Hm Hm' hp ⟨sm, hDD⟩ ⟨rfl, rfl⟩
              have hp' : p < I.ar i := hp
              have hps : p < (I.t i).scope.length := hp
              have sHm := si.trans sm
              have Tm := Same.toT sHm
              obtain ⟨da, dvs, u, epd, hdT, eu, hu⟩ := price sHm hp' hv' hpa
              obtain ⟨acc, eD, _⟩ := id hDD
              refine ⟨rfl, _, rfl, _, rfl, sa, _, (p : Int), .int ((I.sc i p : Nat) : Int), rfl, rfl, Tm.seq hsa, ?_, _, rfl, rfl, _, rfl, ite2 (fun e => ?_) (fun e => ?_)⟩
              · refine atI_nat ?_
                rw [List.getElem?_map, List.getElem?_eq_getElem hps]
                show some (V.int _) = some (V.int (((I.t i).scope.getD p 0 : Nat) : Int))
                rw [Lp.getD_lt 0 hps]
              · have e1 : I.sc i p = nm := by
                  have := V.int.inj (of_decide_eq_true e)
                  omega
                have ef : (List.range (p + 1)).filter (fun p => decide (I.sc i p = nm)) = (List.range p).filter (fun p => decide (I.sc i p = nm)) ++ [p] := by
                  rw [List.range_succ, List.filter_append, List.filter_cons, if_pos (decide_eq_true e1)]; rfl
                refine ⟨_, rfl, _, rfl, pra, prs, (i : Int), _, rfl, rfl, Tm.seq hprT, ep, _, rfl, pa, pvs, (p : Int), _, rfl, rfl, Tm.seq hpT, epd, _, rfl, da, dvs, _, u, rfl, rfl, hdT, eu, acc, eD, szl ?_, same_put sm hD, ?_⟩
                · rw [hDD.len eD, List.length_map, List.length_map, List.length_map]
                  exact Nat.le_trans (List.length_filter_le _ _) (by rw [List.length_range]; omega)
                · rw [ef, List.map_append, List.map_append, List.map_append]
                  exact hDD.push eD hu
              · have e1 : ¬ I.sc i p = nm := fun z => e (decide_eq_true (by rw [z]))
                have ef : (List.range (p + 1)).filter (fun p => decide (I.sc i p = nm)) = (List.range p).filter (fun p => decide (I.sc i p = nm)) := by
                  rw [List.range_succ, List.filter_append, List.filter_cons, if_neg (fun z => e1 (of_decide_eq_true z))]; simp
                refine ⟨sm, ?_⟩
                rw [ef]
                exact hDD
            · rintro Hm ⟨sm, dvs, eD, hda⟩
              refine ⟨S, D, svs, dvs, rfl, rfl, sm _ _ eS, eD, ?_, fun r nr => ?_⟩
              · have h1 := hDL.len eS
                have h2 := hda.length
                have h3 := valL_len (X := X) wf nm v i (by omega)
                rw [List.length_map, List.length_map] at h1
                rw [List.length_map, List.length_map, List.length_map] at h2
                have h4 := List.length_filter_le (fun p => decide (I.sc i p = nm)) (List.range (I.ar i))
                rw [List.length_range] at h4
                exact szl' (by omega)
              · have sr : Same Hm (L2.upd Hm r (.lst (svs ++ dvs))) := same_upd nr
                refine ⟨r, _, _, rfl, (si.trans sm).trans sr, svs ++ dvs, upd_same, ?_⟩
                rw [valL_succ, List.map_append, List.map_append]
                exact Ats.append (Ats.same (Same.toT (sm.trans sr)) hsa2) (Ats.same (Same.toT sr) hda)
          · rintro σ Hi ⟨S, v5, v7, rfl, si, svs, eS, hsa2⟩
            obtain ⟨u, etp, hu⟩ := htpi nm (tpD I X nm) (by rw [List.getElem?_map, List.getElem?_range hnm']; rfl)
            have hxl : (valL I X nm v I.q).length ≤ 50 := Nat.le_trans (valL_len wf nm v I.q (Nat.le_refl _)) (by omega)
            have hxb : ∀ x, x ∈ valL I X nm v I.q → Lp.ab x ≤ 10 ^ 40 := fun x hx => by
              obtain ⟨t, p, ht, hp, rfl⟩ := valL_mem hx
              exact pr_ab F ht hp hv'
            refine ⟨_, rfl, _, rfl, tpa, tps, (nm : Int), u, rfl, rfl, (Same.toT si).seq htpT, etp, _, rfl, S, svs, (valL I X nm v I.q).map (rat X), 140, rfl, .inl (sqL eS), hsa2, rats_bits F hxb, by decide, by decide, by rw [List.length_map]; exact hxl, fun H3 t s3 et => ?_⟩
            have bm := bits_mul (low_bits (rat_low F (top_ab F hnm'))) (sum_bits F hxb hxl) (by decide) (by decide) (by decide)
            have le : Lp.topO I X nm ≤ (valL I X nm v I.q).sum := by rw [valL_sum]; exact F.C.val nm v hnm' hv'
            have below := Lp.rep_below d0 (rat_rep F (Lp.topO I X nm)) (sum_rep F (valL I X nm v I.q)) le
            exact ⟨u, .ref t, rat X (Lp.topO I X nm), _, rfl, At.same (Same.toT (si.trans s3)) hu, at_rat (sqT et), bm.1, bm.2, below, true, rfl, ⟨_, _, _, _, rfl⟩, si.trans s3⟩
        · rintro σ Hv ⟨⟨v5, v7, v13, v14, rfl⟩, sv⟩
          exact ⟨⟨_, _, _, _, _, rfl⟩, sv⟩
      · rintro σ Hn ⟨⟨v5, v7, v12, v13, v14, rfl⟩, sn⟩
        exact q Hn sn
end
end KV
namespace KV
open PySem PySem.Spec PyProof.Rows L2
section
variable {I : Lp.Ins} {X : Lp.Tab}
theorem WF2.of {z n : Nat} {fns : List (Nat × List Int)} {terms : List Lp.Trm} (hz : z = 2 ∨ z = 3) (hn : n ≤ 4) (hq : terms.length ≤ 5) (fl : fns.length ≤ 4) (hf : ∀ f, f ∈ fns → (f.1 = 1 ∨ f.1 = 2) ∧ f.2.length = z ^ f.1 ∧ ∀ c, c ∈ f.2 → 0 ≤ c ∧ c ≤ 1000) (ht : ∀ t, t ∈ terms → TermOk fns n t) : WF2 ⟨z, n, fns, terms⟩ := ⟨hz, hn, hq, fl, hf, ht⟩
/-- the law's cheapest costs over the terms -/
def chL (I : Lp.Ins) (X : Lp.Tab) (t : Nat) : Int × Int := chR (I.tab t) ((I.t t).scope.map fun x => rat X (Lp.shO I X x 0)) (I.t t).w
theorem chL_rep (w : WF2 I) (F : Lp.Fin I X) (hs : I.s = 2) {t : Nat} (ht : t < I.q) : Lp.Rep X.scale (I.ch (Lp.shO I X) X.scale t) (chL I X t) := by
  have har : (I.t t).scope.length = 1 ∨ (I.t t).scope.length = 2 := w.wf.ar t ht
  have d0 := F.sm.d0
  unfold chL chR Lp.Ins.ch Lp.Ins.sc Lp.Ins.ar
  generalize (I.t t).scope = sc at har
  match sc, har with
  | [a], _ =>
    have := Lp.rep_ch1 (t0 := (I.tab t).getD 0 0) (t1 := (I.tab t).getD 1 0) (w := (I.t t).w) (rat_rep F (Lp.shO I X a 0))
    exact this
  | [a, b], _ =>
    have := Lp.rep_ch2 (t0 := (I.tab t).getD 0 0) (t1 := (I.tab t).getD 1 0) (t2 := (I.tab t).getD 2 0) (t3 := (I.tab t).getD 3 0) (w := (I.t t).w) d0 (rat_rep F (Lp.shO I X a 0)) (rat_rep F (Lp.shO I X b 0))
    exact this
theorem chR_bits {ts : List Int} {ps : List (Int × Int)} {wt : Int} (hb : ∀ p, p ∈ ps → Bits 140 p) (ht : ∀ t, t ∈ ts → 0 ≤ t ∧ t ≤ 1000) (w0 : 1 ≤ wt) (w1 : wt ≤ 1000) (hl : ps.length = 1 ∧ ts.length = 2 ∨ ps.length = 2 ∧ ts.length = 4) : Bits 400 (chR ts ps wt) := by
  have wn : wt.natAbs < 2 ^ 10 := by omega
  have tn : ∀ t, t ∈ ts → t.natAbs < 2 ^ 10 := fun t h => by have := ht t h; omega
  rcases hl with ⟨hl, htl⟩ | ⟨hl, htl⟩
  · match ps, ts, hl, htl, hb, tn with
    | [p], [t0, t1], _, _, hb, tn =>
      have bp := hb p (by simp)
      have h0 := tn t0 (by simp)
      have h1 := tn t1 (by simp)
      have b1 : (p.1 * t0).natAbs < 2 ^ (140 + 10) := natAbs_mul_lt bp.1 h0
      have bd : (p.2 - p.1).natAbs < 2 ^ 141 := by have := bp.1; have := bp.2; omega
      have b2 : ((p.2 - p.1) * t1).natAbs < 2 ^ (141 + 10) := natAbs_mul_lt bd h1
      have b3 : (p.1 * t0 + (p.2 - p.1) * t1).natAbs < 2 ^ 152 := by omega
      have b4 : (wt * (p.1 * t0 + (p.2 - p.1) * t1)).natAbs < 2 ^ (10 + 152) := natAbs_mul_lt wn b3
      exact ⟨Nat.lt_of_lt_of_le b4 (Nat.pow_le_pow_right (by decide) (by decide)), Nat.lt_of_lt_of_le bp.2 (Nat.pow_le_pow_right (by decide) (by decide))⟩
  · match ps, ts, hl, htl, hb, tn with
    | [p, r], [t0, t1, t2, t3], _, _, hb, tn =>
      have bp := hb p (by simp)
      have br := hb r (by simp)
      have h0 := tn t0 (by simp)
      have h1 := tn t1 (by simp)
      have h2 := tn t2 (by simp)
      have h3 := tn t3 (by simp)
      have m1 : (p.1 * r.2).natAbs < 2 ^ 280 := natAbs_mul_lt (a := 140) (b := 140) bp.1 br.2
      have m2 : (r.1 * p.2).natAbs < 2 ^ 280 := natAbs_mul_lt (a := 140) (b := 140) br.1 bp.2
      have m3 : (p.2 * r.2).natAbs < 2 ^ 280 := natAbs_mul_lt (a := 140) (b := 140) bp.2 br.2
      refine ⟨?_, Nat.lt_of_lt_of_le m3 (Nat.pow_le_pow_right (by decide) (by decide))⟩
      show (wt * Lp.cheap2 t0 t1 t2 t3 (p.1 * r.2) (r.1 * p.2) (p.2 * r.2)).natAbs < _
      generalize p.1 * r.2 = P at *
      generalize r.1 * p.2 = Q at *
      generalize p.2 * r.2 = D at *
      obtain ⟨y, hy, e⟩ := Lp.cheap2_is t0 t1 t2 t3 P Q D
      rw [e]
      have hyb : y.natAbs < 2 ^ 283 := by rcases hy with h | h <;> omega
      have k1 : (P - y).natAbs < 2 ^ 284 := by omega
      have k2 : (Q - y).natAbs < 2 ^ 284 := by omega
      have k3 : (D - P - Q + y).natAbs < 2 ^ 286 := by omega
      have j0 := natAbs_mul_lt hyb h0
      have j1 := natAbs_mul_lt k1 h1
      have j2 := natAbs_mul_lt k2 h2
      have j3 := natAbs_mul_lt k3 h3
      have eb : (Lp.edge t0 t1 t2 t3 P Q D y).natAbs < 2 ^ 298 := by
        unfold Lp.edge
        generalize y * t0 = a0 at *
        generalize (P - y) * t1 = a1 at *
        generalize (Q - y) * t2 = a2 at *
        generalize (D - P - Q + y) * t3 = a3 at *
        omega
      exact Nat.lt_of_lt_of_le (natAbs_mul_lt wn eb) (Nat.pow_le_pow_right (by decide) (by decide))
theorem rep_list {d : Int} {l : List (Int × Int)} {Xs : List Int} (hl : l.length = Xs.length) (h : ∀ i, i < l.length → Lp.Rep d (Xs.getD i 0) (l.getD i (0, 1))) : Lp.Rep d Xs.sum (Lp.addR l) := by
  have := Lp.addR_rep hl h (0, 1) 0 (Lp.rep_zero _)
  rw [Int.zero_add] at this
  exact this
theorem below_least (w : WF2 I) (F : Lp.Fin I X) {row : List Nat} (hl : row.length = I.n) (hx : ∀ x, x ∈ row → x < I.s) : totO I X ≤ X.scale * totalN I row := by
  refine F.C.weak w.wf (σ := fun nm => row.getD nm 0) (at_ := atOf I row) (fun nm h => ?_) (fun t ht => ?_) (fun t p ht hp => ?_)
  · show row.getD nm 0 < I.s
    rw [Lp.getD_lt 0 (by omega)]
    exact hx _ (List.getElem_mem _)
  · rw [w.wf.ll ht]; exact atOf_lt w hl hx ht
  · unfold Lp.Ins.lv
    rw [(atOf_ok w hl hx ht).2]
    have hp' : p < (I.t t).scope.length := hp
    rw [Lp.getD_lt 0 (by rw [List.length_map]; exact hp'), List.getElem_map]
    show row.getD _ 0 = row.getD ((I.t t).scope.getD p 0) 0
    rw [Lp.getD_lt 0 hp']
theorem total_nat (w : WF2 I) {row : List Nat} : 0 ≤ totalN I row ∧ totalN I row ≤ 5000000 := by
  have h : ∀ q, q ≤ I.q → 0 ≤ Lp.sumN q (fun t => I.c t (atOf I row t)) ∧ Lp.sumN q (fun t => I.c t (atOf I row t)) ≤ (q : Int) * 1000000 := by
    intro q
    induction q with
    | zero => intro _; exact ⟨Int.le_refl _, Int.le_refl _⟩
    | succ q ih =>
      intro hq
      have h1 := ih (by omega)
      have h2 := Lp.WF.cb w.wf (t := q) (atOf I row q) (by omega)
      show 0 ≤ Lp.sumN q (fun t => I.c t (atOf I row t)) + I.c q (atOf I row q) ∧ Lp.sumN q (fun t => I.c t (atOf I row t)) + I.c q (atOf I row q) ≤ ((q + 1 : Nat) : Int) * 1000000
      omega
  have h1 := h I.q (Nat.le_refl _)
  have h2 : I.q ≤ 5 := w.q
  unfold totalN
  omega
end
section
variable {P : Program} {w : World} {K : PySem.W.Frag} {mg : Str → Option Value} {base : Heap}
theorem sc_law : FnScope ["_law_script", "_law_row", "_law_size", "_law_costs_here", "_law_variables", "_law_instance", "_law_found", "_law_cost", "_law_shares", "_law_tops", "_law_prices", "_law_told", "_law_some", "_law_which", "_law_scope", "_law_weight", "_law_one", "_law_name"] ["_law_script"] (defScope s_law) := ⟨rfl, rfl, rfl, by decide +kernel, rfl, by decide +kernel, by decide +kernel⟩
def sp_law (K : PySem.W.Frag) : Sp := fun vs H Q _ => ∃ (sc : Addr) (ns : List Int), vs = [.ref sc] ∧ SqL K H sc (ns.map V.int) ∧ ∀ H', Q (.bl true) H'
theorem ok_law (T : Txt K mg) : FnOk P w K mg base CX0 8 T.a_law T.d_law ["_law_script"] (sp_law K) := by
  have G_law_taken : FnOk P w K mg base CX0 1 T.a_law_taken T.d_law_taken ["_law_row", "_law_many"] (sp_taken K) := ok_law_taken T
  have G_law_pick : FnOk P w K mg base CX0 2 T.a_law_pick T.d_law_pick ["_law_row", "_law_things"] (sp_pick K) := ok_law_pick T
  have G_law_costs : FnOk P w K mg base CX0 2 T.a_law_costs T.d_law_costs ["_law_row", "_law_size", "_law_many", "_law_most"] (sp_costs K) := ok_law_costs T
  have G_law_terms : FnOk P w K mg base CX0 2 T.a_law_terms T.d_law_terms ["_law_row", "_law_costs_here", "_law_variables", "_law_most", "_law_weight"] (sp_terms K) := ok_law_terms T
  have G_relaxed : FnOk P w K mg base CX0 7 T.a_relaxed T.d_relaxed ["costs", "instance"] (sp_relaxed K) := ok_relaxed T
  have G_law_ratio : FnOk P w K mg base CX0 2 T.a_law_ratio T.d_law_ratio ["_law_value"] (sp_ratio K) := ok_law_ratio T
  have G_law_added : FnOk P w K mg base CX0 1 T.a_law_added T.d_law_added ["_law_some"] (sp_added K) := ok_law_added T
  have G_law_same : FnOk P w K mg base CX0 1 T.a_law_same T.d_law_same ["_law_one", "_law_other"] (sp_same K) := ok_law_same T
  have G_law_below : FnOk P w K mg base CX0 1 T.a_law_below T.d_law_below ["_law_one", "_law_other"] (sp_below K) := ok_law_below T
  have G_law_bounded : FnOk P w K mg base CX0 3 T.a_law_bounded T.d_law_bounded ["_law_costs_here", "_law_instance", "_law_tops", "_law_prices"] (sp_bounded K) := ok_law_bounded T
  have G_law_least : FnOk P w K mg base CX0 2 T.a_law_least T.d_law_least ["_law_costs_here", "_law_instance"] (sp_least K) := ok_law_least T
  have G_law_cheapest : FnOk P w K mg base CX0 1 T.a_law_cheapest T.d_law_cheapest ["_law_table", "_law_given", "_law_weight"] (sp_cheapest K) := ok_law_cheapest T
  refine T.F_law.ok sc_law (fun vs H Q E h => ?_) (fun cdv A outer s H vs Q E hr h => ?_)
  · obtain ⟨sc, ns, rfl, _⟩ := h; rfl
  · obtain ⟨sc, ns, rfl, hS, q⟩ := h
    refine ⟨_, (pss_cons (ps_set (i := 1) sc_law.nd rfl (Or.inl rfl) (pe_lst (pa_cons (pv 0) (pa_cons pe_int (pa_cons pe_int (pa_cons pe_int pa_nil))))))
      (pss_cons (ps_set (i := 2) sc_law.nd rfl (Or.inl rfl) (pe_op op_add pe_int (pe_ifExp (pt_cmpR op_eq (pe_call G_law_taken (hr.mono (by decide)) (by rfl) T.g_law_taken T.F_law_taken.kp T.b_law_taken .nil pass0 (pa_cons (pv 1) (pa_cons pe_int pa_nil))) pe_int (nomark _)) pe_int pe_int)))
      (pss_cons (ps_set (i := 3) sc_law.nd rfl (Or.inl rfl) (pe_call G_law_costs (hr.mono (by decide)) (by rfl) T.g_law_costs T.F_law_costs.kp T.b_law_costs .nil pass0 (pa_cons (pv 1) (pa_cons (pv 2) (pa_cons pe_int (pa_cons (pe_call G_law_pick (hr.mono (by decide)) (by rfl) T.g_law_pick T.F_law_pick.kp T.b_law_pick .nil pass0 (pa_cons (pv 1) (pa_cons (pe_lst (pa_cons pe_int (pa_cons pe_int (pa_cons pe_int (pa_cons pe_int pa_nil))))) pa_nil))) pa_nil))))))
      (pss_cons (ps_set (i := 4) sc_law.nd rfl (Or.inl rfl) (pe_call G_law_taken (hr.mono (by decide)) (by rfl) T.g_law_taken T.F_law_taken.kp T.b_law_taken .nil pass0 (pa_cons (pv 1) (pa_cons (pe_ifExp (pt_cmpR op_eq (pv 2) pe_int (nomark _)) pe_int pe_int) pa_nil))))
      (pss_cons (ps_set (i := 5) sc_law.nd rfl (Or.inl rfl) (pe_call G_law_terms (hr.mono (by decide)) (by rfl) T.g_law_terms T.F_law_terms.kp T.b_law_terms .nil pass0 (pa_cons (pv 1) (pa_cons (pv 3) (pa_cons (pv 4) (pa_cons pe_int (pa_cons (pe_call G_law_pick (hr.mono (by decide)) (by rfl) T.g_law_pick T.F_law_pick.kp T.b_law_pick .nil pass0 (pa_cons (pv 1) (pa_cons (pe_lst (pa_cons pe_int (pa_cons pe_int (pa_cons pe_int pa_nil)))) pa_nil))) pa_nil)))))))
      (pss_cons (ps_set (i := 6) sc_law.nd rfl (Or.inl rfl) (pe_call G_relaxed (hr.mono (by decide)) (by rfl) T.g_relaxed T.F_relaxed.kp T.b_relaxed .nil pass0 (pa_cons (pv 3) (pa_cons (pv 5) pa_nil))))
      (pss_cons (ps_if (PW.pt (pw_or (pt_not (pt_val (pe_callB call_isi (by rfl) T.z_isinstance (by decide +kernel) (pa_cons (pv 6) (pa_cons (pe_bltn (v := .ty "tuple") (u := .type "tuple") (by rfl) T.z_tuple (by decide +kernel) rfl) pa_nil))))) (pw_or (pt_cmpR op_ne (pe_callB call_len_seq (by rfl) T.z_len (by decide +kernel) (pa_cons (pv 6) pa_nil)) pe_int (nomark _)) (pw_or1 (pt_not (pt_val (pe_call G_law_ratio (hr.mono (by decide)) (by rfl) T.g_law_ratio T.F_law_ratio.kp T.b_law_ratio .nil pass0 (pa_cons (pe_ix ix_tup (pv 6) pe_int (fun _ _ => rfl)) pa_nil))))))))
        (pss_one (ps_ret pe_bl))
        pss_nil)
      (pss_cons (ps_asg (pv 6) (pg_tup rfl (pgs_cons (pg_name (i := 7) sc_law.nd rfl (Or.inl rfl)) (pgs_cons (pg_name (i := 8) sc_law.nd rfl (Or.inr rfl)) (pgs_cons (pg_name (i := 9) sc_law.nd rfl (Or.inl rfl)) (pgs_cons (pg_name (i := 10) sc_law.nd rfl (Or.inl rfl)) pgs_nil))))))
      (pss_cons (ps_if (PW.pt (pw_or (pt_not (pt_val (pe_callB call_isi (by rfl) T.z_isinstance (by decide +kernel) (pa_cons (pv 8) (pa_cons (pe_bltn (v := .ty "tuple") (u := .type "tuple") (by rfl) T.z_tuple (by decide +kernel) rfl) pa_nil))))) (pw_or (pt_cmpR op_ne (pe_callB call_len_seq (by rfl) T.z_len (by decide +kernel) (pa_cons (pv 8) pa_nil)) (pv 4) (nomark _)) (pw_or (pt_not (pt_val (pe_callB call_isi (by rfl) T.z_isinstance (by decide +kernel) (pa_cons (pv 9) (pa_cons (pe_bltn (v := .ty "tuple") (u := .type "tuple") (by rfl) T.z_tuple (by decide +kernel) rfl) pa_nil))))) (pw_or1 (pt_cmpR op_ne (pe_callB call_len_seq (by rfl) T.z_len (by decide +kernel) (pa_cons (pv 9) pa_nil)) (pv 4) (nomark _)))))))
        (pss_one (ps_ret pe_bl))
        pss_nil)
      (pss_cons (ps_for PassesOwn.never rfl (pi_tup (pv 8)) (pg_name (i := 11) sc_law.nd rfl (Or.inl rfl))
        (pss_cons (ps_if (PW.pt (pw_or (pt_not (pt_val (pe_callB call_isi (by rfl) T.z_isinstance (by decide +kernel) (pa_cons (pv 11) (pa_cons (pe_bltn (v := .ty "tuple") (u := .type "tuple") (by rfl) T.z_tuple (by decide +kernel) rfl) pa_nil))))) (pw_or (pt_cmpR op_ne (pe_callB call_len_seq (by rfl) T.z_len (by decide +kernel) (pa_cons (pv 11) pa_nil)) (pv 2) (nomark _)) (pw_or1 (pt_cmpR (op_neD hr.units) (pe_lc (own := [("_law_one", 16)]) (by rfl) sc_law.nd (pi_tup (pv 11)) (blkOk_by (own := [("_law_one", 16)]) (N := ["_law_script", "_law_row", "_law_size", "_law_costs_here", "_law_variables", "_law_instance", "_law_found", "_law_cost", "_law_shares", "_law_tops", "_law_prices", "_law_told", "_law_some", "_law_which", "_law_scope", "_law_weight", "_law_one", "_law_name"]) (sc := defScope s_law) (by decide +kernel)) (fun _ _ _ _ _ => (pg_name (i := 16) sc_law.nd rfl (Or.inl rfl))) (fun _ _ _ _ _ => (pts_one (pt_not (pt_val (pe_call G_law_ratio (hr.mono (by decide)) (by rfl) T.g_law_ratio T.F_law_ratio.kp T.b_law_ratio .nil pass0 (pa_cons (pv 16) pa_nil)))))) (fun _ _ _ _ _ => (pv 16))) (pe_lst pa_nil) (nomark _))))))
            (pss_one (ps_ret pe_bl))
            pss_nil)
          (pss_one (ps_if (PW.pt (pw_or (pt_cmpR (op_neD hr.units) (pe_lc (own := [("_law_one", 16)]) (by rfl) sc_law.nd (pi_tup (pv 11)) (blkOk_by (own := [("_law_one", 16)]) (N := ["_law_script", "_law_row", "_law_size", "_law_costs_here", "_law_variables", "_law_instance", "_law_found", "_law_cost", "_law_shares", "_law_tops", "_law_prices", "_law_told", "_law_some", "_law_which", "_law_scope", "_law_weight", "_law_one", "_law_name"]) (sc := defScope s_law) (by decide +kernel)) (fun _ _ _ _ _ => (pg_name (i := 16) sc_law.nd rfl (Or.inl rfl))) (fun _ _ _ _ _ => (pts_one (pt_cmpR op_lt (kix_tup K rfl (pv 16) pe_int (fun _ _ => rfl)) pe_int (nomark _)))) (fun _ _ _ _ _ => (pv 16))) (pe_lst pa_nil) (nomark _)) (pw_or1 (pt_not (pt_val (pe_call G_law_same (hr.mono (by decide)) (by rfl) T.g_law_same T.F_law_same.kp T.b_law_same .nil pass0 (pa_cons (pe_call G_law_added (hr.mono (by decide)) (by rfl) T.g_law_added T.F_law_added.kp T.b_law_added .nil pass0 (pa_cons (pv 11) pa_nil)) (pa_cons (pe_tup (pa_cons pe_int (pa_cons pe_int pa_nil))) pa_nil))))))))
            (pss_one (ps_ret pe_bl))
            pss_nil))))
      (pss_cons (ps_if (PW.pt (pw_or (pt_cmpR (op_neD hr.units) (pe_lc (own := [("_law_one", 16)]) (by rfl) sc_law.nd (pi_tup (pv 9)) (blkOk_by (own := [("_law_one", 16)]) (N := ["_law_script", "_law_row", "_law_size", "_law_costs_here", "_law_variables", "_law_instance", "_law_found", "_law_cost", "_law_shares", "_law_tops", "_law_prices", "_law_told", "_law_some", "_law_which", "_law_scope", "_law_weight", "_law_one", "_law_name"]) (sc := defScope s_law) (by decide +kernel)) (fun _ _ _ _ _ => (pg_name (i := 16) sc_law.nd rfl (Or.inl rfl))) (fun _ _ _ _ _ => (pts_one (pt_not (pt_val (pe_call G_law_ratio (hr.mono (by decide)) (by rfl) T.g_law_ratio T.F_law_ratio.kp T.b_law_ratio .nil pass0 (pa_cons (pv 16) pa_nil)))))) (fun _ _ _ _ _ => (pv 16))) (pe_lst pa_nil) (nomark _)) (pw_or1 (pt_not (pt_val (pe_call G_law_same (hr.mono (by decide)) (by rfl) T.g_law_same T.F_law_same.kp T.b_law_same .nil pass0 (pa_cons (pe_call G_law_added (hr.mono (by decide)) (by rfl) T.g_law_added T.F_law_added.kp T.b_law_added .nil pass0 (pa_cons (pv 9) pa_nil)) (pa_cons (pv 7) pa_nil))))))))
        (pss_one (ps_ret pe_bl))
        pss_nil)
      (pss_cons (ps_if (PW.pt (pw_or (pt_not (pt_val (pe_callB call_isi (by rfl) T.z_isinstance (by decide +kernel) (pa_cons (pv 10) (pa_cons (pe_bltn (v := .ty "tuple") (u := .type "tuple") (by rfl) T.z_tuple (by decide +kernel) rfl) pa_nil))))) (pw_or1 (pt_cmpR op_ne (pe_callB call_len_seq (by rfl) T.z_len (by decide +kernel) (pa_cons (pv 10) pa_nil)) (pe_callB call_len_seq (by rfl) T.z_len (by decide +kernel) (pa_cons (pe_ix ix_tup (pv 5) pe_int (fun _ _ => rfl)) pa_nil)) (nomark _)))))
        (pss_one (ps_ret pe_bl))
        pss_nil)
      (pss_cons (ps_if (PW.pt (pw_or (pt_not (pt_val (pe_call G_law_bounded (hr.mono (by decide)) (by rfl) T.g_law_bounded T.F_law_bounded.kp T.b_law_bounded .nil pass0 (pa_cons (pv 3) (pa_cons (pv 5) (pa_cons (pv 9) (pa_cons (pv 10) pa_nil))))))) (pw_or1 (pt_not (pt_val (pe_call G_law_below (hr.mono (by decide)) (by rfl) T.g_law_below T.F_law_below.kp T.b_law_below .nil pass0 (pa_cons (pv 7) (pa_cons (pe_tup (pa_cons (pe_ix ix_tup (pe_call G_law_least (hr.mono (by decide)) (by rfl) T.g_law_least T.F_law_least.kp T.b_law_least .nil pass0 (pa_cons (pv 3) (pa_cons (pv 5) pa_nil))) pe_int (fun _ _ => rfl)) (pa_cons pe_int pa_nil))) pa_nil))))))))
        (pss_one (ps_ret pe_bl))
        pss_nil)
      (pss_cons (ps_if (pt_cmpR op_eq (pv 2) pe_int (nomark _))
        (pss_one (ps_ret pe_bl))
        pss_nil)
      (pss_cons (ps_set (i := 12) sc_law.nd rfl (Or.inl rfl) (pe_lst pa_nil))
      (pss_cons (ps_for PassesOwn.never rfl (pi_tup (pe_ix ix_tup (pv 5) pe_int (fun _ _ => rfl))) (pg_tup rfl (pgs_cons (pg_name (i := 13) sc_law.nd rfl (Or.inl rfl)) (pgs_cons (pg_name (i := 14) sc_law.nd rfl (Or.inl rfl)) (pgs_cons (pg_name (i := 15) sc_law.nd rfl (Or.inl rfl)) pgs_nil))))
        (pss_one (ps_expr (pe_bm PySem.F.plainAttrs_list PySem.F.slot_list_append PySem.F.type_list_append mt_append (pv 12) (pa_cons (pe_call G_law_cheapest (hr.mono (by decide)) (by rfl) T.g_law_cheapest T.F_law_cheapest.kp T.b_law_cheapest .nil pass0 (pa_cons (pe_ix ix_tup (pe_ix ix_tup (pe_ix ix_tup (pv 3) pe_int (fun _ _ => rfl)) (pv 13) (fun _ _ => rfl)) pe_int (fun _ _ => rfl)) (pa_cons (pe_lc (own := [("_law_name", 17)]) (by rfl) sc_law.nd (pi_tup (pv 14)) (blkOk_by (own := [("_law_name", 17)]) (N := ["_law_script", "_law_row", "_law_size", "_law_costs_here", "_law_variables", "_law_instance", "_law_found", "_law_cost", "_law_shares", "_law_tops", "_law_prices", "_law_told", "_law_some", "_law_which", "_law_scope", "_law_weight", "_law_one", "_law_name"]) (sc := defScope s_law) (by decide +kernel)) (fun _ _ _ _ _ => (pg_name (i := 17) sc_law.nd rfl (Or.inl rfl))) (fun _ _ _ _ _ => pts_nil) (fun _ _ _ _ _ => (kix_tup K rfl (kix_tup K rfl (pv 8) (pv 17) (fun _ _ => rfl)) pe_int (fun _ _ => rfl)))) (pa_cons (pv 15) pa_nil)))) pa_nil)))))
      (pss_one (ps_ret (pe_call G_law_same (hr.mono (by decide)) (by rfl) T.g_law_same T.F_law_same.kp T.b_law_same .nil pass0 (pa_cons (pe_call G_law_added (hr.mono (by decide)) (by rfl) T.g_law_added T.F_law_added.kp T.b_law_added .nil pass0 (pa_cons (pv 12) pa_nil)) (pa_cons (pv 7) pa_nil))))))))))))))))))))), ?_⟩
    refine ⟨_, rfl, szl' (by show 4 ≤ 1000000; decide), fun r nr => ?_⟩
    have D0 : Drw K (L2.upd H r (.lst [.ref sc, .int 0, .int 3283, .int 0])) r sc ns := by
      refine ⟨?_, Same.seq (same_upd nr) hS, 0, 3283, 0, by decide, by decide, by decide, upd_same⟩
      rcases hS with hS | hS
      · refine .inl fun z => ?_
        rw [z] at hS
        rcases hS with e | ⟨o, e⟩ <;> rw [nr] at e <;> cases e
      · exact .inr fun H' => .inr hS
    generalize L2.upd H r (.lst [.ref sc, .int 0, .int 3283, .int 0]) = H0 at D0 ⊢
    refine ⟨_, rfl, r, sc, ns, 3, rfl, by decide, by decide, D0, fun H1 v1 o1 D1 hv1 => ⟨rfl, _, rfl, ite2 (fun e => ⟨_, _, rfl, rfl, ?_⟩) (fun e => ⟨_, _, rfl, rfl, ?_⟩)⟩⟩
    obtain ⟨z, hzc⟩ : ∃ z : Nat, z = 3 := ⟨_, rfl⟩
    have hz : z = 2 ∨ z = 3 := by omega
    have e2 : (2 : Int) + 1 = (z : Int) := by rw [hzc]; rfl
    show tSeq _ _ _ (List.set _ 2 (some (V.int ((2 : Int) + 1)))) H1
    rw [e2]
    clear e2 e
    refine ⟨_, rfl, _, rfl, _, rfl, szl' (by show 4 ≤ 1000000; decide), fun b1 nb1 => ?_⟩
    have sb1 : Same H1 (L2.upd H1 b1 (.lst [.int 2, .int 4, .int 20, .int 1001])) := same_upd nb1
    refine ⟨r, sc, b1, ns, [2, 4, 20, 1001], rfl, D1.ne_none nb1, sqL upd_same, by decide, by decide, D1.same sb1, fun H2 v2 o2 D2 hv2 => ?_⟩
    obtain ⟨c, rfl, c0, c1⟩ : ∃ c : Nat, v2 = (c : Int) ∧ 0 < c ∧ c ≤ 1001 := by
      rcases List.mem_cons.mp hv2 with h | hv2
      · exact ⟨2, h, by decide, by decide⟩
      rcases List.mem_cons.mp hv2 with h | hv2
      · exact ⟨4, h, by decide, by decide⟩
      rcases List.mem_cons.mp hv2 with h | hv2
      · exact ⟨20, h, by decide, by decide⟩
      · exact ⟨1001, List.mem_singleton.mp hv2, by decide, by decide⟩
    refine ⟨r, sc, ns, z, 3, c, rfl, by omega, by decide, by decide, c0, c1, D2, fun H3 cv fns o3 D3 hC fl0 fl4 hf => ?_⟩
    rotate_left
    obtain ⟨z, hzc⟩ : ∃ z : Nat, z = 2 := ⟨_, rfl⟩
    have hz : z = 2 ∨ z = 3 := by omega
    have e2 : (2 : Int) + 0 = (z : Int) := by rw [hzc]; rfl
    show tSeq _ _ _ (List.set _ 2 (some (V.int ((2 : Int) + 0)))) H1
    rw [e2]
    clear e2 e
    refine ⟨_, rfl, _, rfl, _, rfl, szl' (by show 4 ≤ 1000000; decide), fun b1 nb1 => ?_⟩
    have sb1 : Same H1 (L2.upd H1 b1 (.lst [.int 2, .int 4, .int 20, .int 1001])) := same_upd nb1
    refine ⟨r, sc, b1, ns, [2, 4, 20, 1001], rfl, D1.ne_none nb1, sqL upd_same, by decide, by decide, D1.same sb1, fun H2 v2 o2 D2 hv2 => ?_⟩
    obtain ⟨c, rfl, c0, c1⟩ : ∃ c : Nat, v2 = (c : Int) ∧ 0 < c ∧ c ≤ 1001 := by
      rcases List.mem_cons.mp hv2 with h | hv2
      · exact ⟨2, h, by decide, by decide⟩
      rcases List.mem_cons.mp hv2 with h | hv2
      · exact ⟨4, h, by decide, by decide⟩
      rcases List.mem_cons.mp hv2 with h | hv2
      · exact ⟨20, h, by decide, by decide⟩
      · exact ⟨1001, List.mem_singleton.mp hv2, by decide, by decide⟩
    refine ⟨r, sc, ns, z, 3, c, rfl, by omega, by decide, by decide, c0, c1, D2, fun H3 cv fns o3 D3 hC fl0 fl4 hf => ?_⟩
    -- the names, the terms, the answer
    all_goals refine ⟨_, rfl, _, rfl, rfl, _, rfl, ite2 (fun e => ?_) (fun e => ?_)⟩
    refine ⟨r, sc, ns, 5, rfl, by decide, by decide, D3, fun H4 n o4 D4 hn => ?_⟩
    rotate_left
    exact absurd (decide_eq_true (show V.int (z : Int) = V.int 2 by rw [hzc]; rfl)) e
    exact absurd (show (z : Int) = 2 from V.int.inj (of_decide_eq_true e)) (by omega)
    refine ⟨r, sc, ns, 4, rfl, by decide, by decide, D3, fun H4 n o4 D4 hn => ?_⟩
    all_goals (
      have hn4 : n ≤ 4 := by omega
      clear e
      refine ⟨_, rfl, _, rfl, _, rfl, _, rfl, szl' (by show 3 ≤ 1000000; decide), fun b2 nb2 => ?_⟩
      have sb2 : Same H4 (L2.upd H4 b2 (.lst [.int 1, .int 3, .int 1000])) := same_upd nb2
      refine ⟨r, sc, b2, ns, [1, 3, 1000], rfl, D4.ne_none nb2, sqL upd_same, by decide, by decide, D4.same sb2, fun H6 v6 o6 D6 hv6 => ?_⟩
      obtain ⟨wt, rfl, wt0, wt1⟩ : ∃ c : Nat, v6 = (c : Int) ∧ 0 < c ∧ c ≤ 1000 := by
        rcases List.mem_cons.mp hv6 with h | hv6
        · exact ⟨1, h, by decide, by decide⟩
        rcases List.mem_cons.mp hv6 with h | hv6
        · exact ⟨3, h, by decide, by decide⟩
        · exact ⟨1000, List.mem_singleton.mp hv6, by decide, by decide⟩
      have O36 : Off r H3 H6 := (o4.then sb2).trans o6
      have hC6 := At.same (D3.toT O36) hC
      refine ⟨r, sc, ns, cv, z, n, wt, fns, rfl, hC6, fl0, fl4, fun f h => (hf f h).1, hn4, wt0, wt1, D6, fun H7 iv terms o7 D7 hI ql ht => ?_⟩
      have hC7 := At.same (D6.toT o7) hC6
      have w2 : WF2 ⟨z, n, fns, terms⟩ := WF2.of hz hn4 ql fl4 hf ht
      obtain ⟨I, hIe⟩ : ∃ I : Lp.Ins, I = ⟨z, n, fns, terms⟩ := ⟨_, rfl⟩
      have hIs : I.s = z := by rw [hIe]
      have hIn : I.n = n := by rw [hIe]
      rw [← hIe] at w2
      have hCI : At K H7 (costsD I) cv := by rw [hIe]; exact hC7
      have hII : At K H7 (insD I) iv := by rw [hIe]; exact hI
      clear hC7 hI hC hC6 hf ht ql fl0 fl4
      subst hIs
      subst hIn
      clear hIe
      refine ⟨_, rfl, _, rfl, I, cv, iv, rfl, hCI, hII, w2, fun H8 rr X s8 hR F => ?_⟩
      have wf := w2.wf
      have hC8 := At.same (Same.toT s8) hCI
      have hI8 := At.same (Same.toT s8) hII
      clear hCI hII
      have d0 := F.sm.d0
      obtain ⟨ra, rs, rfl, hrT, x0, _, rfl, hx0, x1, _, rfl, hx1, x2, _, rfl, hx2, x3, l4, rfl, hx3, z0⟩ := hR
      have z0 : l4 = [] := z0
      subst z0
      have lowT := rat_low F (tot_ab F)
      refine ⟨_, rfl, _, _, _, _, true, rfl, .ty "tuple", tyT hrT, kit_ty (by decide +kernel), true, rfl, ?_⟩
      refine ⟨_, rfl, ra, _, rfl, .inr hrT, rfl, _, rfl, ?_⟩
      refine ⟨_, rfl, ra, _, 0, _, rfl, rfl, hrT, rfl, x0, rat X (totO I X), rfl, hx0, lowT, true, rfl, ?_⟩
      refine ⟨_, rfl, ra, _, rfl, hrT, rfl, _, _, rfl, _, _, rfl, _, _, rfl, _, _, rfl, rfl, ?_⟩
      obtain ⟨sha, shs, rfl, hshT, hshl, hsha, hshi⟩ := (id hx1).ix
      obtain ⟨tpa, tps, rfl, htpT, htpl, htpa, htpi⟩ := (id hx2).ix
      obtain ⟨pra, prs, rfl, hprT, hprl, hpra, hpri⟩ := (id hx3).ix
      rw [List.length_map, List.length_range] at hshl htpl hprl
      obtain ⟨ia, is_, rfl, hiT, hil, _, hii⟩ := (id hI8).ix
      obtain ⟨i1, ei1, hi1⟩ := hii 1 _ rfl
      obtain ⟨ta, ts, rfl, hts, htl, hta, _⟩ := hi1.ix
      rw [List.length_map] at htl
      have htq : ts.length = I.q := htl
      -- the four are tuples of their lengths
      refine ⟨_, rfl, _, _, _, _, true, rfl, .ty "tuple", tyT hshT, kit_ty (by decide +kernel), true, rfl, ?_⟩
      refine ⟨_, rfl, sha, shs, rfl, .inr hshT, _, rfl, rfl, _, rfl, iteNS (by rw [hshl]) ?_⟩
      refine ⟨_, rfl, _, _, _, _, true, rfl, .ty "tuple", tyT htpT, kit_ty (by decide +kernel), true, rfl, ?_⟩
      refine ⟨_, rfl, tpa, tps, rfl, .inr htpT, _, rfl, rfl, _, rfl, iteNS (by rw [htpl]) ?_⟩
      -- the shares
      refine ⟨_, rfl, sha, rfl, ⟨_, hshT⟩, ?_⟩
      refine for_it walk_tup (fun nm σ Hi => (∃ v11 : Option V, σ = [some (.ref sc), some (.ref r), some (.int I.s), some cv, some (.int I.n), some (.ref ia), some (.ref ra), some x0, some (.ref sha), some (.ref tpa), some (.ref pra), v11, none, none, none, none, none, none]) ∧ Same H8 Hi) ⟨⟨none, rfl⟩, Same.refl _⟩ (fun i σ Hi _ h => (Same.toT h.2).seq hshT) ?_ ?_
      · rintro nm x σ Hi Hi' hnm ⟨⟨v11, rfl⟩, si⟩ ⟨rfl, hx⟩
        rw [hshl] at hnm
        obtain ⟨dd, hd, hdx⟩ := hsha.item hx
        rw [List.getElem?_map, List.getElem?_range hnm] at hd
        cases hd
        obtain ⟨da, dvs, rfl, hdT, hdl, hda, _⟩ := (At.same (Same.toT si) hdx).ix
        rw [List.length_map, List.length_range] at hdl
        refine ⟨_, rfl, _, _, _, _, true, rfl, .ty "tuple", tyT hdT, kit_ty (by decide +kernel), true, rfl, ?_⟩
        refine ⟨_, rfl, da, dvs, rfl, .inr hdT, _, rfl, rfl, _, rfl, iteNS (by rw [hdl]) ?_⟩
        refine ⟨_, rfl, da, rfl, ⟨_, hdT⟩, fun D hD => ?_⟩
        refine lc_it walk_tup (fun k Hk => Same Hi' Hk ∧ Hk D = some (.lst [])) ⟨same_upd hD, upd_same⟩ (fun k Hk _ h => (Same.toT h.1).seq hdT) ?_ ?_
        · rintro k x Hk Hk' hk ⟨sk, eD⟩ ⟨rfl, hx⟩
          rw [hdl] at hk
          obtain ⟨dd, hd, hdx⟩ := hda.item hx
          rw [List.getElem?_map, List.getElem?_range hk] at hd
          cases hd
          exact ⟨rfl, _, rfl, x, rat X (Lp.shO I X nm k), rfl, At.same (Same.toT sk) hdx, rat_low F (sh_ab F hnm hk), true, rfl, sk, eD⟩
        rintro Hk ⟨sk, eD⟩
        refine ⟨Nat.zero_le _, fun D0 hD0 => ?_⟩
        have s3 : Same Hk (L2.upd Hk D0 (.lst [])) := same_upd hD0
        refine ⟨.list [], .list [], .lst (sqL (s3 _ _ eD)) .nil, .lst (sqL upd_same) .nil, by decide +kernel, by decide +kernel, _, rfl, ?_⟩
        -- none is negative
        generalize L2.upd Hk D0 (.lst []) = Hm at s3 ⊢
        have sHm : Same Hi' Hm := sk.trans s3
        have hdTm := (Same.toT sHm).seq hdT
        refine ⟨_, rfl, da, rfl, ⟨_, hdTm⟩, fun E hE => ?_⟩
        refine lc_it walk_tup (fun k Hk => Same Hm Hk ∧ Hk E = some (.lst [])) ⟨same_upd hE, upd_same⟩ (fun k Hk _ h => (Same.toT h.1).seq hdTm) ?_ ?_
        · rintro k x Hk Hk' hk ⟨sk, eD⟩ ⟨rfl, hx⟩
          rw [hdl] at hk
          obtain ⟨dd, hd, hdx⟩ := hda.item hx
          rw [List.getElem?_map, List.getElem?_range hk] at hd
          cases hd
          obtain ⟨ua, rfl, hu⟩ := at_ratD (p := rat X (Lp.shO I X nm k)) (At.same (Same.toT (sHm.trans sk)) hdx)
          have nn := Lp.rep_nn d0 (rat_rep F (Lp.shO I X nm k)) (F.C.shn nm k hnm hk)
          refine ⟨rfl, _, rfl, ua, _, 0, _, rfl, rfl, hu, rfl, _, _, rfl, rfl, _, rfl, ite2 (fun e => ?_) (fun e => ⟨sk, eD⟩)⟩
          have : (rat X (Lp.shO I X nm k)).1 < 0 := of_decide_eq_true e
          omega
        rintro Hk ⟨sk, eD⟩
        refine ⟨Nat.zero_le _, fun E0 hE0 => ?_⟩
        have s4 : Same Hk (L2.upd Hk E0 (.lst [])) := same_upd hE0
        refine ⟨.list [], .list [], .lst (sqL (s4 _ _ eD)) .nil, .lst (sqL upd_same) .nil, by decide +kernel, by decide +kernel, _, rfl, ?_⟩
        generalize L2.upd Hk E0 (.lst []) = Hq at s4 ⊢
        have sHq : Same Hi' Hq := (sHm.trans sk).trans s4
        -- they add up to one
        obtain ⟨xs, hxs⟩ : ∃ xs, xs = (List.range I.s).map (Lp.shO I X nm) := ⟨_, rfl⟩
        have hxl : xs.length ≤ 50 := by rw [hxs, List.length_map, List.length_range]; omega
        have hxb : ∀ x, x ∈ xs → Lp.ab x ≤ 10 ^ 40 := fun x hx => by
          rw [hxs] at hx
          obtain ⟨p, hp, rfl⟩ := List.mem_map.mp hx
          exact sh_ab F hnm (List.mem_range.mp hp)
        have hda2 : Ats K Hq ((xs.map (rat X)).map ratD) dvs := by
          rw [hxs, List.map_map, List.map_map]
          exact Ats.same (Same.toT sHq) hda
        have hsum : xs.sum = X.scale := by rw [hxs, sum_range]; exact F.C.one nm hnm
        refine ⟨_, rfl, da, dvs, xs.map (rat X), 140, rfl, .inr ((Same.toT sHq).seq hdT), hda2, rats_bits F hxb, by decide, by decide, by rw [List.length_map]; exact hxl, fun H9 t s9 et => ⟨szl' (by show 2 ≤ 1000000; decide), fun t2 nt2 => ?_⟩⟩
        have s10 : Same H9 (L2.upd H9 t2 (.tup [.int 1, .int 1])) := same_upd nt2
        have bm := bits_mul (sum_bits F hxb hxl) (show Bits 8 ((1, 1) : Int × Int) from ⟨by decide, by decide⟩) (by decide) (by decide) (by decide)
        have r1 := sum_rep F xs
        rw [hsum] at r1
        have r2 := Lp.rep_int X.scale 1
        rw [Int.mul_one] at r2
        exact ⟨.ref t, .ref t2, _, (1, 1), rfl, at_rat (sqT (s10 _ _ et)), at_rat (sqT upd_same), bm.1, bm.2, Lp.rep_same d0 r1 r2, true, rfl, ⟨_, rfl⟩, ((si.trans sHq).trans s9).trans s10⟩
      rintro σ Hi ⟨⟨v11, rfl⟩, si⟩
      -- the tops
      have htpTi := (Same.toT si).seq htpT
      refine ⟨_, rfl, tpa, rfl, ⟨_, htpTi⟩, fun D hD => ?_⟩
      refine lc_it walk_tup (fun k Hk => Same Hi Hk ∧ Hk D = some (.lst [])) ⟨same_upd hD, upd_same⟩ (fun k Hk _ h => (Same.toT h.1).seq htpTi) ?_ ?_
      · rintro k x Hk Hk' hk ⟨sk, eD⟩ ⟨rfl, hx⟩
        rw [htpl] at hk
        obtain ⟨dd, hd, hdx⟩ := htpa.item hx
        rw [List.getElem?_map, List.getElem?_range hk] at hd
        cases hd
        exact ⟨rfl, _, rfl, x, rat X (Lp.topO I X k), rfl, At.same (Same.toT (si.trans sk)) hdx, rat_low F (top_ab F hk), true, rfl, sk, eD⟩
      rintro Hk ⟨sk, eD⟩
      refine ⟨Nat.zero_le _, fun E0 hE0 => ?_⟩
      have s4 : Same Hk (L2.upd Hk E0 (.lst [])) := same_upd hE0
      refine ⟨.list [], .list [], .lst (sqL (s4 _ _ eD)) .nil, .lst (sqL upd_same) .nil, by decide +kernel, by decide +kernel, _, rfl, ?_⟩
      generalize L2.upd Hk E0 (.lst []) = Hq at s4 ⊢
      have sHq : Same H8 Hq := (si.trans sk).trans s4
      have hsum0 : ((List.range I.n).map (Lp.topO I X)).sum = totO I X := sum_range _ _
      obtain ⟨xs, hxs⟩ : ∃ xs, xs = (List.range I.n).map (Lp.topO I X) := ⟨_, rfl⟩
      have hxl : xs.length ≤ 50 := by rw [hxs, List.length_map, List.length_range]; omega
      have hxb : ∀ x, x ∈ xs → Lp.ab x ≤ 10 ^ 40 := fun x hx => by
        rw [hxs] at hx
        obtain ⟨p, hp, rfl⟩ := List.mem_map.mp hx
        exact top_ab F (List.mem_range.mp hp)
      have hda2 : Ats K Hq ((xs.map (rat X)).map ratD) tps := by
        rw [hxs, List.map_map, List.map_map]
        exact Ats.same (Same.toT sHq) htpa
      rw [← hxs] at hsum0
      have r1 := sum_rep F xs
      rw [hsum0] at r1
      refine ⟨_, rfl, tpa, tps, xs.map (rat X), 140, rfl, .inr ((Same.toT sHq).seq htpT), hda2, rats_bits F hxb, by decide, by decide, by rw [List.length_map]; exact hxl, fun H9 t s9 et => ?_⟩
      have s89 := sHq.trans s9
      have bm := bits_mul (sum_bits F hxb hxl) (low_bits lowT) (by decide) (by decide) (by decide)
      refine ⟨_, rfl, .ref t, x0, _, rat X (totO I X), rfl, at_rat (sqT et), At.same (Same.toT s89) hx0, bm.1, bm.2, Lp.rep_same d0 r1 (rat_rep F _), true, rfl, ?_⟩
      -- the prices
      have T9 := Same.toT s89
      refine ⟨_, rfl, _, _, _, _, true, rfl, .ty "tuple", tyT (T9.seq hprT), kit_ty (by decide +kernel), true, rfl, ?_⟩
      refine ⟨_, rfl, pra, prs, rfl, .inr (T9.seq hprT), _, rfl, ia, is_, 1, _, rfl, rfl, T9.seq hiT, ei1, ta, ts, rfl, .inr (T9.seq hts), rfl, _, rfl, iteNS (by rw [hprl, htq]) ?_⟩
      refine ⟨_, rfl, _, rfl, _, rfl, _, rfl, I, X, _, _, _, _, rfl, At.same T9 hC8, At.same T9 hI8, At.same T9 hx2, At.same T9 hx3, w2, F, fun Ha sa => ⟨true, rfl, ?_⟩⟩
      have s8a := s89.trans sa
      have Ta := Same.toT s8a
      refine ⟨_, rfl, _, rfl, _, rfl, I, _, _, rfl, At.same Ta hC8, At.same Ta hI8, w2, fun Hb t3 u row sb et3 hrl hrx => ⟨t3, _, 0, _, rfl, rfl, sqT et3, rfl, szl' (by show 2 ≤ 1000000; decide), fun t4 nt4 => ?_⟩⟩
      have sc4 : Same Hb (L2.upd Hb t4 (.tup [.int (totalN I row), .int 1])) := same_upd nt4
      have s8c := (s8a.trans sb).trans sc4
      have tn := total_nat w2 (row := row)
      have bm2 := bits_mul (low_bits lowT) (show Bits 64 ((totalN I row, 1) : Int × Int) from ⟨by show (totalN I row).natAbs < _; omega, by show (1 : Int).natAbs < _; decide⟩) (by decide) (by decide) (by decide)
      have below := Lp.rep_below d0 (rat_rep F (totO I X)) (Lp.rep_int X.scale (totalN I row)) (below_least w2 F hrl hrx)
      refine ⟨x0, .ref t4, rat X (totO I X), (totalN I row, 1), rfl, At.same (Same.toT s8c) hx0, at_rat (sqT upd_same), bm2.1, bm2.2, below, true, rfl, ?_⟩
      generalize L2.upd Hb t4 (.tup [.int (totalN I row), .int 1]) = Hc at s8c ⊢
      clear bm bm2 below
      refine ⟨_, rfl, rfl, _, rfl, ite2 (fun e => q _) (fun e => ?_)⟩
      have hs2 : I.s = 2 := by
        rcases hz with h | h
        · exact h
        · exact absurd (decide_eq_true (by rw [h]; rfl)) e
      obtain ⟨ca, cs, rfl, hcT, hcl, _, hci⟩ := hC8.ix
      obtain ⟨c1', ec1, hc1⟩ := hci 1 _ rfl
      obtain ⟨b, fs, rfl, hb, hfl, hfs, _⟩ := hc1.ix
      refine ⟨Nat.zero_le _, fun S nS => ?_⟩
      have sS : Same Hc (L2.upd Hc S (.lst [])) := same_upd nS
      have s8S := s8c.trans sS
      refine ⟨_, rfl, ia, is_, 1, _, rfl, rfl, (Same.toT s8S).seq hiT, ei1, ta, rfl, ⟨_, (Same.toT s8S).seq hts⟩, ?_⟩
      refine for_it walk_tup (fun i σ Hi => (∃ v13 v14 v15 : Option V, σ = [some (.ref sc), some (.ref r), some (.int I.s), some (.ref ca), some (.int I.n), some (.ref ia), some (.ref ra), some x0, some (.ref sha), some (.ref tpa), some (.ref pra), v11, some (.ref S), v13, v14, v15, none, none]) ∧ Same Hc Hi ∧ DL K Hi S (((List.range i).map (chL I X)).map ratD))
        ⟨⟨none, none, none, rfl⟩, sS, [], upd_same, rfl⟩ (fun i σ Hi _ h => (Same.toT (s8c.trans h.2.1)).seq hts) ?_ ?_
      · rintro i x σ Hi Hi' hi ⟨⟨v13, v14, v15, rfl⟩, si, hDL⟩ ⟨rfl, hx⟩
        have hiq : i < I.q := by rw [← htq]; exact hi
        have s8i := s8c.trans si
        have Ti := Same.toT s8i
        obtain ⟨dd, hd, hAt⟩ := hta.item hx
        rw [List.getElem?_map, (w2.tm hiq).1] at hd
        cases hd
        have tw := w2.t _ (w2.tm hiq).2
        have fm := w2.fn tw.1
        have ff := w2.f _ fm.2
        obtain ⟨a, us, rfl, hT, hl, _, hi'⟩ := hAt.ix
        obtain ⟨w0, ew0, hw0⟩ := hi' 0 _ rfl
        obtain rfl := at_i hw0
        obtain ⟨w1, ew1, hw1⟩ := hi' 1 _ rfl
        obtain ⟨sa, rfl, hsa⟩ := at_row hw1
        obtain ⟨w3, ew2, hw2⟩ := hi' 2 _ rfl
        obtain rfl := at_i hw2
        have hus : us = [.int ((I.t i).which : Nat), .ref sa, .int (I.t i).w] := by
          have l3 : us.length = 3 := hl
          match us, l3, ew0, ew1, ew2 with
          | [x0, x1, x2], _, ew0, ew1, ew2 =>
            cases (Option.some.inj ew0); cases (Option.some.inj ew1); cases (Option.some.inj ew2); rfl
        subst hus
        refine ⟨a, _, rfl, Ti.seq hT, rfl, _, _, rfl, _, _, rfl, _, _, rfl, rfl, ?_⟩
        obtain ⟨svs, eS, hsva⟩ := id hDL
        have har : (I.t i).scope.length = 1 ∨ (I.t i).scope.length = 2 := wf.ar i hiq
        obtain ⟨fv, efv, hfv⟩ := hfs.get (j := (I.t i).which) (d := fnD (I.fns.getD (I.t i).which (0, []))) (by rw [List.getElem?_map, fm.1]; rfl)
        obtain ⟨fa, fus, rfl, hfT, _, _, hfi⟩ := hfv.ix
        obtain ⟨g1, eg1, hg1⟩ := hfi 1 _ rfl
        obtain ⟨ga, rfl, hga⟩ := at_ints hg1
        refine ⟨_, rfl, .inl ⟨rfl, _, sqL eS⟩, ?_⟩
        refine ⟨_, rfl, ca, cs, 1, _, rfl, rfl, Ti.seq hcT, ec1, _, rfl, b, fs, ((I.t i).which : Nat), _, rfl, rfl, Ti.seq hb, atI_nat efv, fa, fus, 1, _, rfl, rfl, Ti.seq hfT, eg1, _, rfl, sa, rfl, ⟨_, Ti.seq hsa⟩, fun D hD => ?_⟩
        refine lc_it walk_tup (fun j Hj => Same Hi' Hj ∧ DL K Hj D ((((I.t i).scope.take j).map fun x => rat X (Lp.shO I X x 0)).map ratD)) ⟨same_upd hD, [], upd_same, rfl⟩ (fun j Hj _ h => (Same.toT (s8i.trans h.1)).seq hsa) ?_ ?_
        · rintro j x Hj Hj' hj ⟨sj, hDD⟩ ⟨rfl, hxi⟩
          rw [List.getElem?_map] at hxi
          obtain ⟨y, hy, rfl⟩ := Option.map_eq_some_iff.mp hxi
          have hyn : y < I.n := tw.2.2.1 y (List.mem_of_getElem? hy)
          have s8j := s8i.trans sj
          obtain ⟨u, eu, hu⟩ := hshi y (shD I X y) (by rw [List.getElem?_map, List.getElem?_range hyn]; rfl)
          obtain ⟨da, dvs, rfl, hdT, _, _, hdi⟩ := (At.same (Same.toT s8j) hu).ix
          obtain ⟨u2, eu2, hu2⟩ := hdi 0 (ratD (rat X (Lp.shO I X y 0))) (by rw [List.getElem?_map, List.getElem?_range (by omega)]; rfl)
          obtain ⟨acc, eD, _⟩ := id hDD
          refine ⟨rfl, _, rfl, _, rfl, sha, shs, (y : Int), _, rfl, rfl, (Same.toT s8j).seq hshT, eu, da, dvs, 0, u2, rfl, rfl, hdT, eu2, acc, eD, szl ?_, same_put sj hD, ?_⟩
          · rw [hDD.len eD, List.length_map, List.length_map, List.length_take]; omega
          · rw [List.take_add_one, hy, List.map_append, List.map_append]
            exact hDD.push eD hu2
        rintro Hj ⟨sj, dvs, eD, hda⟩
        rw [List.take_of_length_le (by rw [List.length_map]; exact Nat.le_refl _)] at hda
        have s8j := s8i.trans sj
        have lenp : ((I.t i).scope.map fun x => rat X (Lp.shO I X x 0)).length = 1 ∧ (I.tab i).length = 2 ∨ ((I.t i).scope.map fun x => rat X (Lp.shO I X x 0)).length = 2 ∧ (I.tab i).length = 4 := by
          rw [List.length_map, wf.tl i hiq, hs2]
          rcases har with h | h
          · exact .inl ⟨h, by show 2 ^ (I.t i).scope.length = 2; rw [h]⟩
          · exact .inr ⟨h, by show 2 ^ (I.t i).scope.length = 4; rw [h]⟩
        have pbits : ∀ p, p ∈ ((I.t i).scope.map fun x => rat X (Lp.shO I X x 0)) → Bits 140 p := fun p hp => by
          obtain ⟨y, hy, rfl⟩ := List.mem_map.mp hp
          exact low_bits (rat_low F (sh_ab F (tw.2.2.1 y hy) (by omega)))
        refine ⟨_, rfl, ga, D, dvs, I.tab i, _, (I.t i).w, rfl, (Same.toT s8j).seq hga, sqL eD, hda, pbits, ff.2.2, tw.2.2.2.1, tw.2.2.2.2, lenp, fun H9 t s9 et => ?_⟩
        have si9 := sj.trans s9
        refine ⟨S, _, _, rfl, rfl, si9 _ _ eS, szl (by rw [hDL.len eS, List.length_map, List.length_map, List.length_range]; have := w2.q; have : I.q ≤ 5 := this; omega), ?_⟩
        refine ⟨⟨_, _, _, rfl⟩, same_put (si.trans si9) nS, ?_⟩
        rw [List.range_succ, List.map_append, List.map_append]
        exact (hDL.same si9).push (si9 _ _ eS) (at_rat (sqT et))
      rintro σ Hi ⟨⟨v13, v14, v15, rfl⟩, si, svs, eS, hsva⟩
      rw [htq] at hsva
      have cbits : ∀ p, p ∈ (List.range I.q).map (chL I X) → Bits 400 p := fun p hp => by
        obtain ⟨i, hi, rfl⟩ := List.mem_map.mp hp
        have hiq := List.mem_range.mp hi
        have tw := w2.t _ (w2.tm hiq).2
        have fm := w2.fn tw.1
        have ff := w2.f _ fm.2
        have har : (I.t i).scope.length = 1 ∨ (I.t i).scope.length = 2 := wf.ar i hiq
        refine chR_bits (fun p hp => ?_) ff.2.2 tw.2.2.2.1 tw.2.2.2.2 ?_
        · obtain ⟨y, hy, rfl⟩ := List.mem_map.mp hp
          exact low_bits (rat_low F (sh_ab F (tw.2.2.1 y hy) (by omega)))
        · rw [List.length_map]
          have := wf.tl i hiq
          rw [hs2] at this
          have e : (I.fns.getD (I.t i).which (0, [])).2.length = 2 ^ (I.t i).scope.length := this
          rcases har with h | h
          · exact .inl ⟨h, by show (I.tab i).length = 2; rw [wf.tl i hiq, hs2]; show 2 ^ (I.t i).scope.length = 2; rw [h]⟩
          · exact .inr ⟨h, by show (I.tab i).length = 4; rw [wf.tl i hiq, hs2]; show 2 ^ (I.t i).scope.length = 4; rw [h]⟩
      have hq5 : I.q ≤ 5 := w2.q
      have crep : Lp.Rep X.scale (totO I X) (Lp.addR ((List.range I.q).map (chL I X))) := by
        have h1 := rep_list (d := X.scale) (l := (List.range I.q).map (chL I X)) (Xs := (List.range I.q).map (I.ch (Lp.shO I X) X.scale)) (by rw [List.length_map, List.length_map]) (fun i hi => by
          rw [List.length_map, List.length_range] at hi
          rw [Lp.getD_map_range _ _ hi, Lp.getD_map_range _ _ hi]
          exact chL_rep w2 F hs2 hi)
        rw [sum_range] at h1
        have h2 := F.C.cheap wf hs2
        have h3 : Lp.sumN I.q (I.ch (Lp.shO I X) X.scale) = totO I X := h2
        rw [h3] at h1
        exact h1
      have abits := addR_bits cbits
      rw [List.length_map, List.length_range] at abits
      refine ⟨_, rfl, S, svs, (List.range I.q).map (chL I X), 400, rfl, .inl (sqL eS), hsva, cbits, by decide, by decide, by rw [List.length_map, List.length_range]; omega, fun H9 t9 s9 et9 => ?_⟩
      have bm := bits_mul abits (low_bits lowT) (by omega) (by decide) (by omega)
      exact ⟨_, rfl, .ref t9, x0, _, rat X (totO I X), rfl, at_rat (sqT et9), At.same (Same.toT ((s8c.trans si).trans s9)) hx0, bm.1, bm.2, Lp.rep_same d0 crep (rat_rep F _), q _⟩)
end
end KV
namespace KV
open PySem PySem.Spec PyProof.Rows L2
/-! ### what the top has written -/
set_option maxHeartbeats 0 in
theorem all_mk {l : PySem.W.OpenLaw} {w : World} {K : PySem.W.Frag} {h : Heap} {mg : Str → Option Value} {fa C : Addr} {f_is_int f_is_in f_is_row f_all_rows f_power_of f_place_of f_tb_init f_tb_pivot f_tb_entering f_tb_leaving f_tb_run f_tb_drive_out f_tb_shares f_tb_prices f_lowered f_least_sum f_is_function f_need_costs f_is_term f_need_terms f_need_sum f_cost_of f_relaxation f_ratio_of f_relaxed f_law_taken f_law_pick f_law_whole f_law_rows f_law_costs f_law_terms f_law_total f_law_least f_law_ratio f_law_added f_law_same f_law_below f_law_bounded f_law_cheapest f_law : Addr} (X : K.In h) (G : h.Ns mainGlobals mg) (hfa : mg "law" = some (.ref fa))
    {od_is_int an_is_int : Option Addr} {sl_is_int : Array (Option Value)} {oc_is_int kV_is_int dc_is_int pm_is_int cd_is_int ct_is_int : Value}
    {od_is_in an_is_in : Option Addr} {sl_is_in : Array (Option Value)} {oc_is_in kV_is_in dc_is_in pm_is_in cd_is_in ct_is_in : Value}
    {od_is_row an_is_row : Option Addr} {sl_is_row : Array (Option Value)} {oc_is_row kV_is_row dc_is_row pm_is_row cd_is_row ct_is_row : Value}
    {od_all_rows an_all_rows : Option Addr} {sl_all_rows : Array (Option Value)} {oc_all_rows kV_all_rows dc_all_rows pm_all_rows cd_all_rows ct_all_rows : Value}
    {od_power_of an_power_of : Option Addr} {sl_power_of : Array (Option Value)} {oc_power_of kV_power_of dc_power_of pm_power_of cd_power_of ct_power_of : Value}
    {od_place_of an_place_of : Option Addr} {sl_place_of : Array (Option Value)} {oc_place_of kV_place_of dc_place_of pm_place_of cd_place_of ct_place_of : Value}
    {od_tb_init an_tb_init : Option Addr} {sl_tb_init : Array (Option Value)} {oc_tb_init kV_tb_init dc_tb_init pm_tb_init cd_tb_init ct_tb_init : Value}
    {od_tb_pivot an_tb_pivot : Option Addr} {sl_tb_pivot : Array (Option Value)} {oc_tb_pivot kV_tb_pivot dc_tb_pivot pm_tb_pivot cd_tb_pivot ct_tb_pivot : Value}
    {od_tb_entering an_tb_entering : Option Addr} {sl_tb_entering : Array (Option Value)} {oc_tb_entering kV_tb_entering dc_tb_entering pm_tb_entering cd_tb_entering ct_tb_entering : Value}
    {od_tb_leaving an_tb_leaving : Option Addr} {sl_tb_leaving : Array (Option Value)} {oc_tb_leaving kV_tb_leaving dc_tb_leaving pm_tb_leaving cd_tb_leaving ct_tb_leaving : Value}
    {od_tb_run an_tb_run : Option Addr} {sl_tb_run : Array (Option Value)} {oc_tb_run kV_tb_run dc_tb_run pm_tb_run cd_tb_run ct_tb_run : Value}
    {od_tb_drive_out an_tb_drive_out : Option Addr} {sl_tb_drive_out : Array (Option Value)} {oc_tb_drive_out kV_tb_drive_out dc_tb_drive_out pm_tb_drive_out cd_tb_drive_out ct_tb_drive_out : Value}
    {od_tb_shares an_tb_shares : Option Addr} {sl_tb_shares : Array (Option Value)} {oc_tb_shares kV_tb_shares dc_tb_shares pm_tb_shares cd_tb_shares ct_tb_shares : Value}
    {od_tb_prices an_tb_prices : Option Addr} {sl_tb_prices : Array (Option Value)} {oc_tb_prices kV_tb_prices dc_tb_prices pm_tb_prices cd_tb_prices ct_tb_prices : Value}
    {od_lowered an_lowered : Option Addr} {sl_lowered : Array (Option Value)} {oc_lowered kV_lowered dc_lowered pm_lowered cd_lowered ct_lowered : Value}
    {od_least_sum an_least_sum : Option Addr} {sl_least_sum : Array (Option Value)} {oc_least_sum kV_least_sum dc_least_sum pm_least_sum cd_least_sum ct_least_sum : Value}
    {od_is_function an_is_function : Option Addr} {sl_is_function : Array (Option Value)} {oc_is_function kV_is_function dc_is_function pm_is_function cd_is_function ct_is_function : Value}
    {od_need_costs an_need_costs : Option Addr} {sl_need_costs : Array (Option Value)} {oc_need_costs kV_need_costs dc_need_costs pm_need_costs cd_need_costs ct_need_costs : Value}
    {od_is_term an_is_term : Option Addr} {sl_is_term : Array (Option Value)} {oc_is_term kV_is_term dc_is_term pm_is_term cd_is_term ct_is_term : Value}
    {od_need_terms an_need_terms : Option Addr} {sl_need_terms : Array (Option Value)} {oc_need_terms kV_need_terms dc_need_terms pm_need_terms cd_need_terms ct_need_terms : Value}
    {od_need_sum an_need_sum : Option Addr} {sl_need_sum : Array (Option Value)} {oc_need_sum kV_need_sum dc_need_sum pm_need_sum cd_need_sum ct_need_sum : Value}
    {od_cost_of an_cost_of : Option Addr} {sl_cost_of : Array (Option Value)} {oc_cost_of kV_cost_of dc_cost_of pm_cost_of cd_cost_of ct_cost_of : Value}
    {od_relaxation an_relaxation : Option Addr} {sl_relaxation : Array (Option Value)} {oc_relaxation kV_relaxation dc_relaxation pm_relaxation cd_relaxation ct_relaxation : Value}
    {od_ratio_of an_ratio_of : Option Addr} {sl_ratio_of : Array (Option Value)} {oc_ratio_of kV_ratio_of dc_ratio_of pm_ratio_of cd_ratio_of ct_ratio_of : Value}
    {od_relaxed an_relaxed : Option Addr} {sl_relaxed : Array (Option Value)} {oc_relaxed kV_relaxed dc_relaxed pm_relaxed cd_relaxed ct_relaxed : Value}
    {od_law_taken an_law_taken : Option Addr} {sl_law_taken : Array (Option Value)} {oc_law_taken kV_law_taken dc_law_taken pm_law_taken cd_law_taken ct_law_taken : Value}
    {od_law_pick an_law_pick : Option Addr} {sl_law_pick : Array (Option Value)} {oc_law_pick kV_law_pick dc_law_pick pm_law_pick cd_law_pick ct_law_pick : Value}
    {od_law_whole an_law_whole : Option Addr} {sl_law_whole : Array (Option Value)} {oc_law_whole kV_law_whole dc_law_whole pm_law_whole cd_law_whole ct_law_whole : Value}
    {od_law_rows an_law_rows : Option Addr} {sl_law_rows : Array (Option Value)} {oc_law_rows kV_law_rows dc_law_rows pm_law_rows cd_law_rows ct_law_rows : Value}
    {od_law_costs an_law_costs : Option Addr} {sl_law_costs : Array (Option Value)} {oc_law_costs kV_law_costs dc_law_costs pm_law_costs cd_law_costs ct_law_costs : Value}
    {od_law_terms an_law_terms : Option Addr} {sl_law_terms : Array (Option Value)} {oc_law_terms kV_law_terms dc_law_terms pm_law_terms cd_law_terms ct_law_terms : Value}
    {od_law_total an_law_total : Option Addr} {sl_law_total : Array (Option Value)} {oc_law_total kV_law_total dc_law_total pm_law_total cd_law_total ct_law_total : Value}
    {od_law_least an_law_least : Option Addr} {sl_law_least : Array (Option Value)} {oc_law_least kV_law_least dc_law_least pm_law_least cd_law_least ct_law_least : Value}
    {od_law_ratio an_law_ratio : Option Addr} {sl_law_ratio : Array (Option Value)} {oc_law_ratio kV_law_ratio dc_law_ratio pm_law_ratio cd_law_ratio ct_law_ratio : Value}
    {od_law_added an_law_added : Option Addr} {sl_law_added : Array (Option Value)} {oc_law_added kV_law_added dc_law_added pm_law_added cd_law_added ct_law_added : Value}
    {od_law_same an_law_same : Option Addr} {sl_law_same : Array (Option Value)} {oc_law_same kV_law_same dc_law_same pm_law_same cd_law_same ct_law_same : Value}
    {od_law_below an_law_below : Option Addr} {sl_law_below : Array (Option Value)} {oc_law_below kV_law_below dc_law_below pm_law_below cd_law_below ct_law_below : Value}
    {od_law_bounded an_law_bounded : Option Addr} {sl_law_bounded : Array (Option Value)} {oc_law_bounded kV_law_bounded dc_law_bounded pm_law_bounded cd_law_bounded ct_law_bounded : Value}
    {od_law_cheapest an_law_cheapest : Option Addr} {sl_law_cheapest : Array (Option Value)} {oc_law_cheapest kV_law_cheapest dc_law_cheapest pm_law_cheapest cd_law_cheapest ct_law_cheapest : Value}
    {od_law an_law : Option Addr} {sl_law : Array (Option Value)} {oc_law kV_law dc_law pm_law cd_law ct_law : Value}
    {t_MOST_COST t_MOST_FUNCTIONS t_MOST_COST_SIZE t_MOST_COST_ARITY t_MOST_NAMES t_MOST_TERMS : Tok}
    (aC : PySem.W.nsIn K mainGlobals "Tableau" = some (some (.ref C)))
    (a_is_int : PySem.W.nsIn K mainGlobals "is_int" = some (some (.ref f_is_int)))
    (l_is_int : K.lookup f_is_int = some ⟨oc_is_int, od_is_int, .func (PySem.W.fnOf "is_int" "is_int" (defArgs s_is_int) (defBody s_is_int) (defScope s_is_int) .none kV_is_int dc_is_int pm_is_int an_is_int cd_is_int ct_is_int), sl_is_int⟩) (c_is_int : PySem.W.codeIn K cd_is_int "is_int" = true) (k_is_int : PySem.W.keepIn K (.ref f_is_int) = true)
    (a_is_in : PySem.W.nsIn K mainGlobals "is_in" = some (some (.ref f_is_in)))
    (l_is_in : K.lookup f_is_in = some ⟨oc_is_in, od_is_in, .func (PySem.W.fnOf "is_in" "is_in" (defArgs s_is_in) (defBody s_is_in) (defScope s_is_in) .none kV_is_in dc_is_in pm_is_in an_is_in cd_is_in ct_is_in), sl_is_in⟩) (c_is_in : PySem.W.codeIn K cd_is_in "is_in" = true) (k_is_in : PySem.W.keepIn K (.ref f_is_in) = true)
    (a_is_row : PySem.W.nsIn K mainGlobals "is_row" = some (some (.ref f_is_row)))
    (l_is_row : K.lookup f_is_row = some ⟨oc_is_row, od_is_row, .func (PySem.W.fnOf "is_row" "is_row" (defArgs s_is_row) (defBody s_is_row) (defScope s_is_row) .none kV_is_row dc_is_row pm_is_row an_is_row cd_is_row ct_is_row), sl_is_row⟩) (c_is_row : PySem.W.codeIn K cd_is_row "is_row" = true) (k_is_row : PySem.W.keepIn K (.ref f_is_row) = true)
    (a_all_rows : PySem.W.nsIn K mainGlobals "all_rows" = some (some (.ref f_all_rows)))
    (l_all_rows : K.lookup f_all_rows = some ⟨oc_all_rows, od_all_rows, .func (PySem.W.fnOf "all_rows" "all_rows" (defArgs s_all_rows) (defBody s_all_rows) (defScope s_all_rows) .none kV_all_rows dc_all_rows pm_all_rows an_all_rows cd_all_rows ct_all_rows), sl_all_rows⟩) (c_all_rows : PySem.W.codeIn K cd_all_rows "all_rows" = true) (k_all_rows : PySem.W.keepIn K (.ref f_all_rows) = true)
    (a_power_of : PySem.W.nsIn K mainGlobals "power_of" = some (some (.ref f_power_of)))
    (l_power_of : K.lookup f_power_of = some ⟨oc_power_of, od_power_of, .func (PySem.W.fnOf "power_of" "power_of" (defArgs s_power_of) (defBody s_power_of) (defScope s_power_of) .none kV_power_of dc_power_of pm_power_of an_power_of cd_power_of ct_power_of), sl_power_of⟩) (c_power_of : PySem.W.codeIn K cd_power_of "power_of" = true) (k_power_of : PySem.W.keepIn K (.ref f_power_of) = true)
    (a_place_of : PySem.W.nsIn K mainGlobals "place_of" = some (some (.ref f_place_of)))
    (l_place_of : K.lookup f_place_of = some ⟨oc_place_of, od_place_of, .func (PySem.W.fnOf "place_of" "place_of" (defArgs s_place_of) (defBody s_place_of) (defScope s_place_of) .none kV_place_of dc_place_of pm_place_of an_place_of cd_place_of ct_place_of), sl_place_of⟩) (c_place_of : PySem.W.codeIn K cd_place_of "place_of" = true) (k_place_of : PySem.W.keepIn K (.ref f_place_of) = true)
    (a_tb_init : PySem.W.findIn K (.ref C) "__init__" = some (some (.ref f_tb_init))) (i_tb_init : PySem.W.isFn K (.ref f_tb_init) = true)
    (l_tb_init : K.lookup f_tb_init = some ⟨oc_tb_init, od_tb_init, .func (PySem.W.fnOf "__init__" "Tableau.__init__" (defArgs s_tb_init) (defBody s_tb_init) (defScope s_tb_init) .none kV_tb_init dc_tb_init pm_tb_init an_tb_init cd_tb_init ct_tb_init), sl_tb_init⟩) (c_tb_init : PySem.W.codeIn K cd_tb_init "Tableau.__init__" = true) (k_tb_init : PySem.W.keepIn K (.ref f_tb_init) = true)
    (a_tb_pivot : PySem.W.findIn K (.ref C) "pivot" = some (some (.ref f_tb_pivot))) (i_tb_pivot : PySem.W.isFn K (.ref f_tb_pivot) = true)
    (l_tb_pivot : K.lookup f_tb_pivot = some ⟨oc_tb_pivot, od_tb_pivot, .func (PySem.W.fnOf "pivot" "Tableau.pivot" (defArgs s_tb_pivot) (defBody s_tb_pivot) (defScope s_tb_pivot) .none kV_tb_pivot dc_tb_pivot pm_tb_pivot an_tb_pivot cd_tb_pivot ct_tb_pivot), sl_tb_pivot⟩) (c_tb_pivot : PySem.W.codeIn K cd_tb_pivot "Tableau.pivot" = true) (k_tb_pivot : PySem.W.keepIn K (.ref f_tb_pivot) = true)
    (a_tb_entering : PySem.W.findIn K (.ref C) "entering" = some (some (.ref f_tb_entering))) (i_tb_entering : PySem.W.isFn K (.ref f_tb_entering) = true)
    (l_tb_entering : K.lookup f_tb_entering = some ⟨oc_tb_entering, od_tb_entering, .func (PySem.W.fnOf "entering" "Tableau.entering" (defArgs s_tb_entering) (defBody s_tb_entering) (defScope s_tb_entering) .none kV_tb_entering dc_tb_entering pm_tb_entering an_tb_entering cd_tb_entering ct_tb_entering), sl_tb_entering⟩) (c_tb_entering : PySem.W.codeIn K cd_tb_entering "Tableau.entering" = true) (k_tb_entering : PySem.W.keepIn K (.ref f_tb_entering) = true)
    (a_tb_leaving : PySem.W.findIn K (.ref C) "leaving" = some (some (.ref f_tb_leaving))) (i_tb_leaving : PySem.W.isFn K (.ref f_tb_leaving) = true)
    (l_tb_leaving : K.lookup f_tb_leaving = some ⟨oc_tb_leaving, od_tb_leaving, .func (PySem.W.fnOf "leaving" "Tableau.leaving" (defArgs s_tb_leaving) (defBody s_tb_leaving) (defScope s_tb_leaving) .none kV_tb_leaving dc_tb_leaving pm_tb_leaving an_tb_leaving cd_tb_leaving ct_tb_leaving), sl_tb_leaving⟩) (c_tb_leaving : PySem.W.codeIn K cd_tb_leaving "Tableau.leaving" = true) (k_tb_leaving : PySem.W.keepIn K (.ref f_tb_leaving) = true)
    (a_tb_run : PySem.W.findIn K (.ref C) "run" = some (some (.ref f_tb_run))) (i_tb_run : PySem.W.isFn K (.ref f_tb_run) = true)
    (l_tb_run : K.lookup f_tb_run = some ⟨oc_tb_run, od_tb_run, .func (PySem.W.fnOf "run" "Tableau.run" (defArgs s_tb_run) (defBody s_tb_run) (defScope s_tb_run) .none kV_tb_run dc_tb_run pm_tb_run an_tb_run cd_tb_run ct_tb_run), sl_tb_run⟩) (c_tb_run : PySem.W.codeIn K cd_tb_run "Tableau.run" = true) (k_tb_run : PySem.W.keepIn K (.ref f_tb_run) = true)
    (a_tb_drive_out : PySem.W.findIn K (.ref C) "drive_out" = some (some (.ref f_tb_drive_out))) (i_tb_drive_out : PySem.W.isFn K (.ref f_tb_drive_out) = true)
    (l_tb_drive_out : K.lookup f_tb_drive_out = some ⟨oc_tb_drive_out, od_tb_drive_out, .func (PySem.W.fnOf "drive_out" "Tableau.drive_out" (defArgs s_tb_drive_out) (defBody s_tb_drive_out) (defScope s_tb_drive_out) .none kV_tb_drive_out dc_tb_drive_out pm_tb_drive_out an_tb_drive_out cd_tb_drive_out ct_tb_drive_out), sl_tb_drive_out⟩) (c_tb_drive_out : PySem.W.codeIn K cd_tb_drive_out "Tableau.drive_out" = true) (k_tb_drive_out : PySem.W.keepIn K (.ref f_tb_drive_out) = true)
    (a_tb_shares : PySem.W.findIn K (.ref C) "shares" = some (some (.ref f_tb_shares))) (i_tb_shares : PySem.W.isFn K (.ref f_tb_shares) = true)
    (l_tb_shares : K.lookup f_tb_shares = some ⟨oc_tb_shares, od_tb_shares, .func (PySem.W.fnOf "shares" "Tableau.shares" (defArgs s_tb_shares) (defBody s_tb_shares) (defScope s_tb_shares) .none kV_tb_shares dc_tb_shares pm_tb_shares an_tb_shares cd_tb_shares ct_tb_shares), sl_tb_shares⟩) (c_tb_shares : PySem.W.codeIn K cd_tb_shares "Tableau.shares" = true) (k_tb_shares : PySem.W.keepIn K (.ref f_tb_shares) = true)
    (a_tb_prices : PySem.W.findIn K (.ref C) "prices" = some (some (.ref f_tb_prices))) (i_tb_prices : PySem.W.isFn K (.ref f_tb_prices) = true)
    (l_tb_prices : K.lookup f_tb_prices = some ⟨oc_tb_prices, od_tb_prices, .func (PySem.W.fnOf "prices" "Tableau.prices" (defArgs s_tb_prices) (defBody s_tb_prices) (defScope s_tb_prices) .none kV_tb_prices dc_tb_prices pm_tb_prices an_tb_prices cd_tb_prices ct_tb_prices), sl_tb_prices⟩) (c_tb_prices : PySem.W.codeIn K cd_tb_prices "Tableau.prices" = true) (k_tb_prices : PySem.W.keepIn K (.ref f_tb_prices) = true)
    (a_lowered : PySem.W.nsIn K mainGlobals "lowered" = some (some (.ref f_lowered)))
    (l_lowered : K.lookup f_lowered = some ⟨oc_lowered, od_lowered, .func (PySem.W.fnOf "lowered" "lowered" (defArgs s_lowered) (defBody s_lowered) (defScope s_lowered) .none kV_lowered dc_lowered pm_lowered an_lowered cd_lowered ct_lowered), sl_lowered⟩) (c_lowered : PySem.W.codeIn K cd_lowered "lowered" = true) (k_lowered : PySem.W.keepIn K (.ref f_lowered) = true)
    (a_least_sum : PySem.W.nsIn K mainGlobals "least_sum" = some (some (.ref f_least_sum)))
    (l_least_sum : K.lookup f_least_sum = some ⟨oc_least_sum, od_least_sum, .func (PySem.W.fnOf "least_sum" "least_sum" (defArgs s_least_sum) (defBody s_least_sum) (defScope s_least_sum) .none kV_least_sum dc_least_sum pm_least_sum an_least_sum cd_least_sum ct_least_sum), sl_least_sum⟩) (c_least_sum : PySem.W.codeIn K cd_least_sum "least_sum" = true) (k_least_sum : PySem.W.keepIn K (.ref f_least_sum) = true)
    (a_is_function : PySem.W.nsIn K mainGlobals "is_function" = some (some (.ref f_is_function)))
    (l_is_function : K.lookup f_is_function = some ⟨oc_is_function, od_is_function, .func (PySem.W.fnOf "is_function" "is_function" (defArgs s_is_function) (defBody s_is_function) (defScope s_is_function) .none kV_is_function dc_is_function pm_is_function an_is_function cd_is_function ct_is_function), sl_is_function⟩) (c_is_function : PySem.W.codeIn K cd_is_function "is_function" = true) (k_is_function : PySem.W.keepIn K (.ref f_is_function) = true)
    (a_need_costs : PySem.W.nsIn K mainGlobals "need_costs" = some (some (.ref f_need_costs)))
    (l_need_costs : K.lookup f_need_costs = some ⟨oc_need_costs, od_need_costs, .func (PySem.W.fnOf "need_costs" "need_costs" (defArgs s_need_costs) (defBody s_need_costs) (defScope s_need_costs) .none kV_need_costs dc_need_costs pm_need_costs an_need_costs cd_need_costs ct_need_costs), sl_need_costs⟩) (c_need_costs : PySem.W.codeIn K cd_need_costs "need_costs" = true) (k_need_costs : PySem.W.keepIn K (.ref f_need_costs) = true)
    (a_is_term : PySem.W.nsIn K mainGlobals "is_term" = some (some (.ref f_is_term)))
    (l_is_term : K.lookup f_is_term = some ⟨oc_is_term, od_is_term, .func (PySem.W.fnOf "is_term" "is_term" (defArgs s_is_term) (defBody s_is_term) (defScope s_is_term) .none kV_is_term dc_is_term pm_is_term an_is_term cd_is_term ct_is_term), sl_is_term⟩) (c_is_term : PySem.W.codeIn K cd_is_term "is_term" = true) (k_is_term : PySem.W.keepIn K (.ref f_is_term) = true)
    (a_need_terms : PySem.W.nsIn K mainGlobals "need_terms" = some (some (.ref f_need_terms)))
    (l_need_terms : K.lookup f_need_terms = some ⟨oc_need_terms, od_need_terms, .func (PySem.W.fnOf "need_terms" "need_terms" (defArgs s_need_terms) (defBody s_need_terms) (defScope s_need_terms) .none kV_need_terms dc_need_terms pm_need_terms an_need_terms cd_need_terms ct_need_terms), sl_need_terms⟩) (c_need_terms : PySem.W.codeIn K cd_need_terms "need_terms" = true) (k_need_terms : PySem.W.keepIn K (.ref f_need_terms) = true)
    (a_need_sum : PySem.W.nsIn K mainGlobals "need_sum" = some (some (.ref f_need_sum)))
    (l_need_sum : K.lookup f_need_sum = some ⟨oc_need_sum, od_need_sum, .func (PySem.W.fnOf "need_sum" "need_sum" (defArgs s_need_sum) (defBody s_need_sum) (defScope s_need_sum) .none kV_need_sum dc_need_sum pm_need_sum an_need_sum cd_need_sum ct_need_sum), sl_need_sum⟩) (c_need_sum : PySem.W.codeIn K cd_need_sum "need_sum" = true) (k_need_sum : PySem.W.keepIn K (.ref f_need_sum) = true)
    (a_cost_of : PySem.W.nsIn K mainGlobals "cost_of" = some (some (.ref f_cost_of)))
    (l_cost_of : K.lookup f_cost_of = some ⟨oc_cost_of, od_cost_of, .func (PySem.W.fnOf "cost_of" "cost_of" (defArgs s_cost_of) (defBody s_cost_of) (defScope s_cost_of) .none kV_cost_of dc_cost_of pm_cost_of an_cost_of cd_cost_of ct_cost_of), sl_cost_of⟩) (c_cost_of : PySem.W.codeIn K cd_cost_of "cost_of" = true) (k_cost_of : PySem.W.keepIn K (.ref f_cost_of) = true)
    (a_relaxation : PySem.W.nsIn K mainGlobals "relaxation" = some (some (.ref f_relaxation)))
    (l_relaxation : K.lookup f_relaxation = some ⟨oc_relaxation, od_relaxation, .func (PySem.W.fnOf "relaxation" "relaxation" (defArgs s_relaxation) (defBody s_relaxation) (defScope s_relaxation) .none kV_relaxation dc_relaxation pm_relaxation an_relaxation cd_relaxation ct_relaxation), sl_relaxation⟩) (c_relaxation : PySem.W.codeIn K cd_relaxation "relaxation" = true) (k_relaxation : PySem.W.keepIn K (.ref f_relaxation) = true)
    (a_ratio_of : PySem.W.nsIn K mainGlobals "ratio_of" = some (some (.ref f_ratio_of)))
    (l_ratio_of : K.lookup f_ratio_of = some ⟨oc_ratio_of, od_ratio_of, .func (PySem.W.fnOf "ratio_of" "ratio_of" (defArgs s_ratio_of) (defBody s_ratio_of) (defScope s_ratio_of) .none kV_ratio_of dc_ratio_of pm_ratio_of an_ratio_of cd_ratio_of ct_ratio_of), sl_ratio_of⟩) (c_ratio_of : PySem.W.codeIn K cd_ratio_of "ratio_of" = true) (k_ratio_of : PySem.W.keepIn K (.ref f_ratio_of) = true)
    (a_relaxed : PySem.W.nsIn K mainGlobals "relaxed" = some (some (.ref f_relaxed)))
    (l_relaxed : K.lookup f_relaxed = some ⟨oc_relaxed, od_relaxed, .func (PySem.W.fnOf "relaxed" "relaxed" (defArgs s_relaxed) (defBody s_relaxed) (defScope s_relaxed) .none kV_relaxed dc_relaxed pm_relaxed an_relaxed cd_relaxed ct_relaxed), sl_relaxed⟩) (c_relaxed : PySem.W.codeIn K cd_relaxed "relaxed" = true) (k_relaxed : PySem.W.keepIn K (.ref f_relaxed) = true)
    (a_law_taken : PySem.W.nsIn K mainGlobals "_law_taken" = some (some (.ref f_law_taken)))
    (l_law_taken : K.lookup f_law_taken = some ⟨oc_law_taken, od_law_taken, .func (PySem.W.fnOf "_law_taken" "_law_taken" (defArgs s_law_taken) (defBody s_law_taken) (defScope s_law_taken) .none kV_law_taken dc_law_taken pm_law_taken an_law_taken cd_law_taken ct_law_taken), sl_law_taken⟩) (c_law_taken : PySem.W.codeIn K cd_law_taken "_law_taken" = true) (k_law_taken : PySem.W.keepIn K (.ref f_law_taken) = true)
    (a_law_pick : PySem.W.nsIn K mainGlobals "_law_pick" = some (some (.ref f_law_pick)))
    (l_law_pick : K.lookup f_law_pick = some ⟨oc_law_pick, od_law_pick, .func (PySem.W.fnOf "_law_pick" "_law_pick" (defArgs s_law_pick) (defBody s_law_pick) (defScope s_law_pick) .none kV_law_pick dc_law_pick pm_law_pick an_law_pick cd_law_pick ct_law_pick), sl_law_pick⟩) (c_law_pick : PySem.W.codeIn K cd_law_pick "_law_pick" = true) (k_law_pick : PySem.W.keepIn K (.ref f_law_pick) = true)
    (a_law_whole : PySem.W.nsIn K mainGlobals "_law_whole" = some (some (.ref f_law_whole)))
    (l_law_whole : K.lookup f_law_whole = some ⟨oc_law_whole, od_law_whole, .func (PySem.W.fnOf "_law_whole" "_law_whole" (defArgs s_law_whole) (defBody s_law_whole) (defScope s_law_whole) .none kV_law_whole dc_law_whole pm_law_whole an_law_whole cd_law_whole ct_law_whole), sl_law_whole⟩) (c_law_whole : PySem.W.codeIn K cd_law_whole "_law_whole" = true) (k_law_whole : PySem.W.keepIn K (.ref f_law_whole) = true)
    (a_law_rows : PySem.W.nsIn K mainGlobals "_law_rows" = some (some (.ref f_law_rows)))
    (l_law_rows : K.lookup f_law_rows = some ⟨oc_law_rows, od_law_rows, .func (PySem.W.fnOf "_law_rows" "_law_rows" (defArgs s_law_rows) (defBody s_law_rows) (defScope s_law_rows) .none kV_law_rows dc_law_rows pm_law_rows an_law_rows cd_law_rows ct_law_rows), sl_law_rows⟩) (c_law_rows : PySem.W.codeIn K cd_law_rows "_law_rows" = true) (k_law_rows : PySem.W.keepIn K (.ref f_law_rows) = true)
    (a_law_costs : PySem.W.nsIn K mainGlobals "_law_costs" = some (some (.ref f_law_costs)))
    (l_law_costs : K.lookup f_law_costs = some ⟨oc_law_costs, od_law_costs, .func (PySem.W.fnOf "_law_costs" "_law_costs" (defArgs s_law_costs) (defBody s_law_costs) (defScope s_law_costs) .none kV_law_costs dc_law_costs pm_law_costs an_law_costs cd_law_costs ct_law_costs), sl_law_costs⟩) (c_law_costs : PySem.W.codeIn K cd_law_costs "_law_costs" = true) (k_law_costs : PySem.W.keepIn K (.ref f_law_costs) = true)
    (a_law_terms : PySem.W.nsIn K mainGlobals "_law_terms" = some (some (.ref f_law_terms)))
    (l_law_terms : K.lookup f_law_terms = some ⟨oc_law_terms, od_law_terms, .func (PySem.W.fnOf "_law_terms" "_law_terms" (defArgs s_law_terms) (defBody s_law_terms) (defScope s_law_terms) .none kV_law_terms dc_law_terms pm_law_terms an_law_terms cd_law_terms ct_law_terms), sl_law_terms⟩) (c_law_terms : PySem.W.codeIn K cd_law_terms "_law_terms" = true) (k_law_terms : PySem.W.keepIn K (.ref f_law_terms) = true)
    (a_law_total : PySem.W.nsIn K mainGlobals "_law_total" = some (some (.ref f_law_total)))
    (l_law_total : K.lookup f_law_total = some ⟨oc_law_total, od_law_total, .func (PySem.W.fnOf "_law_total" "_law_total" (defArgs s_law_total) (defBody s_law_total) (defScope s_law_total) .none kV_law_total dc_law_total pm_law_total an_law_total cd_law_total ct_law_total), sl_law_total⟩) (c_law_total : PySem.W.codeIn K cd_law_total "_law_total" = true) (k_law_total : PySem.W.keepIn K (.ref f_law_total) = true)
    (a_law_least : PySem.W.nsIn K mainGlobals "_law_least" = some (some (.ref f_law_least)))
    (l_law_least : K.lookup f_law_least = some ⟨oc_law_least, od_law_least, .func (PySem.W.fnOf "_law_least" "_law_least" (defArgs s_law_least) (defBody s_law_least) (defScope s_law_least) .none kV_law_least dc_law_least pm_law_least an_law_least cd_law_least ct_law_least), sl_law_least⟩) (c_law_least : PySem.W.codeIn K cd_law_least "_law_least" = true) (k_law_least : PySem.W.keepIn K (.ref f_law_least) = true)
    (a_law_ratio : PySem.W.nsIn K mainGlobals "_law_ratio" = some (some (.ref f_law_ratio)))
    (l_law_ratio : K.lookup f_law_ratio = some ⟨oc_law_ratio, od_law_ratio, .func (PySem.W.fnOf "_law_ratio" "_law_ratio" (defArgs s_law_ratio) (defBody s_law_ratio) (defScope s_law_ratio) .none kV_law_ratio dc_law_ratio pm_law_ratio an_law_ratio cd_law_ratio ct_law_ratio), sl_law_ratio⟩) (c_law_ratio : PySem.W.codeIn K cd_law_ratio "_law_ratio" = true) (k_law_ratio : PySem.W.keepIn K (.ref f_law_ratio) = true)
    (a_law_added : PySem.W.nsIn K mainGlobals "_law_added" = some (some (.ref f_law_added)))
    (l_law_added : K.lookup f_law_added = some ⟨oc_law_added, od_law_added, .func (PySem.W.fnOf "_law_added" "_law_added" (defArgs s_law_added) (defBody s_law_added) (defScope s_law_added) .none kV_law_added dc_law_added pm_law_added an_law_added cd_law_added ct_law_added), sl_law_added⟩) (c_law_added : PySem.W.codeIn K cd_law_added "_law_added" = true) (k_law_added : PySem.W.keepIn K (.ref f_law_added) = true)
    (a_law_same : PySem.W.nsIn K mainGlobals "_law_same" = some (some (.ref f_law_same)))
    (l_law_same : K.lookup f_law_same = some ⟨oc_law_same, od_law_same, .func (PySem.W.fnOf "_law_same" "_law_same" (defArgs s_law_same) (defBody s_law_same) (defScope s_law_same) .none kV_law_same dc_law_same pm_law_same an_law_same cd_law_same ct_law_same), sl_law_same⟩) (c_law_same : PySem.W.codeIn K cd_law_same "_law_same" = true) (k_law_same : PySem.W.keepIn K (.ref f_law_same) = true)
    (a_law_below : PySem.W.nsIn K mainGlobals "_law_below" = some (some (.ref f_law_below)))
    (l_law_below : K.lookup f_law_below = some ⟨oc_law_below, od_law_below, .func (PySem.W.fnOf "_law_below" "_law_below" (defArgs s_law_below) (defBody s_law_below) (defScope s_law_below) .none kV_law_below dc_law_below pm_law_below an_law_below cd_law_below ct_law_below), sl_law_below⟩) (c_law_below : PySem.W.codeIn K cd_law_below "_law_below" = true) (k_law_below : PySem.W.keepIn K (.ref f_law_below) = true)
    (a_law_bounded : PySem.W.nsIn K mainGlobals "_law_bounded" = some (some (.ref f_law_bounded)))
    (l_law_bounded : K.lookup f_law_bounded = some ⟨oc_law_bounded, od_law_bounded, .func (PySem.W.fnOf "_law_bounded" "_law_bounded" (defArgs s_law_bounded) (defBody s_law_bounded) (defScope s_law_bounded) .none kV_law_bounded dc_law_bounded pm_law_bounded an_law_bounded cd_law_bounded ct_law_bounded), sl_law_bounded⟩) (c_law_bounded : PySem.W.codeIn K cd_law_bounded "_law_bounded" = true) (k_law_bounded : PySem.W.keepIn K (.ref f_law_bounded) = true)
    (a_law_cheapest : PySem.W.nsIn K mainGlobals "_law_cheapest" = some (some (.ref f_law_cheapest)))
    (l_law_cheapest : K.lookup f_law_cheapest = some ⟨oc_law_cheapest, od_law_cheapest, .func (PySem.W.fnOf "_law_cheapest" "_law_cheapest" (defArgs s_law_cheapest) (defBody s_law_cheapest) (defScope s_law_cheapest) .none kV_law_cheapest dc_law_cheapest pm_law_cheapest an_law_cheapest cd_law_cheapest ct_law_cheapest), sl_law_cheapest⟩) (c_law_cheapest : PySem.W.codeIn K cd_law_cheapest "_law_cheapest" = true) (k_law_cheapest : PySem.W.keepIn K (.ref f_law_cheapest) = true)
    (a_law : PySem.W.nsIn K mainGlobals "law" = some (some (.ref f_law)))
    (l_law : K.lookup f_law = some ⟨oc_law, od_law, .func (PySem.W.fnOf "law" "law" (defArgs s_law) (defBody s_law) (defScope s_law) .none kV_law dc_law pm_law an_law cd_law ct_law), sl_law⟩) (c_law : PySem.W.codeIn K cd_law "law" = true) (k_law : PySem.W.keepIn K (.ref f_law) = true)
    (v_MOST_COST : PySem.W.nsIn K mainGlobals "MOST_COST" = some (some (.int 1000 t_MOST_COST)))
    (v_MOST_FUNCTIONS : PySem.W.nsIn K mainGlobals "MOST_FUNCTIONS" = some (some (.int 4 t_MOST_FUNCTIONS)))
    (v_MOST_COST_SIZE : PySem.W.nsIn K mainGlobals "MOST_COST_SIZE" = some (some (.int 3 t_MOST_COST_SIZE)))
    (v_MOST_COST_ARITY : PySem.W.nsIn K mainGlobals "MOST_COST_ARITY" = some (some (.int 2 t_MOST_COST_ARITY)))
    (v_MOST_NAMES : PySem.W.nsIn K mainGlobals "MOST_NAMES" = some (some (.int 8 t_MOST_NAMES)))
    (v_MOST_TERMS : PySem.W.nsIn K mainGlobals "MOST_TERMS" = some (some (.int 40 t_MOST_TERMS)))
    (z_isinstance : PySem.W.nsIn K mainGlobals "isinstance" = some none)
    (z_int : PySem.W.nsIn K mainGlobals "int" = some none)
    (z_bool : PySem.W.nsIn K mainGlobals "bool" = some none)
    (z_tuple : PySem.W.nsIn K mainGlobals "tuple" = some none)
    (z_len : PySem.W.nsIn K mainGlobals "len" = some none)
    (z_all : PySem.W.nsIn K mainGlobals "all" = some none)
    (z_range : PySem.W.nsIn K mainGlobals "range" = some none)
    (z_enumerate : PySem.W.nsIn K mainGlobals "enumerate" = some none)
    (z_zip : PySem.W.nsIn K mainGlobals "zip" = some none)
    (z_list : PySem.W.nsIn K mainGlobals "list" = some none)
    (z_sum : PySem.W.nsIn K mainGlobals "sum" = some none)
    (z_abs : PySem.W.nsIn K mainGlobals "abs" = some none)
    (z_max : PySem.W.nsIn K mainGlobals "max" = some none)
    (z_min : PySem.W.nsIn K mainGlobals "min" = some none)
    (pgC : PySem.W.plainGet K C Str.empty = true) (hdC : PySem.W.hasDictIn K C = true) (poC : PySem.W.plainOver K C = true) (saC : PySem.W.findIn K (.ref C) "__setattr__" = some (some (.builtin "object.__setattr__"))) (mkC : PySem.W.makesIn K C = true) (kcC : PySem.W.keepIn K (.ref C) = true)
    (n_many : PySem.W.findIn K (.ref C) "many" = some none)
    (n_size : PySem.W.findIn K (.ref C) "size" = some none)
    (n_rows : PySem.W.findIn K (.ref C) "rows" = some none)
    (n_base : PySem.W.findIn K (.ref C) "base" = some none)
    (n_goals : PySem.W.findIn K (.ref C) "goals" = some none)
    (n_scale : PySem.W.findIn K (.ref C) "scale" = some none)
    : ∃ fd : FuncData, (∀ (s : Shared) (v : Value), BindsTo s fd ⟨[v], []⟩ [("_law_script", v)]) ∧ ∀ base : Heap, K.In base → base.Ns mainGlobals mg → FnOk l.prog w K mg base CX0 8 fa fd ["_law_script"] (sp_law K) := by
  have e := hfa.symm.trans (PySem.W.mg_of X G a_law)
  cases e
  have F_is_int := fun_mk (st := s_is_int) l_is_int c_is_int k_is_int
  have B_is_int := F_is_int.binds (ps := ["value"]) fun _ _ _ _ _ _ us hl => match us, hl with | [_], _ => rfl
  have F_is_in := fun_mk (st := s_is_in) l_is_in c_is_in k_is_in
  have B_is_in := F_is_in.binds (ps := ["value", "least", "most"]) fun _ _ _ _ _ _ us hl => match us, hl with | [_, _, _], _ => rfl
  have F_is_row := fun_mk (st := s_is_row) l_is_row c_is_row k_is_row
  have B_is_row := F_is_row.binds (ps := ["size", "arity", "value"]) fun _ _ _ _ _ _ us hl => match us, hl with | [_, _, _], _ => rfl
  have F_all_rows := fun_mk (st := s_all_rows) l_all_rows c_all_rows k_all_rows
  have B_all_rows := F_all_rows.binds (ps := ["size", "arity"]) fun _ _ _ _ _ _ us hl => match us, hl with | [_, _], _ => rfl
  have F_power_of := fun_mk (st := s_power_of) l_power_of c_power_of k_power_of
  have B_power_of := F_power_of.binds (ps := ["size", "exponent"]) fun _ _ _ _ _ _ us hl => match us, hl with | [_, _], _ => rfl
  have F_place_of := fun_mk (st := s_place_of) l_place_of c_place_of k_place_of
  have B_place_of := F_place_of.binds (ps := ["size", "arguments"]) fun _ _ _ _ _ _ us hl => match us, hl with | [_, _], _ => rfl
  have F_tb_init := fun_mk (st := s_tb_init) l_tb_init c_tb_init k_tb_init
  have B_tb_init := F_tb_init.binds (ps := ["self", "rows", "dues", "costs"]) fun _ _ _ _ _ _ us hl => match us, hl with | [_, _, _, _], _ => rfl
  have F_tb_pivot := fun_mk (st := s_tb_pivot) l_tb_pivot c_tb_pivot k_tb_pivot
  have B_tb_pivot := F_tb_pivot.binds (ps := ["self", "at", "column"]) fun _ _ _ _ _ _ us hl => match us, hl with | [_, _, _], _ => rfl
  have F_tb_entering := fun_mk (st := s_tb_entering) l_tb_entering c_tb_entering k_tb_entering
  have B_tb_entering := F_tb_entering.binds (ps := ["self", "goal"]) fun _ _ _ _ _ _ us hl => match us, hl with | [_, _], _ => rfl
  have F_tb_leaving := fun_mk (st := s_tb_leaving) l_tb_leaving c_tb_leaving k_tb_leaving
  have B_tb_leaving := F_tb_leaving.binds (ps := ["self", "column"]) fun _ _ _ _ _ _ us hl => match us, hl with | [_, _], _ => rfl
  have F_tb_run := fun_mk (st := s_tb_run) l_tb_run c_tb_run k_tb_run
  have B_tb_run := F_tb_run.binds (ps := ["self", "goal"]) fun _ _ _ _ _ _ us hl => match us, hl with | [_, _], _ => rfl
  have F_tb_drive_out := fun_mk (st := s_tb_drive_out) l_tb_drive_out c_tb_drive_out k_tb_drive_out
  have B_tb_drive_out := F_tb_drive_out.binds (ps := ["self"]) fun _ _ _ _ _ _ us hl => match us, hl with | [_], _ => rfl
  have F_tb_shares := fun_mk (st := s_tb_shares) l_tb_shares c_tb_shares k_tb_shares
  have B_tb_shares := F_tb_shares.binds (ps := ["self"]) fun _ _ _ _ _ _ us hl => match us, hl with | [_], _ => rfl
  have F_tb_prices := fun_mk (st := s_tb_prices) l_tb_prices c_tb_prices k_tb_prices
  have B_tb_prices := F_tb_prices.binds (ps := ["self"]) fun _ _ _ _ _ _ us hl => match us, hl with | [_], _ => rfl
  have F_lowered := fun_mk (st := s_lowered) l_lowered c_lowered k_lowered
  have B_lowered := F_lowered.binds (ps := ["row", "head", "column", "center", "old"]) fun _ _ _ _ _ _ us hl => match us, hl with | [_, _, _, _, _], _ => rfl
  have F_least_sum := fun_mk (st := s_least_sum) l_least_sum c_least_sum k_least_sum
  have B_least_sum := F_least_sum.binds (ps := ["rows", "dues", "costs"]) fun _ _ _ _ _ _ us hl => match us, hl with | [_, _, _], _ => rfl
  have F_is_function := fun_mk (st := s_is_function) l_is_function c_is_function k_is_function
  have B_is_function := F_is_function.binds (ps := ["size", "value"]) fun _ _ _ _ _ _ us hl => match us, hl with | [_, _], _ => rfl
  have F_need_costs := fun_mk (st := s_need_costs) l_need_costs c_need_costs k_need_costs
  have B_need_costs := F_need_costs.binds (ps := ["value"]) fun _ _ _ _ _ _ us hl => match us, hl with | [_], _ => rfl
  have F_is_term := fun_mk (st := s_is_term) l_is_term c_is_term k_is_term
  have B_is_term := F_is_term.binds (ps := ["costs", "many", "value"]) fun _ _ _ _ _ _ us hl => match us, hl with | [_, _, _], _ => rfl
  have F_need_terms := fun_mk (st := s_need_terms) l_need_terms c_need_terms k_need_terms
  have B_need_terms := F_need_terms.binds (ps := ["costs", "value"]) fun _ _ _ _ _ _ us hl => match us, hl with | [_, _], _ => rfl
  have F_need_sum := fun_mk (st := s_need_sum) l_need_sum c_need_sum k_need_sum
  have B_need_sum := F_need_sum.binds (ps := ["costs", "instance"]) fun _ _ _ _ _ _ us hl => match us, hl with | [_, _], _ => rfl
  have F_cost_of := fun_mk (st := s_cost_of) l_cost_of c_cost_of k_cost_of
  have B_cost_of := F_cost_of.binds (ps := ["costs", "term", "row"]) fun _ _ _ _ _ _ us hl => match us, hl with | [_, _, _], _ => rfl
  have F_relaxation := fun_mk (st := s_relaxation) l_relaxation c_relaxation k_relaxation
  have B_relaxation := F_relaxation.binds (ps := ["costs", "instance"]) fun _ _ _ _ _ _ us hl => match us, hl with | [_, _], _ => rfl
  have F_ratio_of := fun_mk (st := s_ratio_of) l_ratio_of c_ratio_of k_ratio_of
  have B_ratio_of := F_ratio_of.binds (ps := ["numerator", "denominator"]) fun _ _ _ _ _ _ us hl => match us, hl with | [_, _], _ => rfl
  have F_relaxed := fun_mk (st := s_relaxed) l_relaxed c_relaxed k_relaxed
  have B_relaxed := F_relaxed.binds (ps := ["costs", "instance"]) fun _ _ _ _ _ _ us hl => match us, hl with | [_, _], _ => rfl
  have F_law_taken := fun_mk (st := s_law_taken) l_law_taken c_law_taken k_law_taken
  have B_law_taken := F_law_taken.binds (ps := ["_law_row", "_law_many"]) fun _ _ _ _ _ _ us hl => match us, hl with | [_, _], _ => rfl
  have F_law_pick := fun_mk (st := s_law_pick) l_law_pick c_law_pick k_law_pick
  have B_law_pick := F_law_pick.binds (ps := ["_law_row", "_law_things"]) fun _ _ _ _ _ _ us hl => match us, hl with | [_, _], _ => rfl
  have F_law_whole := fun_mk (st := s_law_whole) l_law_whole c_law_whole k_law_whole
  have B_law_whole := F_law_whole.binds (ps := ["_law_value", "_law_least_here", "_law_most"]) fun _ _ _ _ _ _ us hl => match us, hl with | [_, _, _], _ => rfl
  have F_law_rows := fun_mk (st := s_law_rows) l_law_rows c_law_rows k_law_rows
  have B_law_rows := F_law_rows.binds (ps := ["_law_size", "_law_arity"]) fun _ _ _ _ _ _ us hl => match us, hl with | [_, _], _ => rfl
  have F_law_costs := fun_mk (st := s_law_costs) l_law_costs c_law_costs k_law_costs
  have B_law_costs := F_law_costs.binds (ps := ["_law_row", "_law_size", "_law_many", "_law_most"]) fun _ _ _ _ _ _ us hl => match us, hl with | [_, _, _, _], _ => rfl
  have F_law_terms := fun_mk (st := s_law_terms) l_law_terms c_law_terms k_law_terms
  have B_law_terms := F_law_terms.binds (ps := ["_law_row", "_law_costs_here", "_law_variables", "_law_most", "_law_weight"]) fun _ _ _ _ _ _ us hl => match us, hl with | [_, _, _, _, _], _ => rfl
  have F_law_total := fun_mk (st := s_law_total) l_law_total c_law_total k_law_total
  have B_law_total := F_law_total.binds (ps := ["_law_costs_here", "_law_instance", "_law_values"]) fun _ _ _ _ _ _ us hl => match us, hl with | [_, _, _], _ => rfl
  have F_law_least := fun_mk (st := s_law_least) l_law_least c_law_least k_law_least
  have B_law_least := F_law_least.binds (ps := ["_law_costs_here", "_law_instance"]) fun _ _ _ _ _ _ us hl => match us, hl with | [_, _], _ => rfl
  have F_law_ratio := fun_mk (st := s_law_ratio) l_law_ratio c_law_ratio k_law_ratio
  have B_law_ratio := F_law_ratio.binds (ps := ["_law_value"]) fun _ _ _ _ _ _ us hl => match us, hl with | [_], _ => rfl
  have F_law_added := fun_mk (st := s_law_added) l_law_added c_law_added k_law_added
  have B_law_added := F_law_added.binds (ps := ["_law_some"]) fun _ _ _ _ _ _ us hl => match us, hl with | [_], _ => rfl
  have F_law_same := fun_mk (st := s_law_same) l_law_same c_law_same k_law_same
  have B_law_same := F_law_same.binds (ps := ["_law_one", "_law_other"]) fun _ _ _ _ _ _ us hl => match us, hl with | [_, _], _ => rfl
  have F_law_below := fun_mk (st := s_law_below) l_law_below c_law_below k_law_below
  have B_law_below := F_law_below.binds (ps := ["_law_one", "_law_other"]) fun _ _ _ _ _ _ us hl => match us, hl with | [_, _], _ => rfl
  have F_law_bounded := fun_mk (st := s_law_bounded) l_law_bounded c_law_bounded k_law_bounded
  have B_law_bounded := F_law_bounded.binds (ps := ["_law_costs_here", "_law_instance", "_law_tops", "_law_prices"]) fun _ _ _ _ _ _ us hl => match us, hl with | [_, _, _, _], _ => rfl
  have F_law_cheapest := fun_mk (st := s_law_cheapest) l_law_cheapest c_law_cheapest k_law_cheapest
  have B_law_cheapest := F_law_cheapest.binds (ps := ["_law_table", "_law_given", "_law_weight"]) fun _ _ _ _ _ _ us hl => match us, hl with | [_, _, _], _ => rfl
  have F_law := fun_mk (st := s_law) l_law c_law k_law
  have B_law := F_law.binds (ps := ["_law_script"]) fun _ _ _ _ _ _ us hl => match us, hl with | [_], _ => rfl
  have T : ∃ T : Txt K mg, T.a_law = fa ∧ T.d_law = PySem.W.fnOf "law" "law" (defArgs s_law) (defBody s_law) (defScope s_law) .none kV_law dc_law pm_law an_law cd_law ct_law := by
    refine ⟨{
      a_is_int := f_is_int
      d_is_int := _
      F_is_int := F_is_int
      b_is_int := B_is_int
      g_is_int := PySem.W.mg_of X G a_is_int
      a_is_in := f_is_in
      d_is_in := _
      F_is_in := F_is_in
      b_is_in := B_is_in
      g_is_in := PySem.W.mg_of X G a_is_in
      a_is_row := f_is_row
      d_is_row := _
      F_is_row := F_is_row
      b_is_row := B_is_row
      g_is_row := PySem.W.mg_of X G a_is_row
      a_all_rows := f_all_rows
      d_all_rows := _
      F_all_rows := F_all_rows
      b_all_rows := B_all_rows
      g_all_rows := PySem.W.mg_of X G a_all_rows
      a_power_of := f_power_of
      d_power_of := _
      F_power_of := F_power_of
      b_power_of := B_power_of
      g_power_of := PySem.W.mg_of X G a_power_of
      a_place_of := f_place_of
      d_place_of := _
      F_place_of := F_place_of
      b_place_of := B_place_of
      g_place_of := PySem.W.mg_of X G a_place_of
      a_tb_init := f_tb_init
      d_tb_init := _
      F_tb_init := F_tb_init
      b_tb_init := B_tb_init
      a_tb_pivot := f_tb_pivot
      d_tb_pivot := _
      F_tb_pivot := F_tb_pivot
      b_tb_pivot := B_tb_pivot
      a_tb_entering := f_tb_entering
      d_tb_entering := _
      F_tb_entering := F_tb_entering
      b_tb_entering := B_tb_entering
      a_tb_leaving := f_tb_leaving
      d_tb_leaving := _
      F_tb_leaving := F_tb_leaving
      b_tb_leaving := B_tb_leaving
      a_tb_run := f_tb_run
      d_tb_run := _
      F_tb_run := F_tb_run
      b_tb_run := B_tb_run
      a_tb_drive_out := f_tb_drive_out
      d_tb_drive_out := _
      F_tb_drive_out := F_tb_drive_out
      b_tb_drive_out := B_tb_drive_out
      a_tb_shares := f_tb_shares
      d_tb_shares := _
      F_tb_shares := F_tb_shares
      b_tb_shares := B_tb_shares
      a_tb_prices := f_tb_prices
      d_tb_prices := _
      F_tb_prices := F_tb_prices
      b_tb_prices := B_tb_prices
      a_lowered := f_lowered
      d_lowered := _
      F_lowered := F_lowered
      b_lowered := B_lowered
      g_lowered := PySem.W.mg_of X G a_lowered
      a_least_sum := f_least_sum
      d_least_sum := _
      F_least_sum := F_least_sum
      b_least_sum := B_least_sum
      g_least_sum := PySem.W.mg_of X G a_least_sum
      a_is_function := f_is_function
      d_is_function := _
      F_is_function := F_is_function
      b_is_function := B_is_function
      g_is_function := PySem.W.mg_of X G a_is_function
      a_need_costs := f_need_costs
      d_need_costs := _
      F_need_costs := F_need_costs
      b_need_costs := B_need_costs
      g_need_costs := PySem.W.mg_of X G a_need_costs
      a_is_term := f_is_term
      d_is_term := _
      F_is_term := F_is_term
      b_is_term := B_is_term
      g_is_term := PySem.W.mg_of X G a_is_term
      a_need_terms := f_need_terms
      d_need_terms := _
      F_need_terms := F_need_terms
      b_need_terms := B_need_terms
      g_need_terms := PySem.W.mg_of X G a_need_terms
      a_need_sum := f_need_sum
      d_need_sum := _
      F_need_sum := F_need_sum
      b_need_sum := B_need_sum
      g_need_sum := PySem.W.mg_of X G a_need_sum
      a_cost_of := f_cost_of
      d_cost_of := _
      F_cost_of := F_cost_of
      b_cost_of := B_cost_of
      g_cost_of := PySem.W.mg_of X G a_cost_of
      a_relaxation := f_relaxation
      d_relaxation := _
      F_relaxation := F_relaxation
      b_relaxation := B_relaxation
      g_relaxation := PySem.W.mg_of X G a_relaxation
      a_ratio_of := f_ratio_of
      d_ratio_of := _
      F_ratio_of := F_ratio_of
      b_ratio_of := B_ratio_of
      g_ratio_of := PySem.W.mg_of X G a_ratio_of
      a_relaxed := f_relaxed
      d_relaxed := _
      F_relaxed := F_relaxed
      b_relaxed := B_relaxed
      g_relaxed := PySem.W.mg_of X G a_relaxed
      a_law_taken := f_law_taken
      d_law_taken := _
      F_law_taken := F_law_taken
      b_law_taken := B_law_taken
      g_law_taken := PySem.W.mg_of X G a_law_taken
      a_law_pick := f_law_pick
      d_law_pick := _
      F_law_pick := F_law_pick
      b_law_pick := B_law_pick
      g_law_pick := PySem.W.mg_of X G a_law_pick
      a_law_whole := f_law_whole
      d_law_whole := _
      F_law_whole := F_law_whole
      b_law_whole := B_law_whole
      g_law_whole := PySem.W.mg_of X G a_law_whole
      a_law_rows := f_law_rows
      d_law_rows := _
      F_law_rows := F_law_rows
      b_law_rows := B_law_rows
      g_law_rows := PySem.W.mg_of X G a_law_rows
      a_law_costs := f_law_costs
      d_law_costs := _
      F_law_costs := F_law_costs
      b_law_costs := B_law_costs
      g_law_costs := PySem.W.mg_of X G a_law_costs
      a_law_terms := f_law_terms
      d_law_terms := _
      F_law_terms := F_law_terms
      b_law_terms := B_law_terms
      g_law_terms := PySem.W.mg_of X G a_law_terms
      a_law_total := f_law_total
      d_law_total := _
      F_law_total := F_law_total
      b_law_total := B_law_total
      g_law_total := PySem.W.mg_of X G a_law_total
      a_law_least := f_law_least
      d_law_least := _
      F_law_least := F_law_least
      b_law_least := B_law_least
      g_law_least := PySem.W.mg_of X G a_law_least
      a_law_ratio := f_law_ratio
      d_law_ratio := _
      F_law_ratio := F_law_ratio
      b_law_ratio := B_law_ratio
      g_law_ratio := PySem.W.mg_of X G a_law_ratio
      a_law_added := f_law_added
      d_law_added := _
      F_law_added := F_law_added
      b_law_added := B_law_added
      g_law_added := PySem.W.mg_of X G a_law_added
      a_law_same := f_law_same
      d_law_same := _
      F_law_same := F_law_same
      b_law_same := B_law_same
      g_law_same := PySem.W.mg_of X G a_law_same
      a_law_below := f_law_below
      d_law_below := _
      F_law_below := F_law_below
      b_law_below := B_law_below
      g_law_below := PySem.W.mg_of X G a_law_below
      a_law_bounded := f_law_bounded
      d_law_bounded := _
      F_law_bounded := F_law_bounded
      b_law_bounded := B_law_bounded
      g_law_bounded := PySem.W.mg_of X G a_law_bounded
      a_law_cheapest := f_law_cheapest
      d_law_cheapest := _
      F_law_cheapest := F_law_cheapest
      b_law_cheapest := B_law_cheapest
      g_law_cheapest := PySem.W.mg_of X G a_law_cheapest
      a_law := fa
      d_law := _
      F_law := F_law
      b_law := B_law
      g_law := PySem.W.mg_of X G a_law
      t_MOST_COST := t_MOST_COST
      c_MOST_COST := PySem.W.mg_of X G v_MOST_COST
      t_MOST_FUNCTIONS := t_MOST_FUNCTIONS
      c_MOST_FUNCTIONS := PySem.W.mg_of X G v_MOST_FUNCTIONS
      t_MOST_COST_SIZE := t_MOST_COST_SIZE
      c_MOST_COST_SIZE := PySem.W.mg_of X G v_MOST_COST_SIZE
      t_MOST_COST_ARITY := t_MOST_COST_ARITY
      c_MOST_COST_ARITY := PySem.W.mg_of X G v_MOST_COST_ARITY
      t_MOST_NAMES := t_MOST_NAMES
      c_MOST_NAMES := PySem.W.mg_of X G v_MOST_NAMES
      t_MOST_TERMS := t_MOST_TERMS
      c_MOST_TERMS := PySem.W.mg_of X G v_MOST_TERMS
      z_isinstance := PySem.W.mg_none_of X G z_isinstance
      z_int := PySem.W.mg_none_of X G z_int
      z_bool := PySem.W.mg_none_of X G z_bool
      z_tuple := PySem.W.mg_none_of X G z_tuple
      z_len := PySem.W.mg_none_of X G z_len
      z_all := PySem.W.mg_none_of X G z_all
      z_range := PySem.W.mg_none_of X G z_range
      z_enumerate := PySem.W.mg_none_of X G z_enumerate
      z_zip := PySem.W.mg_none_of X G z_zip
      z_list := PySem.W.mg_none_of X G z_list
      z_sum := PySem.W.mg_none_of X G z_sum
      z_abs := PySem.W.mg_none_of X G z_abs
      z_max := PySem.W.mg_none_of X G z_max
      z_min := PySem.W.mg_none_of X G z_min
      C := C
      cl := ⟨pgC, hdC, poC, saC⟩
      mgC := PySem.W.mg_of X G aC
      mkC := ⟨mkC, a_tb_init, i_tb_init, kcC⟩
      n_many := n_many
      n_size := n_size
      n_rows := n_rows
      n_base := n_base
      n_goals := n_goals
      n_scale := n_scale
      m_tb_pivot := ⟨a_tb_pivot, i_tb_pivot, k_tb_pivot⟩
      m_tb_entering := ⟨a_tb_entering, i_tb_entering, k_tb_entering⟩
      m_tb_leaving := ⟨a_tb_leaving, i_tb_leaving, k_tb_leaving⟩
      m_tb_run := ⟨a_tb_run, i_tb_run, k_tb_run⟩
      m_tb_drive_out := ⟨a_tb_drive_out, i_tb_drive_out, k_tb_drive_out⟩
      m_tb_shares := ⟨a_tb_shares, i_tb_shares, k_tb_shares⟩
      m_tb_prices := ⟨a_tb_prices, i_tb_prices, k_tb_prices⟩
    }, rfl, rfl⟩
  obtain ⟨T, ea, ed⟩ := T
  refine ⟨PySem.W.fnOf "law" "law" (defArgs s_law) (defBody s_law) (defScope s_law) .none kV_law dc_law pm_law an_law cd_law ct_law, fun s v => .of_eq rfl, fun base _ _ => ?_⟩
  have h := ok_law (P := l.prog) (w := w) (base := base) T
  rw [ea, ed] at h
  exact h

end KV
open PySem PySem.W PyProof.Rows
set_option maxRecDepth 100000 in
set_option maxHeartbeats 0 in
theorem PySem.Challenge.cw_templates_k83_whole_relaxed_costs_holds : PySem.Challenge.rw_templates_k83_whole_relaxed_costs.Holds := by
  w_on; o_law; k_head; (case hw => w_witness2)
  k_fill
  refine L2.walk_of (l := PySem.Challenge.rw_templates_k83_whole_relaxed_costs) (n := 63) (k := 8) (x := "_law_script") (CX := fun _ => L2.CX0) (sp := fun w => KV.sp_law _) rfl (by decide) rfl ⟨rfl, by decide, by decide⟩ (fun w h Y => PySem.W.kIn_of Y) ?F (fun _ _ a ns _ _ hS => ⟨a, ns, rfl, hS, fun _ => rfl⟩) (fun _ _ _ _ _ h => h)
  case F =>
    intro w mg fa h KX G hmg
    refine' KV.all_mk KX G hmg ?aC ?a_is_int ?l_is_int ?c_is_int ?k_is_int ?a_is_in ?l_is_in ?c_is_in ?k_is_in ?a_is_row ?l_is_row ?c_is_row ?k_is_row ?a_all_rows ?l_all_rows ?c_all_rows ?k_all_rows ?a_power_of ?l_power_of ?c_power_of ?k_power_of ?a_place_of ?l_place_of ?c_place_of ?k_place_of ?a_tb_init ?i_tb_init ?l_tb_init ?c_tb_init ?k_tb_init ?a_tb_pivot ?i_tb_pivot ?l_tb_pivot ?c_tb_pivot ?k_tb_pivot ?a_tb_entering ?i_tb_entering ?l_tb_entering ?c_tb_entering ?k_tb_entering ?a_tb_leaving ?i_tb_leaving ?l_tb_leaving ?c_tb_leaving ?k_tb_leaving ?a_tb_run ?i_tb_run ?l_tb_run ?c_tb_run ?k_tb_run ?a_tb_drive_out ?i_tb_drive_out ?l_tb_drive_out ?c_tb_drive_out ?k_tb_drive_out ?a_tb_shares ?i_tb_shares ?l_tb_shares ?c_tb_shares ?k_tb_shares ?a_tb_prices ?i_tb_prices ?l_tb_prices ?c_tb_prices ?k_tb_prices ?a_lowered ?l_lowered ?c_lowered ?k_lowered ?a_least_sum ?l_least_sum ?c_least_sum ?k_least_sum ?a_is_function ?l_is_function ?c_is_function ?k_is_function ?a_need_costs ?l_need_costs ?c_need_costs ?k_need_costs ?a_is_term ?l_is_term ?c_is_term ?k_is_term ?a_need_terms ?l_need_terms ?c_need_terms ?k_need_terms ?a_need_sum ?l_need_sum ?c_need_sum ?k_need_sum ?a_cost_of ?l_cost_of ?c_cost_of ?k_cost_of ?a_relaxation ?l_relaxation ?c_relaxation ?k_relaxation ?a_ratio_of ?l_ratio_of ?c_ratio_of ?k_ratio_of ?a_relaxed ?l_relaxed ?c_relaxed ?k_relaxed ?a_law_taken ?l_law_taken ?c_law_taken ?k_law_taken ?a_law_pick ?l_law_pick ?c_law_pick ?k_law_pick ?a_law_whole ?l_law_whole ?c_law_whole ?k_law_whole ?a_law_rows ?l_law_rows ?c_law_rows ?k_law_rows ?a_law_costs ?l_law_costs ?c_law_costs ?k_law_costs ?a_law_terms ?l_law_terms ?c_law_terms ?k_law_terms ?a_law_total ?l_law_total ?c_law_total ?k_law_total ?a_law_least ?l_law_least ?c_law_least ?k_law_least ?a_law_ratio ?l_law_ratio ?c_law_ratio ?k_law_ratio ?a_law_added ?l_law_added ?c_law_added ?k_law_added ?a_law_same ?l_law_same ?c_law_same ?k_law_same ?a_law_below ?l_law_below ?c_law_below ?k_law_below ?a_law_bounded ?l_law_bounded ?c_law_bounded ?k_law_bounded ?a_law_cheapest ?l_law_cheapest ?c_law_cheapest ?k_law_cheapest ?a_law ?l_law ?c_law ?k_law ?v_MOST_COST ?v_MOST_FUNCTIONS ?v_MOST_COST_SIZE ?v_MOST_COST_ARITY ?v_MOST_NAMES ?v_MOST_TERMS ?z_isinstance ?z_int ?z_bool ?z_tuple ?z_len ?z_all ?z_range ?z_enumerate ?z_zip ?z_list ?z_sum ?z_abs ?z_max ?z_min ?pgC ?hdC ?poC ?saC ?mkC ?kcC ?n_many ?n_size ?n_rows ?n_base ?n_goals ?n_scale
    (case aC => k_is)
    (case a_is_int => k_is)
    (case l_is_int => k_is)
    (case c_is_int => k_is)
    (case k_is_int => k_is)
    (case a_is_in => k_is)
    (case l_is_in => k_is)
    (case c_is_in => k_is)
    (case k_is_in => k_is)
    (case a_is_row => k_is)
    (case l_is_row => k_is)
    (case c_is_row => k_is)
    (case k_is_row => k_is)
    (case a_all_rows => k_is)
    (case l_all_rows => k_is)
    (case c_all_rows => k_is)
    (case k_all_rows => k_is)
    (case a_power_of => k_is)
    (case l_power_of => k_is)
    (case c_power_of => k_is)
    (case k_power_of => k_is)
    (case a_place_of => k_is)
    (case l_place_of => k_is)
    (case c_place_of => k_is)
    (case k_place_of => k_is)
    (case a_tb_init => k_is)
    (case i_tb_init => k_is)
    (case l_tb_init => k_is)
    (case c_tb_init => k_is)
    (case k_tb_init => k_is)
    (case a_tb_pivot => k_is)
    (case i_tb_pivot => k_is)
    (case l_tb_pivot => k_is)
    (case c_tb_pivot => k_is)
    (case k_tb_pivot => k_is)
    (case a_tb_entering => k_is)
    (case i_tb_entering => k_is)
    (case l_tb_entering => k_is)
    (case c_tb_entering => k_is)
    (case k_tb_entering => k_is)
    (case a_tb_leaving => k_is)
    (case i_tb_leaving => k_is)
    (case l_tb_leaving => k_is)
    (case c_tb_leaving => k_is)
    (case k_tb_leaving => k_is)
    (case a_tb_run => k_is)
    (case i_tb_run => k_is)
    (case l_tb_run => k_is)
    (case c_tb_run => k_is)
    (case k_tb_run => k_is)
    (case a_tb_drive_out => k_is)
    (case i_tb_drive_out => k_is)
    (case l_tb_drive_out => k_is)
    (case c_tb_drive_out => k_is)
    (case k_tb_drive_out => k_is)
    (case a_tb_shares => k_is)
    (case i_tb_shares => k_is)
    (case l_tb_shares => k_is)
    (case c_tb_shares => k_is)
    (case k_tb_shares => k_is)
    (case a_tb_prices => k_is)
    (case i_tb_prices => k_is)
    (case l_tb_prices => k_is)
    (case c_tb_prices => k_is)
    (case k_tb_prices => k_is)
    (case a_lowered => k_is)
    (case l_lowered => k_is)
    (case c_lowered => k_is)
    (case k_lowered => k_is)
    (case a_least_sum => k_is)
    (case l_least_sum => k_is)
    (case c_least_sum => k_is)
    (case k_least_sum => k_is)
    (case a_is_function => k_is)
    (case l_is_function => k_is)
    (case c_is_function => k_is)
    (case k_is_function => k_is)
    (case a_need_costs => k_is)
    (case l_need_costs => k_is)
    (case c_need_costs => k_is)
    (case k_need_costs => k_is)
    (case a_is_term => k_is)
    (case l_is_term => k_is)
    (case c_is_term => k_is)
    (case k_is_term => k_is)
    (case a_need_terms => k_is)
    (case l_need_terms => k_is)
    (case c_need_terms => k_is)
    (case k_need_terms => k_is)
    (case a_need_sum => k_is)
    (case l_need_sum => k_is)
    (case c_need_sum => k_is)
    (case k_need_sum => k_is)
    (case a_cost_of => k_is)
    (case l_cost_of => k_is)
    (case c_cost_of => k_is)
    (case k_cost_of => k_is)
    (case a_relaxation => k_is)
    (case l_relaxation => k_is)
    (case c_relaxation => k_is)
    (case k_relaxation => k_is)
    (case a_ratio_of => k_is)
    (case l_ratio_of => k_is)
    (case c_ratio_of => k_is)
    (case k_ratio_of => k_is)
    (case a_relaxed => k_is)
    (case l_relaxed => k_is)
    (case c_relaxed => k_is)
    (case k_relaxed => k_is)
    (case a_law_taken => k_is)
    (case l_law_taken => k_is)
    (case c_law_taken => k_is)
    (case k_law_taken => k_is)
    (case a_law_pick => k_is)
    (case l_law_pick => k_is)
    (case c_law_pick => k_is)
    (case k_law_pick => k_is)
    (case a_law_whole => k_is)
    (case l_law_whole => k_is)
    (case c_law_whole => k_is)
    (case k_law_whole => k_is)
    (case a_law_rows => k_is)
    (case l_law_rows => k_is)
    (case c_law_rows => k_is)
    (case k_law_rows => k_is)
    (case a_law_costs => k_is)
    (case l_law_costs => k_is)
    (case c_law_costs => k_is)
    (case k_law_costs => k_is)
    (case a_law_terms => k_is)
    (case l_law_terms => k_is)
    (case c_law_terms => k_is)
    (case k_law_terms => k_is)
    (case a_law_total => k_is)
    (case l_law_total => k_is)
    (case c_law_total => k_is)
    (case k_law_total => k_is)
    (case a_law_least => k_is)
    (case l_law_least => k_is)
    (case c_law_least => k_is)
    (case k_law_least => k_is)
    (case a_law_ratio => k_is)
    (case l_law_ratio => k_is)
    (case c_law_ratio => k_is)
    (case k_law_ratio => k_is)
    (case a_law_added => k_is)
    (case l_law_added => k_is)
    (case c_law_added => k_is)
    (case k_law_added => k_is)
    (case a_law_same => k_is)
    (case l_law_same => k_is)
    (case c_law_same => k_is)
    (case k_law_same => k_is)
    (case a_law_below => k_is)
    (case l_law_below => k_is)
    (case c_law_below => k_is)
    (case k_law_below => k_is)
    (case a_law_bounded => k_is)
    (case l_law_bounded => k_is)
    (case c_law_bounded => k_is)
    (case k_law_bounded => k_is)
    (case a_law_cheapest => k_is)
    (case l_law_cheapest => k_is)
    (case c_law_cheapest => k_is)
    (case k_law_cheapest => k_is)
    (case a_law => k_is)
    (case l_law => k_is)
    (case c_law => k_is)
    (case k_law => k_is)
    (case v_MOST_COST => k_is)
    (case v_MOST_FUNCTIONS => k_is)
    (case v_MOST_COST_SIZE => k_is)
    (case v_MOST_COST_ARITY => k_is)
    (case v_MOST_NAMES => k_is)
    (case v_MOST_TERMS => k_is)
    (case z_isinstance => k_is)
    (case z_int => k_is)
    (case z_bool => k_is)
    (case z_tuple => k_is)
    (case z_len => k_is)
    (case z_all => k_is)
    (case z_range => k_is)
    (case z_enumerate => k_is)
    (case z_zip => k_is)
    (case z_list => k_is)
    (case z_sum => k_is)
    (case z_abs => k_is)
    (case z_max => k_is)
    (case z_min => k_is)
    (case pgC => k_is)
    (case hdC => k_is)
    (case poC => k_is)
    (case saC => k_is)
    (case mkC => k_is)
    (case kcC => k_is)
    (case n_many => k_is)
    (case n_size => k_is)
    (case n_rows => k_is)
    (case n_base => k_is)
    (case n_goals => k_is)
    (case n_scale => k_is)
