import PyProof.Rows.All
import Wide.All
import OpenK.AllK
import Wide.FinOn
import HandS.ForMost
import HandS.ForExc
import HandS.Wide
import HandS.Gcd
import HandS.Zip
import HandS.Flow
import HandS.Star
import HandS.DictComp
import HandS.Strs
import HandS.IsInst
import HandS.ExcIs
import HandS.AnyAll
import HandS.EndTab
import PySem.Challenge.RW_damworks_k36_whole_leaking_worths
import KE.GoesEnum
import HandS.Walk
import HandS.Style
import HandS.Small
import HandS.Exc
import HandS.ExcOwn
import HandS.SetFor
import HandS.Lambda
import HandS.Head0
import HandS.Head1
import HandS.Head2
import HandS.Head3
import HandS.HeadHook4
import HandS.HeadWalk
import HandS.HeadNt
namespace Dw
/-- the sum of f 0 .. f (n - 1) -/
def S : Nat → (Nat → Rat) → Rat
  | 0, _ => 0
  | n + 1, f => S n f + f n
theorem S_zero {f : Nat → Rat} : S 0 f = 0 := rfl
theorem S_succ {n : Nat} {f : Nat → Rat} : S (n + 1) f = S n f + f n := rfl
theorem S_congr {n : Nat} {f g : Nat → Rat} (h : ∀ i, i < n → f i = g i) : S n f = S n g := by
  induction n with
  | zero => rfl
  | succ n ih => rw [S_succ, S_succ, ih fun i hi => h i (by omega), h n (by omega)]
theorem S_add {n : Nat} {f g : Nat → Rat} : S n (fun i => f i + g i) = S n f + S n g := by
  induction n with
  | zero => simp only [S_zero]; grind
  | succ n ih => simp only [S_succ, ih]; grind
theorem S_sub {n : Nat} {f g : Nat → Rat} : S n (fun i => f i - g i) = S n f - S n g := by
  induction n with
  | zero => simp only [S_zero]; grind
  | succ n ih => simp only [S_succ, ih]; grind
theorem S_neg {n : Nat} {f : Nat → Rat} : S n (fun i => - f i) = - S n f := by
  induction n with
  | zero => simp only [S_zero]; grind
  | succ n ih => simp only [S_succ, ih]; grind
theorem S_mul {n : Nat} {a : Rat} {f : Nat → Rat} : S n (fun i => a * f i) = a * S n f := by
  induction n with
  | zero => simp only [S_zero]; grind
  | succ n ih => simp only [S_succ, ih]; grind
theorem S_mulr {n : Nat} {a : Rat} {f : Nat → Rat} : S n (fun i => f i * a) = S n f * a := by
  induction n with
  | zero => simp only [S_zero]; grind
  | succ n ih => simp only [S_succ, ih]; grind
theorem S_z {n : Nat} {f : Nat → Rat} (h : ∀ i, i < n → f i = 0) : S n f = 0 := by
  induction n with
  | zero => rfl
  | succ n ih => rw [S_succ, ih fun i hi => h i (by omega), h n (by omega)]; grind
theorem S_comm {n m : Nat} {f : Nat → Nat → Rat} : S n (fun i => S m (fun j => f i j)) = S m (fun j => S n (fun i => f i j)) := by
  induction n with
  | zero => simp only [S_zero]; exact (S_z fun _ _ => rfl).symm
  | succ n ih => simp only [S_succ, ih, S_add]
theorem S_one {n j : Nat} {f : Nat → Rat} (hj : j < n) (h : ∀ i, i < n → i ≠ j → f i = 0) : S n f = f j := by
  induction n with
  | zero => omega
  | succ n ih =>
    rw [S_succ]
    by_cases e : j = n
    · subst e
      rw [S_z fun i hi => h i (by omega) (by omega)]; grind
    · rw [ih (by omega) fun i hi he => h i (by omega) he, h n (by omega) (by omega)]; grind
/-- one term taken out -/
theorem S_out {n j : Nat} {f : Nat → Rat} (hj : j < n) : S n f = f j + S n (fun i => if i = j then 0 else f i) := by
  have h : S n f = S n (fun i => (if i = j then f j else 0) + (if i = j then 0 else f i)) := S_congr fun i _ => by
    by_cases e : i = j
    · subst e; simp only [if_true]; grind
    · simp only [e, if_false]; grind
  rw [h, S_add, S_one (j := j) hj (fun i _ he => by simp only [he, if_false])]
  simp
theorem S_nonneg {n : Nat} {f : Nat → Rat} (h : ∀ i, i < n → 0 ≤ f i) : 0 ≤ S n f := by
  induction n with
  | zero => simp only [S_zero]; grind
  | succ n ih => rw [S_succ]; have := ih fun i hi => h i (by omega); have := h n (by omega); grind
theorem S_le {n : Nat} {f g : Nat → Rat} (h : ∀ i, i < n → f i ≤ g i) : S n f ≤ S n g := by
  induction n with
  | zero => simp only [S_zero]; grind
  | succ n ih => rw [S_succ, S_succ]; have := ih fun i hi => h i (by omega); have := h n (by omega); grind
theorem S_pos {n : Nat} {f : Nat → Rat} (h : 0 < S n f) : ∃ i, i < n ∧ 0 < f i := by
  refine Classical.byContradiction fun hn => ?_
  have : S n f ≤ S n (fun _ => 0) := S_le fun i hi => by
    have : ¬ 0 < f i := fun q => hn ⟨i, hi, q⟩
    grind
  rw [S_z (f := fun _ => (0 : Rat)) fun _ _ => rfl] at this
  grind
theorem S_nonneg_zero {n : Nat} {f : Nat → Rat} (h : ∀ i, i < n → 0 ≤ f i) (e : S n f = 0) : ∀ i, i < n → f i = 0 := by
  intro i hi
  have h1 := S_out (f := f) hi
  have h2 : 0 ≤ S n (fun k => if k = i then 0 else f k) := S_nonneg fun k hk => by
    by_cases q : k = i
    · simp only [q, if_true]; grind
    · simp only [q, if_false]; exact h k hk
  have h3 := h i hi
  grind
theorem S_append {n m : Nat} {f : Nat → Rat} : S (n + m) f = S n f + S m (fun i => f (n + i)) := by
  induction m with
  | zero => simp only [S_zero, Nat.add_zero]; grind
  | succ m ih => rw [← Nat.add_assoc, S_succ, S_succ, ih]; grind
/-- the pigeons -/
theorem pigeon : ∀ (N : Nat) (f : Nat → Nat), (∀ i, i ≤ N → f i < N) → ∃ i j, i < j ∧ j ≤ N ∧ f i = f j := by
  intro N
  induction N with
  | zero => intro f h; exact absurd (h 0 (by omega)) (by omega)
  | succ N ih =>
    intro f h
    refine Classical.byContradiction fun hn => ?_
    have inj : ∀ i j, i < j → j ≤ N + 1 → f i ≠ f j := fun i j h1 h2 e => hn ⟨i, j, h1, h2, e⟩
    -- the last pigeon's place is given to the one that sits at N
    obtain ⟨i, j, h1, h2, e⟩ := ih (fun i => if f i = N then f (N + 1) else f i) (fun i hi => by
      have hi1 := h i (by omega)
      have hl := h (N + 1) (by omega)
      by_cases q : f i = N
      · simp only [q, if_true]
        have := inj i (N + 1) (by omega) (by omega)
        omega
      · simp only [q, if_false]; omega)
    have a1 := inj i j h1 (by omega)
    have a2 := inj i (N + 1) (by omega) (by omega)
    have a3 := inj j (N + 1) (by omega) (by omega)
    by_cases q1 : f i = N <;> by_cases q2 : f j = N
    · omega
    · simp only [q1, q2, if_true, if_false] at e; exact a3 e.symm
    · simp only [q1, q2, if_true, if_false] at e; exact a2 e
    · simp only [q1, q2, if_false] at e; exact a1 e
/-- a list of numbers below W as one number -/
def code (W : Nat) : Nat → (Nat → Nat) → Nat
  | 0, _ => 0
  | k + 1, B => code W k B * W + B k
theorem code_lt {W : Nat} : ∀ (k : Nat) (B : Nat → Nat), (∀ i, i < k → B i < W) → code W k B < W ^ k
  | 0, _, _ => by simp [code]
  | k + 1, B, h => by
    have h1 := code_lt k B fun i hi => h i (by omega)
    have h2 := h k (by omega)
    rw [code, Nat.pow_succ]
    have h3 : (code W k B + 1) * W ≤ W ^ k * W := Nat.mul_le_mul_right W h1
    rw [Nat.add_mul] at h3
    omega
theorem code_inj {W : Nat} : ∀ (k : Nat) (B C : Nat → Nat), (∀ i, i < k → B i < W) → (∀ i, i < k → C i < W) → code W k B = code W k C → ∀ i, i < k → B i = C i
  | 0, _, _, _, _, _ => fun i hi => absurd hi (by omega)
  | k + 1, B, C, hB, hC, e => by
    have h1 := hB k (by omega)
    have h2 := hC k (by omega)
    rw [code, code] at e
    have e1 : B k = C k := by
      have := congrArg (· % W) e
      simp only [Nat.mul_add_mod_self_right, Nat.mod_eq_of_lt h1, Nat.mod_eq_of_lt h2] at this
      exact this
    have e2 : code W k B = code W k C := by
      have hW : 0 < W := by omega
      have : code W k B * W = code W k C * W := by omega
      exact Nat.eq_of_mul_eq_mul_right hW this
    intro i hi
    by_cases q : i = k
    · rw [q]; exact e1
    · exact code_inj k B C (fun i hi => hB i (by omega)) (fun i hi => hC i (by omega)) e2 i (by omega)
end Dw
namespace Dw
/-! ### determinants: columns c j, rows i; only adjacency is needed -/
def sk (j k : Nat) : Nat := if k < j then k else k + 1
def sg (j : Nat) : Rat := if j % 2 = 0 then 1 else -1
theorem sg_succ (j : Nat) : sg (j + 1) = - sg j := by
  unfold sg
  by_cases h : j % 2 = 0
  · rw [if_neg (by omega), if_pos h]
  · rw [if_pos (by omega), if_neg h]; grind
def det : Nat → (Nat → Nat → Rat) → Rat
  | 0, _ => 1
  | m + 1, c => S (m + 1) fun j => sg j * c j 0 * det m (fun k i => c (sk j k) (i + 1))
theorem det_congr : ∀ (m : Nat) {c d : Nat → Nat → Rat}, (∀ j, j < m → ∀ i, i < m → c j i = d j i) → det m c = det m d
  | 0, _, _, _ => rfl
  | m + 1, c, d, h => by
    unfold det
    refine S_congr fun j hj => ?_
    rw [h j hj 0 (by omega), det_congr m fun k hk i hi => h (sk j k) (by unfold sk; split <;> omega) (i + 1) (by omega)]
/-- the columns with column p in place of v -/
def rp (c : Nat → Nat → Rat) (p : Nat) (v : Nat → Rat) : Nat → Nat → Rat := fun j => if j = p then v else c j
theorem rp_same {c : Nat → Nat → Rat} {p : Nat} {v : Nat → Rat} : rp c p v p = v := by unfold rp; rw [if_pos rfl]
theorem rp_ne {c : Nat → Nat → Rat} {p j : Nat} {v : Nat → Rat} (h : j ≠ p) : rp c p v j = c j := by unfold rp; rw [if_neg h]
/-- the minor of a replaced column -/
theorem minor_rp_same {c : Nat → Nat → Rat} {p : Nat} {v : Nat → Rat} (m : Nat) : det m (fun k i => rp c p v (sk p k) (i + 1)) = det m (fun k i => c (sk p k) (i + 1)) :=
  det_congr m fun k _ i _ => by rw [rp_ne]; unfold sk; split <;> omega
def un (j p : Nat) : Nat := if p < j then p else p - 1
theorem minor_rp {c : Nat → Nat → Rat} {p j : Nat} {v : Nat → Rat} (m : Nat) (h : j ≠ p) : det m (fun k i => rp c p v (sk j k) (i + 1)) = det m (rp (fun k i => c (sk j k) (i + 1)) (un j p) fun i => v (i + 1)) := by
  refine det_congr m fun k _ i _ => ?_
  by_cases e : k = un j p
  · have e2 : sk j k = p := by rw [e]; unfold sk un; (repeat' split) <;> omega
    rw [e2, rp_same, e, rp_same]
  · have e2 : sk j k ≠ p := by
      intro z
      apply e
      rw [← z]; unfold sk un; (repeat' split) <;> omega
    rw [rp_ne e2, rp_ne e]
/-- linear in the column p -/
theorem det_lin : ∀ (m : Nat) (c : Nat → Nat → Rat) (p : Nat), p < m → ∀ (a b : Rat) (u v : Nat → Rat), det m (rp c p fun i => a * u i + b * v i) = a * det m (rp c p u) + b * det m (rp c p v)
  | 0, _, _, h, _, _, _, _ => by omega
  | m + 1, c, p, h, a, b, u, v => by
    unfold det
    rw [← S_mul, ← S_mul, ← S_add]
    refine S_congr fun j hj => ?_
    by_cases e : j = p
    · subst e
      rw [rp_same, rp_same, rp_same, minor_rp_same, minor_rp_same, minor_rp_same]
      grind
    · rw [rp_ne e, rp_ne e, rp_ne e, minor_rp m e, minor_rp m e, minor_rp m e, det_lin m _ (un j p) (by unfold un; split <;> omega) a b (fun i => u (i + 1)) fun i => v (i + 1)]
      grind
theorem det_add (m : Nat) (c : Nat → Nat → Rat) (p : Nat) (h : p < m) (u v : Nat → Rat) : det m (rp c p fun i => u i + v i) = det m (rp c p u) + det m (rp c p v) := by
  have := det_lin m c p h 1 1 u v
  have e : (fun i => (1 : Rat) * u i + 1 * v i) = fun i => u i + v i := by funext i; grind
  rw [e] at this
  rw [this]; grind
theorem det_smul (m : Nat) (c : Nat → Nat → Rat) (p : Nat) (h : p < m) (a : Rat) (u : Nat → Rat) : det m (rp c p fun i => a * u i) = a * det m (rp c p u) := by
  have := det_lin m c p h a 0 u u
  have e : (fun i => a * u i + 0 * u i) = fun i => a * u i := by funext i; grind
  rw [e] at this
  rw [this]; grind
theorem det_zero (m : Nat) (c : Nat → Nat → Rat) (p : Nat) (h : p < m) : det m (rp c p fun _ => 0) = 0 := by
  have := det_smul m c p h 0 (fun _ => 0)
  have e : (fun i : Nat => (0 : Rat) * (0 : Rat)) = fun _ => (0 : Rat) := by funext i; grind
  rw [e] at this
  rw [this]; grind
theorem det_S (m : Nat) (c : Nat → Nat → Rat) (p : Nat) (h : p < m) (n : Nat) (a : Nat → Rat) (u : Nat → Nat → Rat) :
    det m (rp c p fun i => S n fun k => a k * u k i) = S n fun k => a k * det m (rp c p (u k)) := by
  induction n with
  | zero => simp only [S_zero]; exact det_zero m c p h
  | succ n ih => simp only [S_succ]; rw [det_add m c p h, ih, det_smul m c p h]
/-- two equal columns side by side -/
theorem det_adj : ∀ (m : Nat) (c : Nat → Nat → Rat) (p : Nat), p + 1 < m → (∀ i, i < m → c p i = c (p + 1) i) → det m c = 0
  | 0, _, _, h, _ => by omega
  | m + 1, c, p, h, e => by
    have z : ∀ j, j < m + 1 → j ≠ p → j ≠ p + 1 → det m (fun k i => c (sk j k) (i + 1)) = 0 := fun j hj h1 h2 => by
      refine det_adj m _ (un j p) (by unfold un; split <;> omega) fun i hi => ?_
      have e1 : sk j (un j p) = p := by unfold sk un; (repeat' split) <;> omega
      have e2 : sk j (un j p + 1) = p + 1 := by unfold sk un; (repeat' split) <;> omega
      show c (sk j (un j p)) (i + 1) = c (sk j (un j p + 1)) (i + 1)
      rw [e1, e2]
      exact e (i + 1) (by omega)
    have y : det m (fun k i => c (sk p k) (i + 1)) = det m (fun k i => c (sk (p + 1) k) (i + 1)) := det_congr m fun k _ i hi => by
      by_cases q : k = p
      · have e1 : sk p k = p + 1 := by unfold sk; split <;> omega
        have e2 : sk (p + 1) k = p := by unfold sk; split <;> omega
        rw [e1, e2]; exact (e (i + 1) (by omega)).symm
      · have e1 : sk p k = sk (p + 1) k := by unfold sk; (repeat' split) <;> omega
        rw [e1]
    unfold det
    rw [S_out (j := p) (by omega), S_out (j := p + 1) (by omega), if_neg (by omega), S_z fun j hj => ?_]
    · rw [sg_succ, y, e 0 (by omega)]; grind
    · by_cases q1 : j = p + 1
      · rw [if_pos q1]
      · rw [if_neg q1]
        by_cases q2 : j = p
        · rw [if_pos q2]
        · rw [if_neg q2, z j hj q2 q1]; grind
theorem rp_rp {c : Nat → Nat → Rat} {p : Nat} {u v : Nat → Rat} : rp (rp c p u) p v = rp c p v := by
  funext j; unfold rp; split <;> rfl
theorem rp_comm {c : Nat → Nat → Rat} {p q : Nat} (h : p ≠ q) {u v : Nat → Rat} : rp (rp c p u) q v = rp (rp c q v) p u := by
  funext j; unfold rp
  by_cases h1 : j = q
  · rw [if_pos h1, if_neg (by omega), if_pos h1]
  · rw [if_neg h1]
    by_cases h2 : j = p
    · rw [if_pos h2, if_pos h2]
    · rw [if_neg h2, if_neg h2, if_neg h1]
theorem rp_id {c : Nat → Nat → Rat} {p : Nat} : rp c p (c p) = c := by
  funext j; unfold rp; split
  · rename_i h; rw [h]
  · rfl
/-- neighbours change places -/
theorem det_swap (m : Nat) (c : Nat → Nat → Rat) (p : Nat) (h : p + 1 < m) (u v : Nat → Rat) : det m (rp (rp c p u) (p + 1) v) = - det m (rp (rp c p v) (p + 1) u) := by
  have z : ∀ w, det m (rp (rp c p w) (p + 1) w) = 0 := fun w => det_adj m _ p h fun i _ => by rw [rp_ne (by omega), rp_same, rp_same]
  have h1 := z fun i => u i + v i
  have np : p ≠ p + 1 := by omega
  have h2 : ∀ w : Nat → Rat, det m (rp (rp c p fun i => u i + v i) (p + 1) w) = det m (rp (rp c p u) (p + 1) w) + det m (rp (rp c p v) (p + 1) w) := fun w => by
    rw [rp_comm np, det_add m _ p (by omega), rp_comm np.symm, rp_comm np.symm]
  rw [det_add m _ (p + 1) h, h2, h2, z u, z v] at h1
  grind
/-- two equal columns anywhere -/
theorem det_eq : ∀ (d m : Nat) (c : Nat → Nat → Rat) (p : Nat), p + d + 1 < m → (∀ i, i < m → c p i = c (p + d + 1) i) → det m c = 0
  | 0, m, c, p, h, e => det_adj m c p h e
  | d + 1, m, c, p, h, e => by
    have h1 := det_swap m c p (by omega) (c p) (c (p + 1))
    rw [rp_id, rp_id] at h1
    rw [h1]
    have h2 := det_eq d m (rp (rp c p (c (p + 1))) (p + 1) (c p)) (p + 1) (by omega) fun i hi => by
      rw [rp_same, rp_ne (by omega), rp_ne (by omega), e i hi]
      have : p + (d + 1) + 1 = p + 1 + d + 1 := by omega
      rw [this]
    rw [h2]; grind
theorem det_two (m : Nat) (c : Nat → Nat → Rat) (p q : Nat) (hp : p < m) (hq : q < m) (hne : p ≠ q) (e : ∀ i, i < m → c p i = c q i) : det m c = 0 := by
  rcases Nat.lt_or_gt_of_ne hne with h | h
  · have : q = p + (q - p - 1) + 1 := by omega
    exact det_eq (q - p - 1) m c p (by omega) (by rw [← this]; exact e)
  · have : p = q + (p - q - 1) + 1 := by omega
    exact det_eq (p - q - 1) m c q (by omega) (by rw [← this]; exact fun i hi => (e i hi).symm)
/-- Cramer: a column that is a sum of the columns -/
theorem cramer (m : Nat) (c : Nat → Nat → Rat) (p : Nat) (hp : p < m) (a : Nat → Rat) (v : Nat → Rat) (e : ∀ i, i < m → v i = S m fun k => a k * c k i) : det m (rp c p v) = a p * det m c := by
  have e1 : det m (rp c p v) = det m (rp c p fun i => S m fun k => a k * c k i) := det_congr m fun j _ i hi => by
    by_cases q : j = p
    · rw [q, rp_same, rp_same, e i hi]
    · rw [rp_ne q, rp_ne q]
  rw [e1, det_S m c p hp m a c, S_one (j := p) hp fun k hk q => ?_, rp_id]
  rw [det_two m _ k p hk hp q fun i _ => by rw [rp_ne q, rp_same]]
  grind
/-- a diagonal matrix -/
theorem det_diag : ∀ (m : Nat) (c : Nat → Nat → Rat), (∀ j, j < m → ∀ i, i < m → i ≠ j → c j i = 0) → (∀ j, j < m → c j j ≠ 0) → det m c ≠ 0
  | 0, _, _, _ => by unfold det; grind
  | m + 1, c, h, n => by
    unfold det
    rw [S_one (j := 0) (by omega) fun j hj q => by rw [h j hj 0 (by omega) (by omega)]; grind]
    have h1 := det_diag m (fun k i => c (sk 0 k) (i + 1)) (fun j hj i hi q => h (sk 0 j) (by unfold sk; split <;> omega) (i + 1) (by omega) (by unfold sk; split <;> omega)) fun j hj => by
      have : sk 0 j = j + 1 := by unfold sk; split <;> omega
      show c (sk 0 j) (j + 1) ≠ 0
      rw [this]
      exact n (j + 1) (by omega)
    have h2 := n 0 (by omega)
    have h3 : sg 0 = 1 := rfl
    rw [h3]
    have h4 : (1 : Rat) * c 0 0 = c 0 0 := by grind
    rw [h4]
    intro z
    rcases Rat.mul_eq_zero.mp z with z | z
    · exact h2 z
    · exact h1 z
/-! ### determinants of ints -/
def isI (N : Nat) (q : Rat) : Prop := ∃ z : Int, q = (z : Rat) ∧ z.natAbs ≤ N
theorem isI_add {a b : Nat} {x y : Rat} (hx : isI a x) (hy : isI b y) : isI (a + b) (x + y) := by
  obtain ⟨z, rfl, hz⟩ := hx
  obtain ⟨t, rfl, ht⟩ := hy
  exact ⟨z + t, (Rat.intCast_add z t).symm, by omega⟩
theorem isI_mul {a b : Nat} {x y : Rat} (hx : isI a x) (hy : isI b y) : isI (a * b) (x * y) := by
  obtain ⟨z, rfl, hz⟩ := hx
  obtain ⟨t, rfl, ht⟩ := hy
  exact ⟨z * t, (Rat.intCast_mul z t).symm, by rw [Int.natAbs_mul]; exact Nat.mul_le_mul hz ht⟩
theorem isI_S {n N : Nat} {f : Nat → Rat} (h : ∀ i, i < n → isI N (f i)) : isI (n * N) (S n f) := by
  induction n with
  | zero => exact ⟨0, rfl, by simp⟩
  | succ n ih =>
    rw [S_succ, Nat.add_mul, Nat.one_mul]
    exact isI_add (ih fun i hi => h i (by omega)) (h n (by omega))
theorem isI_sg (j : Nat) : isI 1 (sg j) := by
  unfold sg
  split
  · exact ⟨1, rfl, by decide⟩
  · exact ⟨-1, rfl, by decide⟩
def dbound (M : Nat) : Nat → Nat
  | 0 => 1
  | m + 1 => (m + 1) * (M * dbound M m)
theorem isI_det {M : Nat} : ∀ (m : Nat) (c : Nat → Nat → Rat), (∀ j, j < m → ∀ i, i < m → isI M (c j i)) → isI (dbound M m) (det m c)
  | 0, _, _ => ⟨1, rfl, Nat.le_refl 1⟩
  | m + 1, c, h => by
    unfold det dbound
    refine isI_S fun j hj => ?_
    have h1 := isI_mul (isI_sg j) (h j hj 0 (by omega))
    rw [Nat.one_mul] at h1
    exact isI_mul h1 (isI_det m _ fun k hk i hi => h _ (by unfold sk; split <;> omega) _ (by omega))
end Dw
namespace Dw
/-! ### tables of equations: m rows, n columns, m helping columns behind them, the right side at n + m -/
structure Tab where
  e : Nat → Nat → Rat
  B : Nat → Nat
def turn (t : Tab) (j s : Nat) : Tab where
  e := fun i k => if i = j then t.e j k / t.e j s else t.e i k - t.e i s * (t.e j k / t.e j s)
  B := fun i => if i = j then s else t.B i
theorem turn_e_same {t : Tab} {j s k : Nat} : (turn t j s).e j k = t.e j k / t.e j s := by simp [turn]
theorem turn_e_ne {t : Tab} {j s i k : Nat} (h : i ≠ j) : (turn t j s).e i k = t.e i k - t.e i s * (t.e j k / t.e j s) := by simp [turn, h]
theorem turn_B_same {t : Tab} {j s : Nat} : (turn t j s).B j = s := by simp [turn]
theorem turn_B_ne {t : Tab} {j s i : Nat} (h : i ≠ j) : (turn t j s).B i = t.B i := by simp [turn, h]
def mult (m : Nat) (c : Nat → Rat) (t : Tab) (k : Nat) : Rat := S m fun i => c (t.B i) * t.e i k
/-- the table's facts over the first table A, whose rows times r are ints -/
structure Good (m n : Nat) (A : Nat → Nat → Rat) (r : Nat → Rat) (t : Tab) : Prop where
  bN : ∀ i, i < m → t.B i < n + m
  one : ∀ i, i < m → t.e i (t.B i) = 1
  nul : ∀ i, i < m → ∀ k, k < m → i ≠ k → t.e i (t.B k) = 0
  inv : ∀ i, i < m → ∀ k, k ≤ n + m → t.e i k = S m fun j => t.e i (n + j) * A j k
  col : ∀ q, q < m → ∀ k, k ≤ n + m → A q k = S m fun i => t.e i k * A q (t.B i)
  det : det m (fun i q => r q * A q (t.B i)) ≠ 0
def first (n : Nat) (A : Nat → Nat → Rat) : Tab := ⟨A, fun i => n + i⟩
theorem good_first {m n : Nat} {A : Nat → Nat → Rat} {r : Nat → Rat} (h1 : ∀ i, i < m → A i (n + i) = 1) (h0 : ∀ i, i < m → ∀ k, k < m → i ≠ k → A i (n + k) = 0) (hr : ∀ i, i < m → r i ≠ 0) : Good m n A r (first n A) where
  bN := fun i hi => by simp [first, hi]
  one := fun i hi => h1 i hi
  nul := fun i hi k hk e => h0 i hi k hk e
  inv := fun i hi k hk => by
    show A i k = S m fun j => A i (n + j) * A j k
    rw [S_one (j := i) hi fun j hj e => by rw [h0 i hi j hj (Ne.symm e)]; grind, h1 i hi]
    grind
  col := fun q hq k hk => by
    show A q k = S m fun i => A i k * A q (n + i)
    rw [S_one (j := q) hq fun j hj e => by rw [h0 q hq j hj (Ne.symm e)]; grind, h1 q hq]
    grind
  det := by
    refine det_diag m _ (fun j hj i hi e => ?_) fun j hj => ?_
    · show r i * A i (n + j) = 0
      rw [h0 i hi j hj e]; grind
    · show r j * A j (n + j) ≠ 0
      rw [h1 j hj]
      have := hr j hj
      grind
theorem div_self' {a : Rat} (h : a ≠ 0) : a / a = 1 := by
  rw [Rat.div_def]; exact Rat.mul_inv_cancel a h
theorem good_turn {m n : Nat} {A : Nat → Nat → Rat} {r : Nat → Rat} {t : Tab} {j s : Nat} (G : Good m n A r t) (hj : j < m) (hs : s < n + m) (hp : t.e j s ≠ 0) : Good m n A r (turn t j s) where
  bN := fun i hi => by
    by_cases q : i = j
    · rw [q, turn_B_same]; exact hs
    · rw [turn_B_ne q]; exact G.bN i hi
  one := fun i hi => by
    by_cases q : i = j
    · rw [q, turn_B_same, turn_e_same]; exact div_self' hp
    · rw [turn_B_ne q, turn_e_ne q, G.one i hi, G.nul j hj i hi (Ne.symm q)]
      have : (0 : Rat) / t.e j s = 0 := by rw [Rat.div_def]; grind
      rw [this]; grind
  nul := fun i hi k hk e => by
    by_cases q : k = j
    · subst q
      rw [turn_B_same, turn_e_ne e, div_self' hp]; grind
    · rw [turn_B_ne q]
      have z : (0 : Rat) / t.e j s = 0 := by rw [Rat.div_def]; grind
      by_cases q2 : i = j
      · subst q2
        rw [turn_e_same, G.nul i hi k hk e, z]
      · rw [turn_e_ne q2, G.nul i hi k hk e, G.nul j hj k hk (Ne.symm q), z]; grind
  inv := fun i hi k hk => by
    by_cases q : i = j
    · subst q
      rw [turn_e_same, G.inv i hi k hk, Rat.div_def, ← S_mulr]
      refine S_congr fun l hl => ?_
      rw [turn_e_same, Rat.div_def]; grind
    · rw [turn_e_ne q, G.inv i hi k hk, G.inv j hj k hk, Rat.div_def, ← S_mulr, ← S_mul, ← S_sub]
      refine S_congr fun l hl => ?_
      rw [turn_e_ne q, Rat.div_def]; grind
  col := fun p hp' k hk => by
    have h1 := G.col p hp' k hk
    have h2 := G.col p hp' s (by omega)
    rw [S_out hj] at h1 h2
    rw [S_out hj, turn_e_same, turn_B_same]
    have e : (S m fun i => if i = j then 0 else (turn t j s).e i k * A p ((turn t j s).B i)) = (S m fun i => if i = j then 0 else t.e i k * A p (t.B i)) - (t.e j k / t.e j s) * S m fun i => if i = j then 0 else t.e i s * A p (t.B i) := by
      rw [← S_mul, ← S_sub]
      refine S_congr fun i _ => ?_
      by_cases q : i = j
      · simp only [q, if_true]; grind
      · simp only [q, if_false, turn_e_ne q, turn_B_ne q]; grind
    rw [e]
    have e2 : t.e j k / t.e j s * t.e j s = t.e j k := Rat.div_mul_cancel hp
    grind
  det := by
    have h := cramer m (fun i q => r q * A q (t.B i)) j hj (fun i => t.e i s) (fun q => r q * A q s) fun q hq => by
      show r q * A q s = S m fun k => t.e k s * (r q * A q (t.B k))
      rw [G.col q hq s (by omega), ← S_mul]
      exact S_congr fun k _ => by grind
    have e : det m (fun i q => r q * A q ((turn t j s).B i)) = det m (rp (fun i q => r q * A q (t.B i)) j fun q => r q * A q s) := det_congr m fun i _ q _ => by
      by_cases z : i = j
      · rw [z, turn_B_same, rp_same]
      · rw [turn_B_ne z, rp_ne z]
    rw [e, h]
    intro z
    rcases Rat.mul_eq_zero.mp z with z | z
    · exact hp z
    · exact G.det z
/-- every entry is a quotient of two ints, none greater than the bound; the divisor is the table's own -/
theorem good_frac {m n M : Nat} {A : Nat → Nat → Rat} {r : Nat → Rat} {t : Tab} (G : Good m n A r t) (hM : ∀ q, q < m → ∀ k, k ≤ n + m → isI M (r q * A q k)) :
    ∃ d : Int, d ≠ 0 ∧ d.natAbs ≤ dbound M m ∧ ∀ i, i < m → ∀ k, k ≤ n + m → ∃ z : Int, z.natAbs ≤ dbound M m ∧ t.e i k * (d : Rat) = (z : Rat) := by
  obtain ⟨d, hd, hd2⟩ := isI_det (M := M) m (fun i q => r q * A q (t.B i)) fun j hj i hi => hM i hi _ (by have := G.bN j hj; omega)
  refine ⟨d, fun z => G.det ?_, hd2, fun i hi k hk => ?_⟩
  · rw [hd, z]; rfl
  · obtain ⟨z, hz, hz2⟩ := isI_det (M := M) m (rp (fun i q => r q * A q (t.B i)) i fun q => r q * A q k) fun j hj q hq => by
      by_cases e : j = i
      · rw [e, rp_same]; exact hM q hq k hk
      · rw [rp_ne e]; exact hM q hq _ (by have := G.bN j hj; omega)
    refine ⟨z, hz2, ?_⟩
    rw [← hd, ← hz]
    refine (cramer m (fun i q => r q * A q (t.B i)) i hi (fun i => t.e i k) (fun q => r q * A q k) fun q hq => ?_).symm
    show r q * A q k = S m fun l => t.e l k * (r q * A q (t.B l))
    rw [G.col q hq k hk, ← S_mul]
    exact S_congr fun k _ => by grind
/-- one basis, one table -/
theorem good_same {m n : Nat} {A : Nat → Nat → Rat} {r : Nat → Rat} {t u : Tab} (G : Good m n A r t) (U : Good m n A r u) (e : ∀ i, i < m → t.B i = u.B i) : ∀ i, i < m → ∀ k, k ≤ n + m → t.e i k = u.e i k := by
  intro i hi k hk
  -- the row i of t's helping block sends a column to its entry at i
  have h : ∀ w : Tab, Good m n A r w → (∀ i, i < m → t.B i = w.B i) → w.e i k = S m fun j => t.e i (n + j) * A j k := by
    intro w W ew
    have h1 : (S m fun j => t.e i (n + j) * A j k) = S m fun l => w.e l k * (S m fun j => t.e i (n + j) * A j (t.B l)) := by
      have : (S m fun j => t.e i (n + j) * A j k) = S m fun j => S m fun l => t.e i (n + j) * (w.e l k * A j (w.B l)) := S_congr fun j hj => by
        rw [W.col j hj k hk, ← S_mul]
      rw [this, S_comm]
      refine S_congr fun l hl => ?_
      rw [← S_mul]
      refine S_congr fun j hj => ?_
      rw [ew l hl]; grind
    rw [h1, S_one (j := i) hi fun l hl q => ?_]
    · rw [← G.inv i hi _ (by have := G.bN i hi; omega), G.one i hi]; grind
    · rw [← G.inv i hi _ (by have := G.bN l hl; omega), G.nul i hi l hl (Ne.symm q)]; grind
  rw [h u U e, G.inv i hi k hk]
/-! ### the rule of the least index -/
structure Piv (m n cols : Nat) (c : Nat → Rat) (t : Tab) (j s : Nat) : Prop where
  sN : s < cols
  up : mult m c t s < c s
  fst : ∀ k, k < s → ¬ mult m c t k < c k
  jN : j < m
  pos : 0 < t.e j s
  least : ∀ i, i < m → 0 < t.e i s → t.e j (n + m) / t.e j s < t.e i (n + m) / t.e i s ∨ (t.e j (n + m) / t.e j s = t.e i (n + m) / t.e i s ∧ t.B j ≤ t.B i)
def Feas (m n : Nat) (t : Tab) : Prop := ∀ i, i < m → 0 ≤ t.e i (n + m)
theorem div_nonneg' {a b : Rat} (ha : 0 ≤ a) (hb : 0 < b) : 0 ≤ a / b := by
  rw [Rat.div_def]; exact Rat.mul_nonneg ha (Rat.le_of_lt (Rat.inv_pos.mpr hb))
theorem feas_turn {m n cols : Nat} {c : Nat → Rat} {t : Tab} {j s : Nat} (F : Feas m n t) (P : Piv m n cols c t j s) : Feas m n (turn t j s) := by
  intro i hi
  have hq := div_nonneg' (F j P.jN) P.pos
  by_cases q : i = j
  · rw [q, turn_e_same]; exact hq
  · rw [turn_e_ne q]
    have h0 := F i hi
    by_cases hp : 0 < t.e i s
    · have e : t.e j (n + m) / t.e j s ≤ t.e i (n + m) / t.e i s := by
        rcases P.least i hi hp with z | z
        · exact Rat.le_of_lt z
        · rw [z.1]; exact Rat.le_refl
      have e2 := Rat.mul_le_mul_of_nonneg_left e (Rat.le_of_lt hp)
      have e3 : t.e i s * (t.e i (n + m) / t.e i s) = t.e i (n + m) := by
        rw [Rat.mul_comm]; exact Rat.div_mul_cancel (by grind)
      rw [e3] at e2
      grind
    · have e2 : 0 ≤ (- t.e i s) * (t.e j (n + m) / t.e j s) := Rat.mul_nonneg (by grind) hq
      grind
theorem Piv.ne0 {m n cols : Nat} {c : Nat → Rat} {t : Tab} {j s : Nat} (P : Piv m n cols c t j s) : t.e j s ≠ 0 := by have := P.pos; grind
/-- the multiplier behind a turn -/
theorem mult_turn {m n : Nat} {c : Nat → Rat} {t : Tab} {j s k : Nat} (hj : j < m) (hp : t.e j s ≠ 0) : mult m c (turn t j s) k = mult m c t k + (c s - mult m c t s) * (t.e j k / t.e j s) := by
  unfold mult
  rw [S_out hj, S_out (n := m) (f := fun i => c (t.B i) * t.e i k) hj, S_out (n := m) (f := fun i => c (t.B i) * t.e i s) hj, turn_B_same, turn_e_same]
  have e : (S m fun i => if i = j then 0 else c ((turn t j s).B i) * (turn t j s).e i k) = (S m fun i => if i = j then 0 else c (t.B i) * t.e i k) - (t.e j k / t.e j s) * S m fun i => if i = j then 0 else c (t.B i) * t.e i s := by
    rw [← S_mul, ← S_sub]
    refine S_congr fun i _ => ?_
    by_cases q : i = j
    · simp only [q, if_true]; grind
    · simp only [q, if_false, turn_e_ne q, turn_B_ne q]; grind
  rw [e]
  have e2 : t.e j k / t.e j s * t.e j s = t.e j k := Rat.div_mul_cancel hp
  grind
theorem mult_basic {m n : Nat} {A : Nat → Nat → Rat} {r : Nat → Rat} {c : Nat → Rat} {t : Tab} (G : Good m n A r t) {i : Nat} (hi : i < m) : mult m c t (t.B i) = c (t.B i) := by
  unfold mult
  rw [S_one (j := i) hi fun k hk q => by rw [G.nul k hk i hi q]; grind, G.one i hi]; grind
end Dw
namespace Dw
/-! ### the rule of the least index comes to an end -/
section
variable {m n cols : Nat} {A : Nat → Nat → Rat} {r : Nat → Rat} {c : Nat → Rat}
def obj (m n : Nat) (c : Nat → Rat) (t : Tab) : Rat := mult m c t (n + m)
def Step (m n cols : Nat) (c : Nat → Rat) (t u : Tab) : Prop := ∃ j s, Piv m n cols c t j s ∧ u = turn t j s
/-- a run of turns -/
structure Run (m n cols : Nat) (A : Nat → Nat → Rat) (r : Nat → Rat) (c : Nat → Rat) (L : Nat) (f : Nat → Tab) : Prop where
  good : ∀ i, i ≤ L → Good m n A r (f i)
  feas : ∀ i, i ≤ L → Feas m n (f i)
  step : ∀ i, i < L → Step m n cols c (f i) (f (i + 1))
theorem obj_turn {t : Tab} {j s : Nat} (P : Piv m n cols c t j s) : obj m n c (turn t j s) = obj m n c t + (c s - mult m c t s) * (t.e j (n + m) / t.e j s) := mult_turn (n := n) P.jN P.ne0
theorem obj_le {t : Tab} {j s : Nat} (F : Feas m n t) (P : Piv m n cols c t j s) : obj m n c t ≤ obj m n c (turn t j s) := by
  rw [obj_turn P]
  have h1 := P.up
  have h2 := div_nonneg' (F j P.jN) P.pos
  have h3 : 0 ≤ (c s - mult m c t s) * (t.e j (n + m) / t.e j s) := Rat.mul_nonneg (by grind) h2
  grind
theorem obj_eq {t : Tab} {j s : Nat} (P : Piv m n cols c t j s) (e : obj m n c (turn t j s) = obj m n c t) : t.e j (n + m) = 0 := by
  rw [obj_turn P] at e
  have h1 := P.up
  have h2 : (c s - mult m c t s) * (t.e j (n + m) / t.e j s) = 0 := by grind
  rcases Rat.mul_eq_zero.mp h2 with z | z
  · grind
  · have h3 := Rat.div_mul_cancel (a := t.e j (n + m)) P.ne0
    rw [z] at h3
    grind
/-- the value of the variable v at a table's corner -/
def val (m n : Nat) (t : Tab) (v : Nat) : Rat := S m fun i => if t.B i = v then t.e i (n + m) else 0
theorem B_inj {t : Tab} (G : Good m n A r t) {i k : Nat} (hi : i < m) (hk : k < m) (e : t.B i = t.B k) : i = k := by
  refine Classical.byContradiction fun q => ?_
  have h1 := G.nul i hi k hk q
  rw [← e, G.one i hi] at h1
  grind
theorem val_basic {t : Tab} (G : Good m n A r t) {i : Nat} (hi : i < m) : val m n t (t.B i) = t.e i (n + m) := by
  unfold val
  rw [S_one (j := i) hi fun k hk q => if_neg fun z => q (B_inj G hk hi z), if_pos rfl]
theorem val_out {t : Tab} {v : Nat} (h : ∀ i, i < m → t.B i ≠ v) : val m n t v = 0 := S_z fun i hi => if_neg (h i hi)
theorem val_turn {t : Tab} {j s : Nat} (hj : j < m) (hz : t.e j (n + m) = 0) (v : Nat) : val m n (turn t j s) v = val m n t v := by
  unfold val
  refine S_congr fun i hi => ?_
  have z : (0 : Rat) / t.e j s = 0 := by rw [Rat.div_def]; grind
  by_cases q : i = j
  · subst q
    rw [turn_e_same, hz, z]
    simp
  · rw [turn_B_ne q, turn_e_ne q, hz, z]
    by_cases q2 : t.B i = v
    · rw [if_pos q2, if_pos q2]; grind
    · rw [if_neg q2, if_neg q2]
/-- v enters at the time i -/
def Enters (m n cols : Nat) (c : Nat → Rat) (f : Nat → Tab) (i v : Nat) : Prop := ∃ j, Piv m n cols c (f i) j v ∧ f (i + 1) = turn (f i) j v
def In (m : Nat) (t : Tab) (v : Nat) : Prop := ∃ i, i < m ∧ t.B i = v
theorem in_turn {t : Tab} {j s v : Nat} (hj : j < m) (h : In m (turn t j s) v) : In m t v ∨ v = s := by
  obtain ⟨i, hi, e⟩ := h
  by_cases q : i = j
  · rw [q, turn_B_same] at e
    exact .inr e.symm
  · rw [turn_B_ne q] at e
    exact .inl ⟨i, hi, e⟩
variable {L : Nat} {f : Nat → Tab}
/-- from out to in: it enters in between -/
theorem enters_between (R : Run m n cols A r c L f) {v : Nat} : ∀ (d a : Nat), a + d ≤ L → ¬ In m (f a) v → In m (f (a + d)) v → ∃ i, a ≤ i ∧ i < a + d ∧ Enters m n cols c f i v
  | 0, a, _, h1, h2 => absurd h2 h1
  | d + 1, a, hl, h1, h2 => by
    by_cases q : In m (f (a + d)) v
    · obtain ⟨i, x, y, z⟩ := enters_between R d a (by omega) h1 q
      exact ⟨i, x, by omega, z⟩
    · obtain ⟨j, s, P, e⟩ := R.step (a + d) (by omega)
      have h3 : In m (f (a + d + 1)) v := h2
      rw [e] at h3
      rcases in_turn P.jN h3 with z | z
      · exact absurd z q
      · subst z
        exact ⟨a + d, by omega, by omega, j, P, e⟩
/-- from in to out: it leaves in between -/
theorem leaves_between (R : Run m n cols A r c L f) {v : Nat} : ∀ (d a : Nat), a + d ≤ L → In m (f a) v → ¬ In m (f (a + d)) v → ∃ i, a ≤ i ∧ i < a + d ∧ ∃ j s, Piv m n cols c (f i) j s ∧ f (i + 1) = turn (f i) j s ∧ (f i).B j = v
  | 0, a, _, h1, h2 => absurd h1 h2
  | d + 1, a, hl, h1, h2 => by
    by_cases q : In m (f (a + d)) v
    · obtain ⟨j, s, P, e⟩ := R.step (a + d) (by omega)
      refine ⟨a + d, by omega, by omega, j, s, P, e, ?_⟩
      obtain ⟨i, hi, hv⟩ := q
      refine Classical.byContradiction fun z => h2 ?_
      have hij : i ≠ j := fun w => z (by rw [← w]; exact hv)
      refine ⟨i, hi, ?_⟩
      show (f (a + d + 1)).B i = v
      rw [e, turn_B_ne hij]; exact hv
    · obtain ⟨i, x, y, z⟩ := leaves_between R d a (by omega) h1 q
      exact ⟨i, x, by omega, z⟩
theorem obj_mono (R : Run m n cols A r c L f) : ∀ (d a : Nat), a + d ≤ L → obj m n c (f a) ≤ obj m n c (f (a + d))
  | 0, _, _ => Rat.le_refl
  | d + 1, a, h => by
    obtain ⟨j, s, P, e⟩ := R.step (a + d) (by omega)
    have h1 := obj_mono R d a (by omega)
    have h2 := obj_le (R.feas (a + d) (by omega)) P
    rw [← e] at h2
    exact Rat.le_trans h1 h2
/-- the last of some numbers below N -/
theorem last_of {p : Nat → Prop} : ∀ (N : Nat), (∃ v, v < N ∧ p v) → ∃ v, p v ∧ ∀ u, u < N → p u → u ≤ v
  | 0, h => by obtain ⟨v, h1, _⟩ := h; omega
  | N + 1, h => by
    by_cases q : p N
    · exact ⟨N, q, fun u hu _ => by omega⟩
    · obtain ⟨v, h1, h2⟩ := h
      have h3 : v ≠ N := fun z => q (z ▸ h2)
      obtain ⟨v, h4, h5⟩ := last_of N ⟨v, by omega, h2⟩
      exact ⟨v, h4, fun u hu hp => h5 u (by have : u ≠ N := fun z => q (z ▸ hp); omega) hp⟩
/-- no basis comes twice -/
theorem no_cycle (R : Run m n cols A r c L f) (hc : cols ≤ n + m) {a b : Nat} (hab : a < b) (hb : b ≤ L) (e : ∀ i, i < m → (f a).B i = (f b).B i) : False := by
  -- all turns from a to b leave the corner
  have same : ∀ i, i < m → ∀ k, k ≤ n + m → (f a).e i k = (f b).e i k := good_same (R.good a (by omega)) (R.good b hb) e
  have eqo : obj m n c (f a) = obj m n c (f b) := S_congr fun i hi => by rw [e i hi, same i hi (n + m) (Nat.le_refl _)]
  have flat : ∀ p, a ≤ p → p < b → ∀ j s, Piv m n cols c (f p) j s → f (p + 1) = turn (f p) j s → (f p).e j (n + m) = 0 := by
    intro p h1 h2 j s P ep
    have x1 := obj_mono R (p - a) a (by omega)
    have x2 := obj_mono R (b - (p + 1)) (p + 1) (by omega)
    have y1 : a + (p - a) = p := by omega
    have y2 : p + 1 + (b - (p + 1)) = b := by omega
    rw [y1] at x1
    rw [y2] at x2
    have x3 := obj_le (R.feas p (by omega)) P
    rw [← ep] at x3
    refine obj_eq P ?_
    rw [← ep]
    grind
  have vals : ∀ v d, a + d ≤ b → val m n (f (a + d)) v = val m n (f a) v := by
    intro v d
    induction d with
    | zero => intro _; rfl
    | succ d ih =>
      intro h
      obtain ⟨j, s, P, ep⟩ := R.step (a + d) (by omega)
      have : val m n (f (a + d + 1)) v = val m n (f (a + d)) v := by
        rw [ep]; exact val_turn P.jN (flat (a + d) (by omega) (by omega) j s P ep) v
      exact this.trans (ih (by omega))
  have valE : ∀ p q, a ≤ p → p ≤ b → a ≤ q → q ≤ b → ∀ v, val m n (f p) v = val m n (f q) v := fun p q h1 h2 h3 h4 v => by
    have x := vals v (p - a) (by omega)
    have y := vals v (q - a) (by omega)
    have e1 : a + (p - a) = p := by omega
    have e2 : a + (q - a) = q := by omega
    rw [e1] at x
    rw [e2] at y
    rw [x, y]
  have inE : ∀ v, In m (f a) v ↔ In m (f b) v := fun v => ⟨fun ⟨i, hi, z⟩ => ⟨i, hi, (e i hi).symm.trans z⟩, fun ⟨i, hi, z⟩ => ⟨i, hi, (e i hi).trans z⟩⟩
  -- who enters between a and b
  let p : Nat → Prop := fun v => ∃ i, a ≤ i ∧ i < b ∧ Enters m n cols c f i v
  have some_p : ∃ v, v < cols ∧ p v := by
    obtain ⟨j, s, P, ep⟩ := R.step a (by omega)
    exact ⟨s, P.sN, a, by omega, hab, j, P, ep⟩
  -- in at one time, out at another: it enters
  have fick : ∀ v x y, a ≤ x → x ≤ b → a ≤ y → y ≤ b → In m (f x) v → ¬ In m (f y) v → p v := by
    intro v x y h1 h2 h3 h4 hx hy
    rcases Nat.lt_or_ge y x with hyx | hyx
    · have e1 : y + (x - y) = x := by omega
      obtain ⟨i, i1, i2, i3⟩ := enters_between R (x - y) y (by omega) hy (by rw [e1]; exact hx)
      exact ⟨i, by omega, by omega, i3⟩
    · by_cases hb' : In m (f b) v
      · have e1 : y + (b - y) = b := by omega
        obtain ⟨i, i1, i2, i3⟩ := enters_between R (b - y) y (by omega) hy (by rw [e1]; exact hb')
        exact ⟨i, by omega, by omega, i3⟩
      · have ha' : ¬ In m (f a) v := fun z => hb' ((inE v).mp z)
        have e1 : a + (x - a) = x := by omega
        obtain ⟨i, i1, i2, i3⟩ := enters_between R (x - a) a (by omega) ha' (by rw [e1]; exact hx)
        exact ⟨i, by omega, by omega, i3⟩
  obtain ⟨v, ⟨q, q1, q2, jq, Pq, eq⟩, top⟩ := last_of cols some_p
  have topp : ∀ u, p u → u ≤ v := fun u hu => top u (by obtain ⟨_, _, _, _, P, _⟩ := hu; exact P.sN) hu
  have Gq := R.good q (by omega)
  -- v is out at q, in behind it
  have outq : ¬ In m (f q) v := fun ⟨i, hi, z⟩ => by
    have h1 := mult_basic (c := c) Gq hi
    rw [z] at h1
    have h2 := Pq.up
    rw [h1] at h2
    grind
  have inq : In m (f (q + 1)) v := ⟨jq, Pq.jN, by rw [eq, turn_B_same]⟩
  -- so it leaves at some time
  have lv : ∃ i, a ≤ i ∧ i < b ∧ ∃ j s, Piv m n cols c (f i) j s ∧ f (i + 1) = turn (f i) j s ∧ (f i).B j = v := by
    by_cases hb' : In m (f b) v
    · have ha' := (inE v).mpr hb'
      have e1 : a + (q - a) = q := by omega
      obtain ⟨i, i1, i2, i3⟩ := leaves_between R (q - a) a (by omega) ha' (by rw [e1]; exact outq)
      exact ⟨i, i1, by omega, i3⟩
    · have e1 : q + 1 + (b - (q + 1)) = b := by omega
      obtain ⟨i, i1, i2, i3⟩ := leaves_between R (b - (q + 1)) (q + 1) (by omega) inq (by rw [e1]; exact hb')
      exact ⟨i, by omega, by omega, i3⟩
  obtain ⟨x, x1, x2, j, s, P, ex, hv⟩ := lv
  have G := R.good x (by omega)
  have sN : s < n + m := by have := P.sN; omega
  have sp : p s := ⟨x, x1, x2, j, P, ex⟩
  have s_lt : s < v := by
    have h1 := topp s sp
    have h2 : s ≠ v := fun z => by
      have h3 := mult_basic (c := c) G P.jN
      rw [hv, ← z] at h3
      have := P.up
      grind
    omega
  -- the reduced costs at q along the direction at x
  let cs : Nat → Rat := fun k => c k - mult m c (f q) k
  have dir : 0 < cs s + S m fun i => cs ((f x).B i) * (- (f x).e i s) := by
    have h1 : ∀ k, k ≤ n + m → mult m c (f q) k = S m fun l => (S m fun i => c ((f q).B i) * (f q).e i (n + l)) * A l k := fun k hk => by
      unfold mult
      have : (S m fun l => (S m fun i => c ((f q).B i) * (f q).e i (n + l)) * A l k) = S m fun l => S m fun i => c ((f q).B i) * ((f q).e i (n + l) * A l k) := S_congr fun l _ => by
        rw [← S_mulr]; exact S_congr fun i _ => by grind
      rw [this, S_comm]
      refine S_congr fun i hi => ?_
      rw [Gq.inv i hi k hk, S_mul]
    have h2 : mult m c (f q) s = S m fun i => mult m c (f q) ((f x).B i) * (f x).e i s := by
      rw [h1 s (by omega)]
      have e1 : (S m fun i => mult m c (f q) ((f x).B i) * (f x).e i s) = S m fun i => S m fun l => (S m fun i => c ((f q).B i) * (f q).e i (n + l)) * ((f x).e i s * A l ((f x).B i)) := S_congr fun i hi => by
        rw [h1 _ (by have := G.bN i hi; omega), ← S_mulr]; exact S_congr fun l _ => by grind
      rw [e1, S_comm]
      refine S_congr fun l hl => ?_
      rw [S_mul, ← G.col l hl s (by omega)]
    have h3 : (S m fun i => cs ((f x).B i) * (- (f x).e i s)) = mult m c (f q) s - mult m c (f x) s := by
      have e1 : (S m fun i => cs ((f x).B i) * (- (f x).e i s)) = (S m fun i => mult m c (f q) ((f x).B i) * (f x).e i s) - S m fun i => c ((f x).B i) * (f x).e i s := by
        rw [← S_sub]; exact S_congr fun i _ => by show (c _ - mult m c (f q) _) * _ = _; grind
      rw [e1, ← h2]; rfl
    rw [h3]
    have := P.up
    show 0 < c s - mult m c (f q) s + _
    grind
  have cs_lo : ∀ k, k < v → cs k ≤ 0 := fun k hk => by
    have := Pq.fst k hk
    show c k - mult m c (f q) k ≤ 0
    grind
  obtain ⟨i, hi, hpos⟩ : ∃ i, i < m ∧ 0 < cs ((f x).B i) * (- (f x).e i s) := S_pos (by have := cs_lo s s_lt; grind)
  -- that basic variable is out at q
  have out : ¬ In m (f q) ((f x).B i) := fun ⟨k, hk, z⟩ => by
    have h1 := mult_basic (c := c) Gq hk
    rw [z] at h1
    have h2 : cs ((f x).B i) = 0 := by show c _ - mult m c (f q) _ = 0; grind
    rw [h2] at hpos
    grind
  have pi : p ((f x).B i) := fick _ x q x1 (by omega) q1 (by omega) ⟨i, hi, rfl⟩ out
  have le_v := topp _ pi
  have hneg : ∀ y : Rat, cs ((f x).B i) ≤ 0 → 0 < cs ((f x).B i) * (- (f x).e i s) → 0 < (f x).e i s := fun _ h1 h2 => by
    refine Classical.byContradiction fun h3 => ?_
    have : 0 ≤ (- cs ((f x).B i)) * (- (f x).e i s) := Rat.mul_nonneg (by grind) (by grind)
    grind
  rcases Nat.lt_or_ge ((f x).B i) v with hlt | hge
  · have epos := hneg 0 (cs_lo _ hlt) hpos
    have h0 : (f x).e i (n + m) = 0 := by
      rw [← val_basic G hi, valE x q x1 (by omega) q1 (by omega)]
      exact val_out fun k hk z => out ⟨k, hk, z⟩
    have hj0 := flat x x1 x2 j s P ex
    rcases P.least i hi epos with z | ⟨_, z⟩
    · rw [hj0, h0] at z
      have z1 : (0 : Rat) / (f x).e j s = 0 := by rw [Rat.div_def]; grind
      have z2 : (0 : Rat) / (f x).e i s = 0 := by rw [Rat.div_def]; grind
      rw [z1, z2] at z
      grind
    · omega
  · have ev : (f x).B i = v := by omega
    have ij : i = j := B_inj G hi P.jN (by rw [ev, hv])
    subst ij
    have h1 : 0 < cs ((f x).B i) := by
      rw [ev]
      have := Pq.up
      show 0 < c v - mult m c (f q) v
      grind
    have h2 := P.pos
    have h3 : 0 < cs ((f x).B i) * (f x).e i s := Rat.mul_pos h1 h2
    grind
/-- a run has fewer turns than there are bases -/
theorem run_short (R : Run m n cols A r c L f) (hc : cols ≤ n + m) : L < (n + m) ^ m := by
  refine Classical.byContradiction fun h => ?_
  obtain ⟨i, j, h1, h2, e⟩ := pigeon ((n + m) ^ m) (fun i => if i ≤ L then code (n + m) m (f i).B else 0) fun i hi => by
    have hi' : i ≤ L := by omega
    simp only [hi', if_true]
    exact code_lt m _ (R.good i hi').bN
  have hi' : i ≤ L := by omega
  have hj' : j ≤ L := by omega
  simp only [hi', hj', if_true] at e
  exact no_cycle R hc h1 hj' (code_inj m _ _ (R.good i hi').bN (R.good j hj').bN e)
end
/-- a table behind L turns -/
inductive Beh (m n cols : Nat) (A : Nat → Nat → Rat) (r : Nat → Rat) (c : Nat → Rat) : Nat → Tab → Prop
  | zero {t : Tab} : Good m n A r t → Feas m n t → Beh m n cols A r c 0 t
  | succ {L : Nat} {t : Tab} {j s : Nat} : Beh m n cols A r c L t → Piv m n cols c t j s → Beh m n cols A r c (L + 1) (turn t j s)
theorem Beh.good {m n cols : Nat} {A : Nat → Nat → Rat} {r c : Nat → Rat} (hc : cols ≤ n + m) {L : Nat} {t : Tab} (b : Beh m n cols A r c L t) : Good m n A r t ∧ Feas m n t := by
  induction b with
  | zero g f => exact ⟨g, f⟩
  | succ b P ih => exact ⟨good_turn ih.1 P.jN (by have := P.sN; omega) P.ne0, feas_turn ih.2 P⟩
theorem Beh.run {m n cols : Nat} {A : Nat → Nat → Rat} {r c : Nat → Rat} (hc : cols ≤ n + m) {L : Nat} {t : Tab} (b : Beh m n cols A r c L t) : ∃ f, f L = t ∧ Run m n cols A r c L f := by
  induction b with
  | @zero t g f => exact ⟨fun _ => t, rfl, ⟨fun _ _ => g, fun _ _ => f, fun i hi => absurd hi (by omega)⟩⟩
  | @succ L t j s b P ih =>
    obtain ⟨f, ef, R⟩ := ih
    have h := Beh.good hc (Beh.succ b P)
    refine ⟨fun i => if i ≤ L then f i else turn t j s, if_neg (by omega), ⟨fun i hi => ?_, fun i hi => ?_, fun i hi => ?_⟩⟩
    · by_cases q : i ≤ L
      · simp only [q, if_true]; exact R.good i q
      · simp only [q, if_false]; exact h.1
    · by_cases q : i ≤ L
      · simp only [q, if_true]; exact R.feas i q
      · simp only [q, if_false]; exact h.2
    · have q : i ≤ L := by omega
      simp only [q, if_true]
      by_cases q2 : i + 1 ≤ L
      · simp only [q2, if_true]; exact R.step i (by omega)
      · simp only [q2, if_false]
        have : i = L := by omega
        rw [this, ef]
        exact ⟨j, s, P, rfl⟩
theorem Beh.short {m n cols : Nat} {A : Nat → Nat → Rat} {r c : Nat → Rat} (hc : cols ≤ n + m) {L : Nat} {t : Tab} (b : Beh m n cols A r c L t) : L < (n + m) ^ m := by
  obtain ⟨f, _, R⟩ := b.run hc
  exact run_short R hc
end Dw
namespace Dw
/-! ### the two phases -/
def sgn (g : Nat → Rat) (j : Nat) : Rat := if g j < 0 then -1 else 1
def tab0 (m n : Nat) (a : Nat → Nat → Rat) (g : Nat → Rat) : Nat → Nat → Rat := fun j k => if k < n then a j k * sgn g j else if k < n + m then (if k - n = j then 1 else 0) else g j * sgn g j
theorem sgn_sq (g : Nat → Rat) (j : Nat) : sgn g j * sgn g j = 1 := by
  unfold sgn; split <;> grind
theorem tab0_lo {m n : Nat} {a : Nat → Nat → Rat} {g : Nat → Rat} {j k : Nat} (h : k < n) : tab0 m n a g j k = a j k * sgn g j := if_pos h
theorem tab0_mid {m n : Nat} {a : Nat → Nat → Rat} {g : Nat → Rat} {j k : Nat} (h : k < m) : tab0 m n a g j (n + k) = if k = j then 1 else 0 := by
  unfold tab0
  rw [if_neg (by omega), if_pos (by omega)]
  have : n + k - n = k := by omega
  rw [this]
theorem tab0_hi {m n : Nat} {a : Nat → Nat → Rat} {g : Nat → Rat} {j : Nat} : tab0 m n a g j (n + m) = g j * sgn g j := by
  unfold tab0
  rw [if_neg (by omega), if_neg (by omega)]
theorem good0 {m n : Nat} {a : Nat → Nat → Rat} {g r : Nat → Rat} (hr : ∀ i, i < m → r i ≠ 0) : Good m n (tab0 m n a g) r (first n (tab0 m n a g)) :=
  good_first (fun i hi => by rw [tab0_mid hi, if_pos rfl]) (fun i hi k hk e => by rw [tab0_mid hk, if_neg (Ne.symm e)]) hr
theorem feas0 {m n : Nat} {a : Nat → Nat → Rat} {g : Nat → Rat} : Feas m n (first n (tab0 m n a g)) := fun i hi => by
  show 0 ≤ tab0 m n a g i (n + m)
  rw [tab0_hi]
  unfold sgn
  split <;> grind
/-- the program: amounts from 0 on that solve the equations -/
def LPF (m n : Nat) (a : Nat → Nat → Rat) (g x : Nat → Rat) : Prop := (∀ k, k < n → 0 ≤ x k) ∧ ∀ j, j < m → (S n fun k => a j k * x k) = g j
/-- multipliers that no amounts beat -/
def LPD (m n : Nat) (a : Nat → Nat → Rat) (c y : Nat → Rat) : Prop := ∀ x : Nat → Rat, (∀ k, k < n → 0 ≤ x k) → (S n fun k => c k * x k) ≤ S m fun j => y j * S n fun k => a j k * x k
/-- nothing rises for ever -/
def LPB (m n : Nat) (a : Nat → Nat → Rat) (c : Nat → Rat) : Prop := ∀ x : Nat → Rat, (∀ k, k < n → 0 ≤ x k) → (∀ j, j < m → (S n fun k => a j k * x k) = 0) → (S n fun k => c k * x k) ≤ 0
section
variable {m n : Nat} {a : Nat → Nat → Rat} {g r c : Nat → Rat} {t : Tab}
theorem mult_inv {A : Nat → Nat → Rat} (G : Good m n A r t) {k : Nat} (hk : k ≤ n + m) : mult m c t k = S m fun j => mult m c t (n + j) * A j k := by
  unfold mult
  have : (S m fun j => (S m fun i => c (t.B i) * t.e i (n + j)) * A j k) = S m fun j => S m fun i => c (t.B i) * (t.e i (n + j) * A j k) := S_congr fun j _ => by
    rw [← S_mulr]; exact S_congr fun i _ => by grind
  rw [this, S_comm]
  exact S_congr fun i hi => by rw [G.inv i hi k hk, S_mul]
theorem val_sum {f : Nat → Rat} (hB : ∀ i, i < m → t.B i < n) : (S n fun k => f k * val m n t k) = S m fun i => f (t.B i) * t.e i (n + m) := by
  have : (S n fun k => f k * val m n t k) = S n fun k => S m fun i => f k * (if t.B i = k then t.e i (n + m) else 0) := S_congr fun k _ => by unfold val; rw [S_mul]
  rw [this, S_comm]
  refine S_congr fun i hi => ?_
  rw [S_one (j := t.B i) (hB i hi) fun k _ hk => by rw [if_neg (Ne.symm hk)]; grind, if_pos rfl]
def hcost (n : Nat) : Nat → Rat := fun k => if k < n then 0 else -1
theorem ph1_fall (h : ∃ s, s < n ∧ mult m (hcost n) t s < hcost n s ∧ ∀ i, i < m → ¬ 0 < t.e i s) : False := by
  obtain ⟨s, hs, h1, h2⟩ := h
  have e : hcost n s = 0 := if_pos hs
  rw [e] at h1
  have : 0 ≤ mult m (hcost n) t s := S_nonneg fun i hi => by
    have h3 := h2 i hi
    unfold hcost
    by_cases q : t.B i < n
    · rw [if_pos q]; grind
    · rw [if_neg q]; grind
  grind
theorem ph1_none (G : Good m n (tab0 m n a g) r t) (h : ∀ k, k < n → ¬ mult m (hcost n) t k < hcost n k) (h0 : mult m (hcost n) t (n + m) < 0) (x : Nat → Rat) (hx : LPF m n a g x) : False := by
  have e1 : mult m (hcost n) t (n + m) = S n fun k => mult m (hcost n) t k * x k := by
    rw [mult_inv G (Nat.le_refl _)]
    have : (S n fun k => mult m (hcost n) t k * x k) = S n fun k => S m fun j => mult m (hcost n) t (n + j) * (tab0 m n a g j k * x k) := S_congr fun k hk => by
      rw [mult_inv G (by omega), ← S_mulr]; exact S_congr fun j _ => by grind
    rw [this, S_comm]
    refine S_congr fun j hj => ?_
    rw [tab0_hi, S_mul, ← hx.2 j hj, ← S_mulr]
    congr 1
    exact S_congr fun k hk => by rw [tab0_lo hk]; grind
  rw [e1] at h0
  have : 0 ≤ S n fun k => mult m (hcost n) t k * x k := S_nonneg fun k hk => by
    have h1 := h k hk
    have e : hcost n k = 0 := if_pos hk
    rw [e] at h1
    exact Rat.mul_nonneg (by grind) (hx.1 k hk)
  grind
theorem ph1_some (F : Feas m n t) (h0 : ¬ mult m (hcost n) t (n + m) < 0) : ∀ i, i < m → n ≤ t.B i → t.e i (n + m) = 0 := by
  intro i hi hB
  have h1 : (S m fun i => - (hcost n (t.B i) * t.e i (n + m))) = - mult m (hcost n) t (n + m) := S_neg
  have nn : ∀ i, i < m → 0 ≤ - (hcost n (t.B i) * t.e i (n + m)) := fun i hi => by
    have := F i hi
    unfold hcost
    by_cases q : t.B i < n
    · rw [if_pos q]; grind
    · rw [if_neg q]; grind
  have h2 : 0 ≤ S m fun i => - (hcost n (t.B i) * t.e i (n + m)) := S_nonneg nn
  have h3 : (S m fun i => - (hcost n (t.B i) * t.e i (n + m))) = 0 := by grind
  have h4 := S_nonneg_zero nn h3 i hi
  have e : hcost n (t.B i) = -1 := if_neg (by omega)
  simp only [e] at h4
  grind
theorem ph2_fall (G : Good m n (tab0 m n a g) r t) (hB : ∀ i, i < m → t.B i < n) (hb : LPB m n a c) (h : ∃ s, s < n ∧ mult m c t s < c s ∧ ∀ i, i < m → ¬ 0 < t.e i s) : False := by
  obtain ⟨s, hs, h1, h2⟩ := h
  let d : Nat → Rat := fun k => (if k = s then 1 else 0) + S m fun i => if t.B i = k then - t.e i s else 0
  have sum : ∀ f : Nat → Rat, (S n fun k => f k * d k) = f s - S m fun i => f (t.B i) * t.e i s := fun f => by
    have : (S n fun k => f k * d k) = (S n fun k => f k * (if k = s then 1 else 0)) + S n fun k => S m fun i => f k * (if t.B i = k then - t.e i s else 0) := by
      rw [← S_add]
      refine S_congr fun k _ => ?_
      show f k * ((if k = s then 1 else 0) + S m fun i => if t.B i = k then - t.e i s else 0) = _
      rw [Rat.mul_add, S_mul]
    rw [this, S_one (j := s) hs fun k _ hk => by rw [if_neg hk]; grind, if_pos rfl, S_comm]
    have : (S m fun i => S n fun k => f k * (if t.B i = k then - t.e i s else 0)) = S m fun i => - (f (t.B i) * t.e i s) := S_congr fun i hi => by
      rw [S_one (j := t.B i) (hB i hi) fun k _ hk => by rw [if_neg (Ne.symm hk)]; grind, if_pos rfl]; grind
    rw [this, S_neg]; grind
  have h3 := hb d (fun k _ => ?_) fun j hj => ?_
  · rw [sum c] at h3
    have : mult m c t s = S m fun i => c (t.B i) * t.e i s := rfl
    grind
  · have : 0 ≤ S m fun i => if t.B i = k then - t.e i s else 0 := S_nonneg fun i hi => by
      have := h2 i hi
      split <;> grind
    show 0 ≤ (if k = s then (1 : Rat) else 0) + S m fun i => if t.B i = k then - t.e i s else 0
    split <;> grind
  · rw [sum (a j)]
    have e := G.col j hj s (by omega)
    rw [tab0_lo hs] at e
    have e2 : (S m fun i => t.e i s * tab0 m n a g j (t.B i)) = sgn g j * S m fun i => a j (t.B i) * t.e i s := by
      rw [← S_mul]
      exact S_congr fun i hi => by rw [tab0_lo (hB i hi)]; grind
    rw [e2] at e
    have e3 := sgn_sq g j
    have e4 : sgn g j * (a j s * sgn g j) = sgn g j * (sgn g j * S m fun i => a j (t.B i) * t.e i s) := by rw [e]
    have e5 : sgn g j * (a j s * sgn g j) = a j s * (sgn g j * sgn g j) := by grind
    have e6 : sgn g j * (sgn g j * S m fun i => a j (t.B i) * t.e i s) = (sgn g j * sgn g j) * S m fun i => a j (t.B i) * t.e i s := by grind
    rw [e5, e6, e3] at e4
    grind
theorem ph2_top (G : Good m n (tab0 m n a g) r t) (F : Feas m n t) (hB : ∀ i, i < m → t.B i < n) (h : ∀ k, k < n → ¬ mult m c t k < c k) :
    LPF m n a g (val m n t) ∧ LPD m n a c (fun j => sgn g j * mult m c t (n + j)) ∧ (S n fun k => c k * val m n t k) = S m fun j => (sgn g j * mult m c t (n + j)) * g j := by
  refine ⟨⟨fun k hk => S_nonneg fun i hi => ?_, fun j hj => ?_⟩, fun x hx => ?_, ?_⟩
  · have := F i hi
    split <;> grind
  · rw [val_sum (f := a j) hB]
    have e := G.col j hj (n + m) (Nat.le_refl _)
    rw [tab0_hi] at e
    have e2 : (S m fun i => t.e i (n + m) * tab0 m n a g j (t.B i)) = sgn g j * S m fun i => a j (t.B i) * t.e i (n + m) := by
      rw [← S_mul]
      exact S_congr fun i hi => by rw [tab0_lo (hB i hi)]; grind
    rw [e2] at e
    have e3 := sgn_sq g j
    have e4 : sgn g j * (g j * sgn g j) = sgn g j * (sgn g j * S m fun i => a j (t.B i) * t.e i (n + m)) := by rw [e]
    have e5 : sgn g j * (g j * sgn g j) = g j * (sgn g j * sgn g j) := by grind
    have e6 : sgn g j * (sgn g j * S m fun i => a j (t.B i) * t.e i (n + m)) = (sgn g j * sgn g j) * S m fun i => a j (t.B i) * t.e i (n + m) := by grind
    rw [e5, e6, e3] at e4
    grind
  · have e : (S m fun j => (sgn g j * mult m c t (n + j)) * S n fun k => a j k * x k) = S n fun k => mult m c t k * x k := by
      have : (S n fun k => mult m c t k * x k) = S n fun k => S m fun j => mult m c t (n + j) * (tab0 m n a g j k * x k) := S_congr fun k hk => by
        rw [mult_inv G (by omega), ← S_mulr]; exact S_congr fun j _ => by grind
      rw [this, S_comm]
      refine S_congr fun j hj => ?_
      rw [S_mul]
      have : (S n fun k => tab0 m n a g j k * x k) = sgn g j * S n fun k => a j k * x k := by
        rw [← S_mul]; exact S_congr fun k hk => by rw [tab0_lo hk]; grind
      rw [this]; grind
    rw [e]
    refine S_le fun k hk => ?_
    have h1 := h k hk
    exact Rat.mul_le_mul_of_nonneg_right (by grind) (hx k hk)
  · rw [val_sum (f := c) hB]
    show mult m c t (n + m) = _
    rw [mult_inv G (Nat.le_refl _)]
    exact S_congr fun j hj => by rw [tab0_hi]; grind
end
end Dw
namespace Dw
/-! ### the program of a dam that leaks -/
def fset (f : Nat → Rat) (k : Nat) (v : Rat) : Nat → Rat := fun i => if i = k then v else f i
theorem fset_same {f : Nat → Rat} {k : Nat} {v : Rat} : fset f k v k = v := if_pos rfl
theorem fset_ne {f : Nat → Rat} {k i : Nat} {v : Rat} (h : i ≠ k) : fset f k v i = f i := if_neg h
theorem S_fset {n k : Nat} {f x : Nat → Rat} {v : Rat} (hk : k < n) (h0 : f k = 0) : (S n fun i => fset f k v i * x i) = (S n fun i => f i * x i) + v * x k := by
  rw [S_out hk, S_out (f := fun i => f i * x i) hk]
  have : (S n fun i => if i = k then 0 else fset f k v i * x i) = S n fun i => if i = k then 0 else f i * x i := S_congr fun i _ => by
    by_cases q : i = k
    · rw [if_pos q, if_pos q]
    · rw [if_neg q, if_neg q, fset_ne q]
  rw [this, fset_same, h0]
  grind
def segf (s l : Nat) : Nat → Rat := fun k => if s ≤ k ∧ k < s + l then -1 else 0
theorem S_seg {s l : Nat} {x : Nat → Rat} : ∀ {n : Nat}, s + l ≤ n → (S n fun i => segf s l i * x i) = - S l fun i => x (s + i) := by
  intro n h
  obtain ⟨d, rfl⟩ : ∃ d, n = s + l + d := ⟨n - (s + l), by omega⟩
  rw [S_append, S_append]
  have e1 : (S s fun i => segf s l i * x i) = 0 := S_z fun i hi => by
    have : segf s l i = 0 := if_neg (by omega)
    rw [this]; grind
  have e2 : (S d fun i => segf s l (s + l + i) * x (s + l + i)) = 0 := S_z fun i hi => by
    have : segf s l (s + l + i) = 0 := if_neg (by omega)
    rw [this]; grind
  have e3 : (S l fun i => segf s l (s + i) * x (s + i)) = S l fun i => - x (s + i) := S_congr fun i hi => by
    have : segf s l (s + i) = -1 := if_pos (by omega)
    rw [this]; grind
  rw [e1, e2, e3, S_neg]
  grind
def two (i k : Nat) (v : Rat) : Nat → Rat := fset (fset (fun _ => 0) i 1) k v
theorem S_two {n i k : Nat} {v : Rat} {x : Nat → Rat} (hi : i < n) (hk : k < n) (hne : k ≠ i) : (S n fun q => two i k v q * x q) = x i + v * x k := by
  unfold two
  rw [S_fset hk (fset_ne hne), S_fset hi rfl, S_z fun _ _ => by grind]
  grind
structure Dt where
  M : Nat
  len : Nat → Nat
  am : Nat → Rat
  pr : Nat → Rat
  cap : Rat
  en : Rat
  str : Rat
  kept : Rat
  inf : Nat → Rat
namespace Dt
variable (d : Dt)
def st : Nat → Nat
  | 0 => 0
  | j + 1 => st j + d.len j
def cnt : Nat := d.st d.M
def e : Nat := if 0 < d.en then 1 else 0
def rows : Nat := d.M + (d.cnt + d.M) + d.e
def cols : Nat := d.cnt + 2 * d.M + (d.cnt + d.M) + d.e
def row2 (j : Nat) : Nat → Rat := fset (fset (segf (d.st j) (d.len j)) (d.cnt + j) (-1)) (d.cnt + d.M + j) (-1)
def rowM (j : Nat) : Nat → Rat := if 0 < j then fset (d.row2 j) (d.cnt + d.M + j - 1) d.kept else d.row2 j
def mcf : Nat → Nat → Nat
  | 0, _ => 0
  | t + 1, i => if i < d.st t + t then mcf t i else if i < d.st t + t + d.len t then i - t else d.cnt + d.M + t
def bf : Nat → Nat → Rat
  | 0, _ => 0
  | t + 1, i => if i < d.st t + t then bf t i else if i < d.st t + t + d.len t then d.am (i - t) else d.cap
def A (j : Nat) : Nat → Rat := if j < d.M then d.rowM j else if j < d.M + (d.cnt + d.M) then two (d.mcf d.M (j - d.M)) (d.cnt + d.M + j) 1 else two (d.cnt + 2 * d.M - 1) (d.cnt + d.M + j) (-1)
def g (j : Nat) : Rat := if j < d.M then - d.inf j - (if j = 0 then d.str else 0) else if j < d.M + (d.cnt + d.M) then d.bf d.M (j - d.M) else d.en / d.kept
def c (k : Nat) : Rat := if k < d.cnt then d.pr k else 0
variable {d}
theorem st_mono {i j : Nat} (h : i ≤ j) : d.st i ≤ d.st j := by
  induction j with
  | zero => have : i = 0 := by omega
            rw [this]; exact Nat.le_refl _
  | succ j ih =>
    by_cases q : i = j + 1
    · rw [q]; exact Nat.le_refl _
    · exact Nat.le_trans (ih (by omega)) (Nat.le_add_right _ _)
theorem st_le {j : Nat} (h : j < d.M) : d.st j + d.len j ≤ d.cnt := st_mono (d := d) (i := j + 1) h
/-- which bound stands at i -/
theorem dec : ∀ (t i : Nat), i < d.st t + t → (∃ m k, m < t ∧ k < d.len m ∧ i = d.st m + m + k ∧ d.mcf t i = d.st m + k ∧ d.bf t i = d.am (d.st m + k)) ∨ (∃ m, m < t ∧ i = d.st (m + 1) + m ∧ d.mcf t i = d.cnt + d.M + m ∧ d.bf t i = d.cap)
  | 0, i, h => by
    have : d.st 0 = 0 := rfl
    omega
  | t + 1, i, h => by
    have e1 : d.mcf (t + 1) i = if i < d.st t + t then d.mcf t i else if i < d.st t + t + d.len t then i - t else d.cnt + d.M + t := rfl
    have e2 : d.bf (t + 1) i = if i < d.st t + t then d.bf t i else if i < d.st t + t + d.len t then d.am (i - t) else d.cap := rfl
    have e3 : d.st (t + 1) = d.st t + d.len t := rfl
    by_cases q : i < d.st t + t
    · rw [e1, e2, if_pos q, if_pos q]
      rcases dec t i q with ⟨m, k, h1, h2⟩ | ⟨m, h1, h2⟩
      · exact .inl ⟨m, k, by omega, h2⟩
      · exact .inr ⟨m, by omega, h2⟩
    · rw [e1, e2, if_neg q, if_neg q]
      by_cases q2 : i < d.st t + t + d.len t
      · rw [if_pos q2, if_pos q2]
        refine .inl ⟨t, i - (d.st t + t), by omega, by omega, by omega, by omega, ?_⟩
        have : i - t = d.st t + (i - (d.st t + t)) := by omega
        rw [this]
      · rw [if_neg q2, if_neg q2]
        exact .inr ⟨t, by omega, by omega, rfl, rfl⟩
theorem mcf_lt {i : Nat} (h : i < d.cnt + d.M) : d.mcf d.M i < d.cnt + 2 * d.M := by
  rcases dec (d := d) d.M i h with ⟨m, k, h1, h2, h3, h4, h5⟩ | ⟨m, h1, h2, h3, h4⟩
  · have := st_le h1; omega
  · omega
theorem at_piece : ∀ (t m k : Nat), m < t → k < d.len m → d.mcf t (d.st m + m + k) = d.st m + k ∧ d.bf t (d.st m + m + k) = d.am (d.st m + k)
  | 0, m, k, h, _ => by omega
  | t + 1, m, k, h, hk => by
    have e1 : d.mcf (t + 1) (d.st m + m + k) = if d.st m + m + k < d.st t + t then d.mcf t (d.st m + m + k) else if d.st m + m + k < d.st t + t + d.len t then d.st m + m + k - t else d.cnt + d.M + t := rfl
    have e2 : d.bf (t + 1) (d.st m + m + k) = if d.st m + m + k < d.st t + t then d.bf t (d.st m + m + k) else if d.st m + m + k < d.st t + t + d.len t then d.am (d.st m + m + k - t) else d.cap := rfl
    rw [e1, e2]
    by_cases q : m = t
    · subst q
      rw [if_neg (by omega), if_pos (by omega), if_neg (by omega), if_pos (by omega)]
      have : d.st m + m + k - m = d.st m + k := by omega
      rw [this]; exact ⟨rfl, rfl⟩
    · have : d.st (m + 1) ≤ d.st t := st_mono (by omega)
      have e3 : d.st (m + 1) = d.st m + d.len m := rfl
      rw [if_pos (by omega), if_pos (by omega)]
      exact at_piece t m k (by omega) hk
theorem at_held : ∀ (t m : Nat), m < t → d.mcf t (d.st (m + 1) + m) = d.cnt + d.M + m ∧ d.bf t (d.st (m + 1) + m) = d.cap
  | 0, m, h => by omega
  | t + 1, m, h => by
    have e1 : d.mcf (t + 1) (d.st (m + 1) + m) = if d.st (m + 1) + m < d.st t + t then d.mcf t (d.st (m + 1) + m) else if d.st (m + 1) + m < d.st t + t + d.len t then d.st (m + 1) + m - t else d.cnt + d.M + t := rfl
    have e2 : d.bf (t + 1) (d.st (m + 1) + m) = if d.st (m + 1) + m < d.st t + t then d.bf t (d.st (m + 1) + m) else if d.st (m + 1) + m < d.st t + t + d.len t then d.am (d.st (m + 1) + m - t) else d.cap := rfl
    have e3 : d.st (m + 1) = d.st m + d.len m := rfl
    rw [e1, e2]
    by_cases q : m = t
    · subst q
      rw [if_neg (by omega), if_neg (by omega), if_neg (by omega), if_neg (by omega)]
      exact ⟨rfl, rfl⟩
    · have : d.st (m + 1) ≤ d.st t := st_mono (by omega)
      rw [if_pos (by omega), if_pos (by omega)]
      exact at_held t m (by omega)
theorem e_of (h : 0 < d.en) : d.e = 1 := if_pos h
theorem e_not (h : ¬ 0 < d.en) : d.e = 0 := if_neg h
theorem row2_dot {j : Nat} (h : j < d.M) (x : Nat → Rat) : (S d.cols fun k => d.row2 j k * x k) = - (S (d.len j) fun i => x (d.st j + i)) - x (d.cnt + j) - x (d.cnt + d.M + j) := by
  have h1 := st_le h
  have hc : d.cnt + 2 * d.M ≤ d.cols := by unfold cols; omega
  have f0 : segf (d.st j) (d.len j) (d.cnt + j) = 0 := if_neg (by omega)
  have f1 : fset (segf (d.st j) (d.len j)) (d.cnt + j) (-1) (d.cnt + d.M + j) = 0 := by rw [fset_ne (by omega)]; exact if_neg (by omega)
  unfold row2
  rw [S_fset (by omega) f1, S_fset (by omega) f0, S_seg (by omega)]
  grind
theorem rowM_dot {j : Nat} (h : j < d.M) (x : Nat → Rat) : (S d.cols fun k => d.rowM j k * x k) = - (S (d.len j) fun i => x (d.st j + i)) - x (d.cnt + j) - x (d.cnt + d.M + j) + (if 0 < j then d.kept * x (d.cnt + d.M + j - 1) else 0) := by
  have h1 := st_le h
  have hc : d.cnt + 2 * d.M ≤ d.cols := by unfold cols; omega
  unfold rowM
  by_cases q : 0 < j
  · rw [if_pos q, if_pos q]
    have f2 : d.row2 j (d.cnt + d.M + j - 1) = 0 := by
      unfold row2
      rw [fset_ne (by omega), fset_ne (by omega)]; exact if_neg (by omega)
    rw [S_fset (by omega) f2, row2_dot h]
  · rw [if_neg q, if_neg q, row2_dot h]
    grind
/-- the equations, read -/
structure Fl (d : Dt) (x : Nat → Rat) : Prop where
  bal : ∀ j, j < d.M → (S (d.len j) fun i => x (d.st j + i)) + x (d.cnt + j) + x (d.cnt + d.M + j) = d.inf j + (if j = 0 then d.str else 0) + (if 0 < j then d.kept * x (d.cnt + d.M + j - 1) else 0)
  sl : ∀ i, i < d.cnt + d.M → x (d.mcf d.M i) + x (d.cnt + 2 * d.M + i) = d.bf d.M i
  en : 0 < d.en → x (d.cnt + 2 * d.M - 1) - x (d.cnt + 2 * d.M + (d.cnt + d.M)) = d.en / d.kept
theorem dotM {j : Nat} (h : j < d.M) (x : Nat → Rat) : (S d.cols fun k => d.A j k * x k) = - (S (d.len j) fun i => x (d.st j + i)) - x (d.cnt + j) - x (d.cnt + d.M + j) + (if 0 < j then d.kept * x (d.cnt + d.M + j - 1) else 0) := by
  have : d.A j = d.rowM j := if_pos h
  rw [this, rowM_dot h]
theorem dotS {i : Nat} (h : i < d.cnt + d.M) (x : Nat → Rat) : (S d.cols fun k => d.A (d.M + i) k * x k) = x (d.mcf d.M i) + x (d.cnt + 2 * d.M + i) := by
  have e1 : d.A (d.M + i) = two (d.mcf d.M i) (d.cnt + 2 * d.M + i) 1 := by
    unfold A
    rw [if_neg (by omega), if_pos (by omega)]
    have : d.M + i - d.M = i := by omega
    rw [this]
    congr 1
    omega
  have h1 := mcf_lt h
  rw [e1, S_two (by unfold cols; omega) (by unfold cols; omega) (by omega)]
  grind
theorem dotE (h : 0 < d.en) (h0 : 0 < d.M) (x : Nat → Rat) : (S d.cols fun k => d.A (d.M + (d.cnt + d.M)) k * x k) = x (d.cnt + 2 * d.M - 1) - x (d.cnt + 2 * d.M + (d.cnt + d.M)) := by
  have e1 : d.A (d.M + (d.cnt + d.M)) = two (d.cnt + 2 * d.M - 1) (d.cnt + 2 * d.M + (d.cnt + d.M)) (-1) := by
    unfold A
    rw [if_neg (by omega), if_neg (by omega)]
    congr 1
    omega
  have := e_of h
  rw [e1, S_two (by unfold cols; omega) (by unfold cols; omega) (by omega)]
  grind
theorem gM {j : Nat} (h : j < d.M) : d.g j = - d.inf j - (if j = 0 then d.str else 0) := if_pos h
theorem gS {i : Nat} (h : i < d.cnt + d.M) : d.g (d.M + i) = d.bf d.M i := by
  unfold g
  rw [if_neg (by omega), if_pos (by omega)]
  have : d.M + i - d.M = i := by omega
  rw [this]
theorem gE : d.g (d.M + (d.cnt + d.M)) = d.en / d.kept := by
  unfold g
  rw [if_neg (by omega), if_neg (by omega)]
/-- the kinds of rows -/
theorem rows_cases {j : Nat} (h : j < d.rows) : j < d.M ∨ (∃ i, i < d.cnt + d.M ∧ j = d.M + i) ∨ (0 < d.en ∧ j = d.M + (d.cnt + d.M)) := by
  unfold rows at h
  by_cases q : j < d.M
  · exact .inl q
  · by_cases q2 : j < d.M + (d.cnt + d.M)
    · exact .inr (.inl ⟨j - d.M, by omega, by omega⟩)
    · by_cases q3 : 0 < d.en
      · have := e_of q3
        exact .inr (.inr ⟨q3, by omega⟩)
      · have := e_not q3
        omega
theorem lpf_iff (h0 : 0 < d.M) (x : Nat → Rat) : LPF d.rows d.cols d.A d.g x ↔ (∀ k, k < d.cols → 0 ≤ x k) ∧ Fl d x := by
  constructor
  · rintro ⟨hx, he⟩
    refine ⟨hx, ⟨fun j hj => ?_, fun i hi => ?_, fun h => ?_⟩⟩
    · have := he j (by unfold rows; omega)
      rw [dotM hj, gM hj] at this
      grind
    · have := he (d.M + i) (by unfold rows; omega)
      rw [dotS hi, gS hi] at this
      exact this
    · have e1 := e_of h
      have := he (d.M + (d.cnt + d.M)) (by unfold rows; omega)
      rw [dotE h h0, gE] at this
      exact this
  · rintro ⟨hx, F⟩
    refine ⟨hx, fun j hj => ?_⟩
    rcases rows_cases hj with h | ⟨i, hi, rfl⟩ | ⟨h, rfl⟩
    · have := F.bal j h
      rw [dotM h, gM h]
      grind
    · rw [dotS hi, gS hi]; exact F.sl i hi
    · rw [dotE h h0, gE]; exact F.en h
theorem lpb (h0 : 0 < d.M) : LPB d.rows d.cols d.A d.c := by
  intro x hx he
  have hz : ∀ k, k < d.cnt → x k = 0 := fun k hk => by
    -- the piece's own bound
    obtain ⟨m, q, hm, hq, e⟩ : ∃ m q, m < d.M ∧ q < d.len m ∧ k = d.st m + q := by
      have : ∀ t, k < d.st t → ∃ m q, m < t ∧ q < d.len m ∧ k = d.st m + q := by
        intro t
        induction t with
        | zero => intro h; exact absurd h (Nat.not_lt_zero _)
        | succ t ih =>
          intro h
          by_cases c : k < d.st t
          · obtain ⟨m, q, h1, h2⟩ := ih c
            exact ⟨m, q, by omega, h2⟩
          · have : d.st (t + 1) = d.st t + d.len t := rfl
            exact ⟨t, k - d.st t, by omega, by omega, by omega⟩
      exact this d.M hk
    have hi : d.st m + m + q < d.cnt + d.M := by have := st_le hm; omega
    have h1 := he (d.M + (d.st m + m + q)) (by unfold rows; omega)
    rw [dotS hi, (at_piece d.M m q hm hq).1, ← e] at h1
    have h2 := hx k (by unfold cols; omega)
    have h3 := hx (d.cnt + 2 * d.M + (d.st m + m + q)) (by unfold cols; omega)
    grind
  have : (S d.cols fun k => d.c k * x k) = 0 := S_z fun k hk => by
    unfold c
    by_cases q : k < d.cnt
    · rw [hz k q]; grind
    · rw [if_neg q]; grind
  rw [this]; exact Rat.le_refl
end Dt
end Dw
namespace Dw
/-! ### what the answers of the program of a dam are -/
def max0 (q : Rat) : Rat := if 0 < q then q else 0
theorem max0_ge (q : Rat) : q ≤ max0 q := by unfold max0; split <;> grind
theorem max0_nn (q : Rat) : 0 ≤ max0 q := by unfold max0; split <;> grind
theorem mul_nn {a b : Rat} (ha : 0 ≤ a) (hb : 0 ≤ b) : 0 ≤ a * b := Rat.mul_nonneg ha hb
theorem mul_le_l {a b c : Rat} (h : b ≤ c) (ha : 0 ≤ a) : a * b ≤ a * c := Rat.mul_le_mul_of_nonneg_left h ha
namespace Dt
/-- what is worth a month's water -/
def shr (d : Dt) (q : Nat) (rest : Rat) : Rat := if rest < d.am q then rest else d.am q
def mw (d : Dt) (s : Nat) (r : Rat) : Nat → Rat × Rat
  | 0 => (0, r)
  | k + 1 => ((mw d s r k).1 + d.shr (s + k) (mw d s r k).2 * d.pr (s + k), (mw d s r k).2 - d.shr (s + k) (mw d s r k).2)
def hl (d : Dt) (r : Nat → Rat) : Nat → Rat
  | 0 => d.str
  | k + 1 => d.kept * (hl d r k + (d.inf k + - r k))
def gh (d : Dt) : Nat → Rat
  | 0 => d.str
  | k + 1 => d.kept * (if d.cap < gh d k + d.inf k then d.cap else gh d k + d.inf k)
def bterm (d : Dt) (l : Nat → Rat) (k : Nat) : Rat := d.inf k * l k + (S (d.len k) fun i => d.am (d.st k + i) * max0 (d.pr (d.st k + i) - l k)) + (if 0 < k then d.cap * max0 (d.kept * l k - l (k - 1)) else 0)
def bound (d : Dt) (l : Nat → Rat) : Rat := d.str * l 0 + - d.en / d.kept * l (d.M - 1) + S d.M fun k => d.bterm l k
structure Ok (d : Dt) : Prop where
  M0 : 0 < d.M
  cap0 : 0 ≤ d.cap
  en0 : 0 ≤ d.en
  str0 : 0 ≤ d.str
  kept0 : 0 < d.kept
  am0 : ∀ j, j < d.M → ∀ k, k < d.len j → 0 ≤ d.am (d.st j + k)
  pr0 : ∀ j, j < d.M → ∀ k, k < d.len j → 0 ≤ d.pr (d.st j + k)
  inf0 : ∀ j, j < d.M → 0 ≤ d.inf j
  desc : ∀ j, j < d.M → ∀ i k, i ≤ k → k < d.len j → d.pr (d.st j + k) ≤ d.pr (d.st j + i)
variable {d : Dt}
theorem shr_le {q : Nat} {rest : Rat} : d.shr q rest ≤ d.am q ∧ d.shr q rest ≤ rest := by
  unfold shr; split <;> grind
theorem shr_nn {q : Nat} {rest : Rat} (h : 0 ≤ d.am q) (hr : 0 ≤ rest) : 0 ≤ d.shr q rest := by
  unfold shr; split <;> grind
theorem mw_le {s : Nat} {r l : Rat} (hl : 0 ≤ l) (hr : 0 ≤ r) : ∀ k, (∀ i, i < k → 0 ≤ d.am (s + i)) → (d.mw s r k).1 ≤ l * (r - (d.mw s r k).2) + (S k fun i => d.am (s + i) * max0 (d.pr (s + i) - l)) ∧ 0 ≤ (d.mw s r k).2
  | 0, _ => by
    show (0 : Rat) ≤ l * (r - r) + S 0 _ ∧ 0 ≤ r
    rw [S_zero]
    exact ⟨by grind, hr⟩
  | k + 1, ha => by
    obtain ⟨h1, h2⟩ := mw_le hl hr k (fun i hi => ha i (by omega))
    have a0 := ha k (by omega)
    obtain ⟨s1, s2⟩ := @shr_le d (s + k) (d.mw s r k).2
    have s0 := shr_nn a0 h2
    show (d.mw s r k).1 + d.shr (s + k) (d.mw s r k).2 * d.pr (s + k) ≤ l * (r - ((d.mw s r k).2 - d.shr (s + k) (d.mw s r k).2)) + _ ∧ 0 ≤ (d.mw s r k).2 - d.shr (s + k) (d.mw s r k).2
    rw [S_succ]
    generalize d.shr (s + k) (d.mw s r k).2 = sh at *
    generalize (d.mw s r k).2 = rest at *
    generalize (d.mw s r k).1 = fo at *
    have m1 : sh * (d.pr (s + k) - l) ≤ sh * max0 (d.pr (s + k) - l) := mul_le_l (max0_ge _) s0
    have m2 : sh * max0 (d.pr (s + k) - l) ≤ d.am (s + k) * max0 (d.pr (s + k) - l) := Rat.mul_le_mul_of_nonneg_right s1 (max0_nn _)
    exact ⟨by grind, by grind⟩
theorem mw_ge {s : Nat} {r : Rat} {p : Nat → Rat} {n : Nat} (hp : ∀ i, i < n → 0 ≤ p i ∧ p i ≤ d.am (s + i)) (hpr : ∀ i, i < n → 0 ≤ d.pr (s + i)) (hd : ∀ i k, i ≤ k → k < n → d.pr (s + k) ≤ d.pr (s + i)) (hs : S n p ≤ r) :
    ∀ k, k ≤ n → (S k p ≤ r - (d.mw s r k).2) ∧ (∀ P, 0 ≤ P → (∀ i, i < k → P ≤ d.pr (s + i)) → P * ((r - (d.mw s r k).2) - S k p) ≤ (d.mw s r k).1 - S k fun i => d.pr (s + i) * p i)
  | 0, _ => by
    rw [S_zero]
    refine ⟨by show (0 : Rat) ≤ r - r; grind, fun P _ _ => ?_⟩
    rw [S_zero]
    show P * (r - r - 0) ≤ 0 - 0
    grind
  | k + 1, hk => by
    obtain ⟨h1, h2⟩ := mw_ge hp hpr hd hs k (by omega)
    obtain ⟨s1, s2⟩ := @shr_le d (s + k) (d.mw s r k).2
    obtain ⟨p0, p1⟩ := hp k (by omega)
    have pk := hpr k (by omega)
    -- the pieces up to here are no more than r
    have hle : S (k + 1) p ≤ r := by
      refine Rat.le_trans ?_ hs
      obtain ⟨dd, e⟩ : ∃ dd, n = k + 1 + dd := ⟨n - (k + 1), by omega⟩
      rw [e, S_append (n := k + 1) (m := dd)]
      have t : 0 ≤ S dd fun i => p (k + 1 + i) := S_nonneg fun i hi => (hp _ (by omega)).1
      have t2 := (Rat.add_le_add_left (c := S (k + 1) p)).mpr t
      rw [Rat.add_zero] at t2
      exact t2
    rw [S_succ] at hle ⊢
    have case : d.shr (s + k) (d.mw s r k).2 = (d.mw s r k).2 ∨ p k ≤ d.shr (s + k) (d.mw s r k).2 := by
      unfold shr
      by_cases q : (d.mw s r k).2 < d.am (s + k)
      · left; rw [if_pos q]
      · right; rw [if_neg q]; exact p1
    show S k p + p k ≤ r - ((d.mw s r k).2 - d.shr (s + k) (d.mw s r k).2) ∧ ∀ P, 0 ≤ P → (∀ i, i < k + 1 → P ≤ d.pr (s + i)) → P * (r - ((d.mw s r k).2 - d.shr (s + k) (d.mw s r k).2) - (S k p + p k)) ≤ (d.mw s r k).1 + d.shr (s + k) (d.mw s r k).2 * d.pr (s + k) - _
    generalize d.shr (s + k) (d.mw s r k).2 = sh at *
    generalize (d.mw s r k).2 = rest at *
    generalize (d.mw s r k).1 = fo at *
    have g1 : S k p + p k ≤ r - (rest - sh) := by
      rcases case with c | c <;> grind
    refine ⟨g1, fun P hP hPi => ?_⟩
    rw [S_succ]
    have hPk := hPi k (by omega)
    have h3 := h2 (d.pr (s + k)) pk (fun i hi => hd i k (by omega) (by omega))
    have h4 : 0 ≤ (d.pr (s + k) - P) * (r - (rest - sh) - (S k p + p k)) := mul_nn (by grind) (by grind)
    grind
theorem S_st {f : Nat → Rat} : ∀ t, S (d.st t) f = S t fun m => S (d.len m) fun q => f (d.st m + q)
  | 0 => rfl
  | t + 1 => by
    have : d.st (t + 1) = d.st t + d.len t := rfl
    rw [this, S_append, S_succ, S_st t]
section
variable {x y : Nat → Rat}
def rel (d : Dt) (x : Nat → Rat) (j : Nat) : Rat := (S (d.len j) fun i => x (d.st j + i)) + x (d.cnt + j)
theorem held_eq (F : Fl d x) : ∀ j, j < d.M → d.hl (d.rel x) j + (d.inf j + - d.rel x j) = x (d.cnt + d.M + j)
  | 0, h => by
    have := F.bal 0 h
    show d.str + (d.inf 0 + - d.rel x 0) = _
    unfold rel
    rw [if_pos rfl, if_neg (by omega)] at this
    grind
  | j + 1, h => by
    have h1 := held_eq F j (by omega)
    have := F.bal (j + 1) h
    show d.kept * (d.hl (d.rel x) j + (d.inf j + - d.rel x j)) + (d.inf (j + 1) + - d.rel x (j + 1)) = _
    rw [h1]
    have e : d.cnt + d.M + (j + 1) - 1 = d.cnt + d.M + j := by omega
    rw [if_neg (by omega), if_pos (by omega), e] at this
    unfold rel
    grind
theorem piece_le (F : Fl d x) (hx : ∀ k, k < d.cols → 0 ≤ x k) {m q : Nat} (hm : m < d.M) (hq : q < d.len m) : 0 ≤ x (d.st m + q) ∧ x (d.st m + q) ≤ d.am (d.st m + q) := by
  have h0 := st_le hm
  have h1 := F.sl (d.st m + m + q) (by omega)
  obtain ⟨e1, e2⟩ := at_piece d.M m q hm hq
  rw [e1, e2] at h1
  have h2 := hx (d.cnt + 2 * d.M + (d.st m + m + q)) (by unfold cols; omega)
  have h3 := hx (d.st m + q) (by unfold cols; omega)
  exact ⟨h3, by grind⟩
theorem held_le (F : Fl d x) (hx : ∀ k, k < d.cols → 0 ≤ x k) {m : Nat} (hm : m < d.M) : 0 ≤ x (d.cnt + d.M + m) ∧ x (d.cnt + d.M + m) ≤ d.cap := by
  have h0 := st_le hm
  have e3 : d.st (m + 1) = d.st m + d.len m := rfl
  have h1 := F.sl (d.st (m + 1) + m) (by omega)
  obtain ⟨e1, e2⟩ := at_held (d := d) d.M m hm
  rw [e1, e2] at h1
  have h2 := hx (d.cnt + 2 * d.M + (d.st (m + 1) + m)) (by unfold cols; omega)
  have h3 := hx (d.cnt + d.M + m) (by unfold cols; omega)
  exact ⟨h3, by grind⟩
theorem rel_nn (hx : ∀ k, k < d.cols → 0 ≤ x k) {j : Nat} (hj : j < d.M) : 0 ≤ d.rel x j := by
  have h0 := st_le hj
  unfold rel
  have : 0 ≤ S (d.len j) fun i => x (d.st j + i) := S_nonneg fun i hi => hx _ (by unfold cols; omega)
  have := hx (d.cnt + j) (by unfold cols; omega)
  grind
theorem mul_div_k {a k : Rat} (h : 0 < k) : k * (a / k) = a := by
  rw [Rat.mul_comm, Rat.div_mul_cancel (by grind)]
theorem end_le (O : Ok d) (F : Fl d x) (hx : ∀ k, k < d.cols → 0 ≤ x k) : d.en / d.kept ≤ x (d.cnt + d.M + (d.M - 1)) := by
  have e : d.cnt + 2 * d.M - 1 = d.cnt + d.M + (d.M - 1) := by have := O.M0; omega
  by_cases h : 0 < d.en
  · have h1 := F.en h
    have h2 := hx (d.cnt + 2 * d.M + (d.cnt + d.M)) (by have := e_of h; unfold cols; omega)
    rw [e] at h1
    grind
  · have h1 : d.en = 0 := by have := O.en0; grind
    have h2 := (held_le F hx (m := d.M - 1) (by have := O.M0; omega)).1
    rw [h1, Rat.div_def, Rat.zero_mul]
    exact h2
theorem end_ok (O : Ok d) (F : Fl d x) (hx : ∀ k, k < d.cols → 0 ≤ x k) : d.en ≤ d.hl (d.rel x) d.M := by
  have m0 := O.M0
  have h1 := end_le O F hx
  have h2 := held_eq F (d.M - 1) (by omega)
  have h3 : d.hl (d.rel x) d.M = d.kept * (d.hl (d.rel x) (d.M - 1) + (d.inf (d.M - 1) + - d.rel x (d.M - 1))) := by
    have : d.M = (d.M - 1) + 1 := by omega
    conv => lhs; rw [this]
    rfl
  rw [h3, h2]
  have h4 := mul_le_l h1 (by have := O.kept0; grind : 0 ≤ d.kept)
  rw [mul_div_k O.kept0] at h4
  exact h4
theorem neg_div_r {a b : Rat} : - a / b = - (a / b) := by rw [Rat.div_def, Rat.div_def, Rat.neg_mul]
/-- no plan is worth more than a bound -/
theorem weak (O : Ok d) (F : Fl d x) (hx : ∀ k, k < d.cols → 0 ≤ x k) {l : Nat → Rat} (hl : ∀ j, j < d.M → 0 ≤ l j) : (S d.M fun j => (d.mw (d.st j) (d.rel x j) (d.len j)).1) ≤ d.bound l := by
  have m0 := O.M0
  have key : ∀ t, t ≤ d.M → (S t fun j => l j * d.rel x j) + (if 0 < t then l (t - 1) * x (d.cnt + d.M + (t - 1)) else 0) ≤ (if 0 < t then d.str * l 0 else 0) + S t fun j => d.inf j * l j + (if 0 < j then d.cap * max0 (d.kept * l j - l (j - 1)) else 0) := by
    intro t
    induction t with
    | zero => intro _; rw [S_zero, S_zero, if_neg (by omega), if_neg (by omega)]; exact Rat.le_refl
    | succ t ih =>
      intro ht
      have ih := ih (by omega)
      rw [S_succ, S_succ, if_pos (by omega), if_pos (by omega)]
      have hb := F.bal t (by omega)
      have e : t + 1 - 1 = t := by omega
      rw [e]
      have er : d.rel x t = (S (d.len t) fun i => x (d.st t + i)) + x (d.cnt + t) := rfl
      by_cases q : t = 0
      · subst q
        rw [if_neg (by omega), if_neg (by omega), S_zero, S_zero] at ih
        rw [if_pos rfl, if_neg (by omega)] at hb
        rw [if_neg (by omega), S_zero, S_zero, er]
        have : l 0 * ((S (d.len 0) fun i => x (d.st 0 + i)) + x (d.cnt + 0)) = l 0 * (d.inf 0 + d.str - x (d.cnt + d.M + 0)) := by congr 1; grind
        grind
      · rw [if_pos (by omega), if_pos (by omega)] at ih
        rw [if_neg q, if_pos (by omega)] at hb
        rw [if_pos (by omega), er]
        obtain ⟨h0, h1⟩ := held_le F hx (m := t - 1) (by omega)
        have e2 : d.cnt + d.M + t - 1 = d.cnt + d.M + (t - 1) := by omega
        rw [e2] at hb
        have : l t * ((S (d.len t) fun i => x (d.st t + i)) + x (d.cnt + t)) = l t * (d.inf t + d.kept * x (d.cnt + d.M + (t - 1)) - x (d.cnt + d.M + t)) := by congr 1; grind
        have m1 : x (d.cnt + d.M + (t - 1)) * (d.kept * l t - l (t - 1)) ≤ x (d.cnt + d.M + (t - 1)) * max0 (d.kept * l t - l (t - 1)) := mul_le_l (max0_ge _) h0
        have m2 : x (d.cnt + d.M + (t - 1)) * max0 (d.kept * l t - l (t - 1)) ≤ d.cap * max0 (d.kept * l t - l (t - 1)) := Rat.mul_le_mul_of_nonneg_right h1 (max0_nn _)
        grind
  have k1 := key d.M (Nat.le_refl _)
  rw [if_pos m0, if_pos m0] at k1
  have k2 := mul_le_l (end_le O F hx) (hl (d.M - 1) (by omega))
  have k3 : (S d.M fun j => (d.mw (d.st j) (d.rel x j) (d.len j)).1) ≤ S d.M fun j => l j * d.rel x j + S (d.len j) fun i => d.am (d.st j + i) * max0 (d.pr (d.st j + i) - l j) := S_le fun j hj => by
    obtain ⟨h1, h2⟩ := mw_le (d := d) (s := d.st j) (r := d.rel x j) (hl j hj) (rel_nn hx hj) (d.len j) (O.am0 j hj)
    have := mul_nn (hl j hj) h2
    grind
  rw [S_add] at k3
  unfold bound
  have k4 : (S d.M fun k => d.bterm l k) = (S d.M fun j => d.inf j * l j + (if 0 < j then d.cap * max0 (d.kept * l j - l (j - 1)) else 0)) + S d.M fun j => S (d.len j) fun i => d.am (d.st j + i) * max0 (d.pr (d.st j + i) - l j) := by
    rw [← S_add]; exact S_congr fun j _ => by unfold bterm; grind
  rw [k4, neg_div_r]
  grind
/-- the worth is no less than the program's -/
theorem worth_ge (O : Ok d) (F : Fl d x) (hx : ∀ k, k < d.cols → 0 ≤ x k) : (S d.cols fun k => d.c k * x k) ≤ S d.M fun j => (d.mw (d.st j) (d.rel x j) (d.len j)).1 := by
  have e1 : (S d.cols fun k => d.c k * x k) = S d.cnt fun k => d.pr k * x k := by
    obtain ⟨dd, e⟩ : ∃ dd, d.cols = d.cnt + dd := ⟨d.cols - d.cnt, by unfold cols; omega⟩
    rw [e, S_append]
    have : (S dd fun i => d.c (d.cnt + i) * x (d.cnt + i)) = 0 := S_z fun i _ => by
      have : d.c (d.cnt + i) = 0 := if_neg (by omega)
      rw [this]; grind
    rw [this]
    have : (S d.cnt fun k => d.c k * x k) = S d.cnt fun k => d.pr k * x k := S_congr fun k hk => by
      have : d.c k = d.pr k := if_pos hk
      rw [this]
    rw [this]; grind
  rw [e1]
  unfold cnt
  rw [S_st]
  refine S_le fun j hj => ?_
  have hs : (S (d.len j) fun i => x (d.st j + i)) ≤ d.rel x j := by
    have := hx (d.cnt + j) (by unfold cols; omega)
    unfold rel; grind
  obtain ⟨_, h2⟩ := mw_ge (d := d) (s := d.st j) (r := d.rel x j) (p := fun i => x (d.st j + i)) (n := d.len j) (fun i hi => piece_le F hx hj hi) (O.pr0 j hj) (O.desc j hj) hs (d.len j) (Nat.le_refl _)
  have := h2 0 Rat.le_refl (fun i hi => O.pr0 j hj i hi)
  grind
/-! the prices -/
theorem colW {j j' : Nat} (hj : j < d.M) (hj' : j' < d.rows) : d.A j' (d.cnt + j) = if j' = j then -1 else 0 := by
  rcases rows_cases hj' with h | ⟨i, hi, rfl⟩ | ⟨h, rfl⟩
  · have h1 := st_le h
    have e1 : d.A j' = d.rowM j' := if_pos h
    rw [e1]
    have e2 : d.row2 j' (d.cnt + j) = if j' = j then -1 else 0 := by
      unfold row2
      rw [fset_ne (by omega)]
      by_cases q : j' = j
      · rw [if_pos q, q, fset_same]
      · rw [if_neg q, fset_ne (by omega)]; exact if_neg (by omega)
    unfold rowM
    by_cases q : 0 < j'
    · rw [if_pos q, fset_ne (by omega), e2]
    · rw [if_neg q, e2]
  · have e1 : d.A (d.M + i) = two (d.mcf d.M i) (d.cnt + d.M + (d.M + i)) 1 := by
      unfold A
      rw [if_neg (by omega), if_pos (by omega)]
      have : d.M + i - d.M = i := by omega
      rw [this]
    have : d.cnt + j ≠ d.mcf d.M i := by
      rcases dec (d := d) d.M i hi with ⟨m, k, h1, h2, h3, h4, h5⟩ | ⟨m, h1, h2, h3, h4⟩
      · have := st_le h1; omega
      · omega
    rw [e1, if_neg (by omega)]
    unfold two
    rw [fset_ne (by omega), fset_ne this]
  · have e1 : d.A (d.M + (d.cnt + d.M)) = two (d.cnt + 2 * d.M - 1) (d.cnt + d.M + (d.M + (d.cnt + d.M))) (-1) := by
      unfold A
      rw [if_neg (by omega), if_neg (by omega)]
    rw [e1, if_neg (by omega)]
    unfold two
    rw [fset_ne (by omega), fset_ne (by omega)]
theorem colS {i j' : Nat} (hi : d.M + i < d.rows) (hj' : j' < d.rows) : (j' ≠ d.M + i → d.A j' (d.cnt + 2 * d.M + i) = 0) ∧ d.A (d.M + i) (d.cnt + 2 * d.M + i) ≠ 0 := by
  constructor
  · intro hne
    rcases rows_cases hj' with h | ⟨i', hi', rfl⟩ | ⟨h, rfl⟩
    · have h1 := st_le h
      have e1 : d.A j' = d.rowM j' := if_pos h
      rw [e1]
      have e2 : d.row2 j' (d.cnt + 2 * d.M + i) = 0 := by
        unfold row2
        rw [fset_ne (by omega), fset_ne (by omega)]; exact if_neg (by omega)
      unfold rowM
      by_cases q : 0 < j'
      · rw [if_pos q, fset_ne (by omega), e2]
      · rw [if_neg q, e2]
    · have e1 : d.A (d.M + i') = two (d.mcf d.M i') (d.cnt + d.M + (d.M + i')) 1 := by
        unfold A
        rw [if_neg (by omega), if_pos (by omega)]
        have : d.M + i' - d.M = i' := by omega
        rw [this]
      have := mcf_lt hi'
      rw [e1]
      unfold two
      rw [fset_ne (by omega), fset_ne (by omega)]
    · have e1 : d.A (d.M + (d.cnt + d.M)) = two (d.cnt + 2 * d.M - 1) (d.cnt + d.M + (d.M + (d.cnt + d.M))) (-1) := by
        unfold A
        rw [if_neg (by omega), if_neg (by omega)]
      rw [e1]
      unfold two
      rw [fset_ne (by omega), fset_ne (by unfold rows at hi; omega)]
  · have e : d.cnt + 2 * d.M + i = d.cnt + d.M + (d.M + i) := by omega
    have : d.A (d.M + i) (d.cnt + 2 * d.M + i) = if i < d.cnt + d.M then 1 else -1 := by
      unfold A
      rw [if_neg (by omega)]
      by_cases q : i < d.cnt + d.M
      · rw [if_pos (by omega), if_pos q, e]; exact fset_same
      · rw [if_neg (by omega), if_neg q, e]; exact fset_same
    rw [this]
    split <;> grind
theorem price_nn (D : LPD d.rows d.cols d.A d.c y) {j : Nat} (hj : j < d.M) : 0 ≤ 0 - y j := by
  have h := D (fun k => if k = d.cnt + j then 1 else 0) fun k _ => by
    show 0 ≤ if k = d.cnt + j then (1 : Rat) else 0
    split <;> grind
  have hc : d.cnt + j < d.cols := by unfold cols; omega
  have hcol : ∀ f : Nat → Rat, (S d.cols fun k => f k * (if k = d.cnt + j then (1 : Rat) else 0)) = f (d.cnt + j) := fun f => by
    rw [S_one (j := d.cnt + j) hc fun i _ hi => by rw [if_neg hi]; grind, if_pos rfl]; grind
  rw [hcol, S_congr (g := fun j' => y j' * d.A j' (d.cnt + j)) fun j' _ => by rw [hcol]] at h
  have hr : j < d.rows := by unfold rows; omega
  rw [S_one (j := j) hr fun i hi hne => by rw [colW hj hi, if_neg hne]; grind, colW hj hr, if_pos rfl] at h
  have : d.c (d.cnt + j) = 0 := if_neg (by omega)
  rw [this] at h
  grind
/-- the amounts that the prices are measured by -/
def pxf (d : Dt) (l : Nat → Rat) : Nat → Nat → Rat
  | 0, _ => 0
  | t + 1, k => if k < d.st t then pxf d l t k else if 0 < d.pr k - l t then d.am k else 0
theorem pxf_at {l : Nat → Rat} : ∀ (t m q : Nat), m < t → q < d.len m → d.pxf l t (d.st m + q) = if 0 < d.pr (d.st m + q) - l m then d.am (d.st m + q) else 0
  | 0, m, q, h, _ => by omega
  | t + 1, m, q, h, hq => by
    have e1 : d.pxf l (t + 1) (d.st m + q) = if d.st m + q < d.st t then d.pxf l t (d.st m + q) else if 0 < d.pr (d.st m + q) - l t then d.am (d.st m + q) else 0 := rfl
    rw [e1]
    by_cases c : m = t
    · subst c; rw [if_neg (by omega)]
    · have : d.st (m + 1) ≤ d.st t := st_mono (by omega)
      have e3 : d.st (m + 1) = d.st m + d.len m := rfl
      rw [if_pos (by omega)]
      exact pxf_at t m q (by omega) hq
def hxf (d : Dt) (l : Nat → Rat) (j : Nat) : Rat := if j + 1 < d.M then (if 0 < d.kept * l (j + 1) - l j then d.cap else 0) else d.en / d.kept
def x1 (d : Dt) (P W Hh : Nat → Rat) (k : Nat) : Rat := if k < d.cnt then P k else if k < d.cnt + d.M then W (k - d.cnt) else Hh (k - d.cnt - d.M)
def xs (d : Dt) (P W Hh : Nat → Rat) (k : Nat) : Rat := if k < d.cnt + 2 * d.M then d.x1 P W Hh k else if k < d.cnt + 2 * d.M + (d.cnt + d.M) then d.bf d.M (k - (d.cnt + 2 * d.M)) - d.x1 P W Hh (d.mcf d.M (k - (d.cnt + 2 * d.M))) else Hh (d.M - 1) - d.en / d.kept
section
variable {P W Hh : Nat → Rat}
theorem xs_P {k : Nat} (h : k < d.cnt) : d.xs P W Hh k = P k := by
  unfold xs x1; rw [if_pos (by omega), if_pos h]
theorem xs_W {j : Nat} (h : j < d.M) : d.xs P W Hh (d.cnt + j) = W j := by
  unfold xs x1
  rw [if_pos (by omega), if_neg (by omega), if_pos (by omega)]
  congr 1; omega
theorem xs_H {j : Nat} (h : j < d.M) : d.xs P W Hh (d.cnt + d.M + j) = Hh j := by
  unfold xs x1
  rw [if_pos (by omega), if_neg (by omega), if_neg (by omega)]
  congr 1; omega
theorem xs_S {i : Nat} (h : i < d.cnt + d.M) : d.xs P W Hh (d.mcf d.M i) + d.xs P W Hh (d.cnt + 2 * d.M + i) = d.bf d.M i := by
  have h1 := mcf_lt h
  have e1 : d.xs P W Hh (d.mcf d.M i) = d.x1 P W Hh (d.mcf d.M i) := if_pos h1
  have e2 : d.cnt + 2 * d.M + i - (d.cnt + 2 * d.M) = i := by omega
  have e3 : d.xs P W Hh (d.cnt + 2 * d.M + i) = d.bf d.M i - d.x1 P W Hh (d.mcf d.M i) := by
    unfold xs
    rw [if_neg (by omega), if_pos (by omega), e2]
  rw [e1, e3]; grind
theorem xs_E (h0 : 0 < d.M) : d.xs P W Hh (d.cnt + 2 * d.M - 1) - d.xs P W Hh (d.cnt + 2 * d.M + (d.cnt + d.M)) = d.en / d.kept := by
  have e1 : d.cnt + 2 * d.M - 1 = d.cnt + d.M + (d.M - 1) := by omega
  rw [e1, xs_H (by omega)]
  have : d.xs P W Hh (d.cnt + 2 * d.M + (d.cnt + d.M)) = Hh (d.M - 1) - d.en / d.kept := by
    unfold xs
    rw [if_neg (by omega), if_neg (by omega)]
  rw [this]; grind
theorem xs_nn (hP : ∀ m q, m < d.M → q < d.len m → 0 ≤ P (d.st m + q) ∧ P (d.st m + q) ≤ d.am (d.st m + q)) (hW : ∀ j, j < d.M → 0 ≤ W j) (hH : ∀ j, j < d.M → 0 ≤ Hh j ∧ Hh j ≤ d.cap) (hE : 0 < d.en → d.en / d.kept ≤ Hh (d.M - 1)) (k : Nat) (hk : k < d.cols) : 0 ≤ d.xs P W Hh k := by
  by_cases q1 : k < d.cnt
  · rw [xs_P q1]
    -- its month
    have : ∀ t, k < d.st t → ∃ m q, m < t ∧ q < d.len m ∧ k = d.st m + q := by
      intro t
      induction t with
      | zero => intro h; exact absurd h (Nat.not_lt_zero _)
      | succ t ih =>
        intro h
        by_cases c : k < d.st t
        · obtain ⟨m, q, h1, h2⟩ := ih c
          exact ⟨m, q, by omega, h2⟩
        · have : d.st (t + 1) = d.st t + d.len t := rfl
          exact ⟨t, k - d.st t, by omega, by omega, by omega⟩
    obtain ⟨m, q, h1, h2, h3⟩ := this d.M q1
    rw [h3]; exact (hP m q h1 h2).1
  by_cases q2 : k < d.cnt + d.M
  · obtain ⟨j, rfl⟩ : ∃ j, k = d.cnt + j := ⟨k - d.cnt, by omega⟩
    rw [xs_W (by omega)]; exact hW j (by omega)
  by_cases q3 : k < d.cnt + 2 * d.M
  · obtain ⟨j, rfl⟩ : ∃ j, k = d.cnt + d.M + j := ⟨k - (d.cnt + d.M), by omega⟩
    rw [xs_H (by omega)]; exact (hH j (by omega)).1
  by_cases q4 : k < d.cnt + 2 * d.M + (d.cnt + d.M)
  · obtain ⟨i, rfl⟩ : ∃ i, k = d.cnt + 2 * d.M + i := ⟨k - (d.cnt + 2 * d.M), by omega⟩
    have hi : i < d.cnt + d.M := by omega
    have h1 := xs_S (d := d) (P := P) (W := W) (Hh := Hh) hi
    rcases dec (d := d) d.M i hi with ⟨m, q, a1, a2, a3, a4, a5⟩ | ⟨m, a1, a2, a3, a4⟩
    · have := st_le a1
      rw [a4, a5, xs_P (by omega)] at h1
      have := (hP m q a1 a2).2
      grind
    · rw [a3, a4, xs_H a1] at h1
      have := (hH m a1).2
      grind
  · have : d.xs P W Hh k = Hh (d.M - 1) - d.en / d.kept := by
      unfold xs
      rw [if_neg (by omega), if_neg (by omega)]
    rw [this]
    have h : 0 < d.en := by
      by_cases q : 0 < d.en
      · exact q
      · have := e_not q
        unfold cols at hk
        omega
    have := hE h
    grind
end
theorem bound_le (O : Ok d) (F : Fl d x) (hx : ∀ k, k < d.cols → 0 ≤ x k) (D : LPD d.rows d.cols d.A d.c y) : d.bound (fun j => 0 - y j) ≤ S d.rows fun j => y j * d.g j := by
  have m0 := O.M0
  let l : Nat → Rat := fun j => 0 - y j
  have hcap : d.en / d.kept ≤ d.cap := by
    have h1 := end_le O F hx
    have h2 := (held_le F hx (m := d.M - 1) (by omega)).2
    grind
  have hek : 0 ≤ d.en / d.kept := div_nonneg' O.en0 O.kept0
  have hP : ∀ m q, m < d.M → q < d.len m → 0 ≤ d.pxf l d.M (d.st m + q) ∧ d.pxf l d.M (d.st m + q) ≤ d.am (d.st m + q) := fun m q hm hq => by
    rw [pxf_at d.M m q hm hq]
    have := O.am0 m hm q hq
    split <;> grind
  have hH : ∀ j, j < d.M → 0 ≤ d.hxf l j ∧ d.hxf l j ≤ d.cap := fun j hj => by
    have := O.cap0
    unfold hxf
    split
    · split <;> grind
    · exact ⟨hek, hcap⟩
  have hlast : d.hxf l (d.M - 1) = d.en / d.kept := if_neg (by omega)
  have nn := xs_nn (d := d) (W := fun _ => 0) hP (fun _ _ => Rat.le_refl) hH (fun _ => by rw [hlast]; exact Rat.le_refl)
  have h := D _ nn
  generalize hX : d.xs (d.pxf l d.M) (fun _ => 0) (d.hxf l) = X at *
  -- the slack rows hold
  have hrows : (S d.rows fun j => y j * S d.cols fun k => d.A j k * X k) = (S d.rows fun j => y j * d.g j) + S d.M fun j => y j * ((S d.cols fun k => d.A j k * X k) - d.g j) := by
    obtain ⟨dd, e⟩ : ∃ dd, d.rows = d.M + dd := ⟨d.rows - d.M, by unfold rows; omega⟩
    have e0 : ∀ i, i < dd → (S d.cols fun k => d.A (d.M + i) k * X k) = d.g (d.M + i) := fun i hi => by
      rcases rows_cases (d := d) (j := d.M + i) (by omega) with h | ⟨i', hi', h⟩ | ⟨h1, h⟩
      · omega
      · obtain rfl : i = i' := by omega
        rw [dotS hi', gS hi', ← hX, xs_S hi']
      · rw [h, dotE h1 m0, gE, ← hX, xs_E m0]
    rw [e, S_append, S_append]
    have : (S dd fun i => y (d.M + i) * S d.cols fun k => d.A (d.M + i) k * X k) = S dd fun i => y (d.M + i) * d.g (d.M + i) := S_congr fun i hi => by rw [e0 i hi]
    rw [this]
    have : (S d.M fun j => y j * S d.cols fun k => d.A j k * X k) = (S d.M fun j => y j * d.g j) + S d.M fun j => y j * ((S d.cols fun k => d.A j k * X k) - d.g j) := by
      rw [← S_add]; exact S_congr fun j _ => by grind
    rw [this]; grind
  rw [hrows] at h
  have hmon : (S d.M fun j => y j * ((S d.cols fun k => d.A j k * X k) - d.g j)) = - (S d.M fun j => l j * d.inf j + (if j = 0 then l j * d.str else 0) - l j * (S (d.len j) fun i => X (d.st j + i)) + l j * ((if 0 < j then d.kept * d.hxf l (j - 1) else 0) - d.hxf l j)) := by
    rw [← S_neg]
    refine S_congr fun j hj => ?_
    have e2 : X (d.cnt + j) = 0 := by rw [← hX, xs_W hj]
    have e3 : X (d.cnt + d.M + j) = d.hxf l j := by rw [← hX, xs_H hj]
    rw [dotM hj, gM hj, e2, e3]
    show y j * _ = - ((0 - y j) * _ + _ - (0 - y j) * _ + (0 - y j) * _)
    by_cases q : 0 < j
    · have e4 : X (d.cnt + d.M + j - 1) = d.hxf l (j - 1) := by
        have : d.cnt + d.M + j - 1 = d.cnt + d.M + (j - 1) := by omega
        rw [← hX, this, xs_H (by omega)]
      rw [if_pos q, if_pos q, if_neg (by omega), if_neg (by omega), e4]
      grind
    · rw [if_neg q, if_neg q, if_pos (by omega), if_pos (by omega)]
      grind
  rw [hmon] at h
  -- the amounts' own worth
  have hc : (S d.cols fun k => d.c k * X k) = S d.M fun m => S (d.len m) fun q => d.pr (d.st m + q) * X (d.st m + q) := by
    rw [← S_st (d := d) (f := fun k => d.pr k * X k)]
    show _ = S d.cnt fun k => d.pr k * X k
    obtain ⟨dd, e⟩ : ∃ dd, d.cols = d.cnt + dd := ⟨d.cols - d.cnt, by unfold cols; omega⟩
    rw [e, S_append]
    have : (S dd fun i => d.c (d.cnt + i) * X (d.cnt + i)) = 0 := S_z fun i _ => by
      have : d.c (d.cnt + i) = 0 := if_neg (by omega)
      rw [this]; grind
    rw [this]
    have : (S d.cnt fun k => d.c k * X k) = S d.cnt fun k => d.pr k * X k := S_congr fun k hk => by
      have : d.c k = d.pr k := if_pos hk
      rw [this]
    rw [this]; grind
  rw [hc] at h
  have hpm : ∀ m, m < d.M → (S (d.len m) fun q => d.pr (d.st m + q) * X (d.st m + q)) = l m * (S (d.len m) fun q => X (d.st m + q)) + S (d.len m) fun q => d.am (d.st m + q) * max0 (d.pr (d.st m + q) - l m) := fun m hm => by
    rw [← S_mul, ← S_add]
    refine S_congr fun q hq => ?_
    have e1 : X (d.st m + q) = if 0 < d.pr (d.st m + q) - l m then d.am (d.st m + q) else 0 := by
      rw [← hX, xs_P (by have := st_le hm; omega), pxf_at d.M m q hm hq]
    rw [e1]
    unfold max0
    split <;> grind
  rw [S_congr hpm] at h
  -- the heights
  have hh : ∀ t, t ≤ d.M → (S t fun j => l j * ((if 0 < j then d.kept * d.hxf l (j - 1) else 0) - d.hxf l j)) = (S t fun j => if 0 < j then d.cap * max0 (d.kept * l j - l (j - 1)) else 0) - (if 0 < t then l (t - 1) * d.hxf l (t - 1) else 0) := by
    intro t
    induction t with
    | zero => intro _; rw [S_zero, S_zero, if_neg (by omega)]; grind
    | succ t ih =>
      intro ht
      rw [S_succ, S_succ, ih (by omega), if_pos (by omega : 0 < t + 1)]
      have e : t + 1 - 1 = t := by omega
      rw [e]
      by_cases q : 0 < t
      · rw [if_pos q, if_pos q, if_pos q]
        have e2 : t - 1 + 1 = t := by omega
        have e1 : d.hxf l (t - 1) = if 0 < d.kept * l t - l (t - 1) then d.cap else 0 := by
          unfold hxf; rw [e2, if_pos (by omega)]
        rw [e1]
        unfold max0
        split <;> grind
      · rw [if_neg q, if_neg q, if_neg q]; grind
  have hh := hh d.M (Nat.le_refl _)
  rw [if_pos m0, hlast] at hh
  -- the start
  have hs : (S d.M fun j => if j = 0 then l j * d.str else 0) = l 0 * d.str := by
    rw [S_one (j := 0) m0 fun i _ hi => if_neg hi, if_pos rfl]
  have hsum : (S d.M fun j => l j * d.inf j + (if j = 0 then l j * d.str else 0) - l j * (S (d.len j) fun i => X (d.st j + i)) + l j * ((if 0 < j then d.kept * d.hxf l (j - 1) else 0) - d.hxf l j)) = (S d.M fun j => l j * d.inf j) + (S d.M fun j => if j = 0 then l j * d.str else 0) - (S d.M fun j => l j * (S (d.len j) fun i => X (d.st j + i))) + S d.M fun j => l j * ((if 0 < j then d.kept * d.hxf l (j - 1) else 0) - d.hxf l j) := by
    rw [← S_add, ← S_sub, ← S_add]
  rw [hsum, hs, hh, S_add] at h
  have hb : d.bound l = d.str * l 0 + - d.en / d.kept * l (d.M - 1) + ((S d.M fun j => l j * d.inf j) + (S d.M fun m => S (d.len m) fun q => d.am (d.st m + q) * max0 (d.pr (d.st m + q) - l m)) + S d.M fun j => if 0 < j then d.cap * max0 (d.kept * l j - l (j - 1)) else 0) := by
    unfold bound
    congr 1
    rw [← S_add, ← S_add]
    exact S_congr fun j _ => by unfold bterm; grind
  show d.bound l ≤ _
  rw [hb, neg_div_r]
  grind
/-- the answer's law -/
theorem optimum (O : Ok d) (hx : LPF d.rows d.cols d.A d.g x) (D : LPD d.rows d.cols d.A d.c y) (e : (S d.cols fun k => d.c k * x k) = S d.rows fun j => y j * d.g j) :
    (∀ j, j < d.M → 0 ≤ d.rel x j) ∧ (∀ j, j < d.M → 0 ≤ 0 - y j) ∧ (∀ j, j < d.M → d.hl (d.rel x) j + (d.inf j + - d.rel x j) = x (d.cnt + d.M + j) ∧ 0 ≤ x (d.cnt + d.M + j) ∧ x (d.cnt + d.M + j) ≤ d.cap) ∧ d.en ≤ d.hl (d.rel x) d.M ∧
    (S d.M fun j => (d.mw (d.st j) (d.rel x j) (d.len j)).1) = d.bound fun j => 0 - y j := by
  obtain ⟨nn, F⟩ := (lpf_iff O.M0 x).mp hx
  refine ⟨fun j hj => rel_nn nn hj, fun j hj => price_nn D hj, fun j hj => ⟨held_eq F j hj, held_le F nn hj⟩, end_ok O F nn, ?_⟩
  have h1 := weak O F nn (l := fun j => 0 - y j) fun j hj => price_nn D hj
  have h2 := worth_ge O F nn
  have h3 := bound_le O F nn D
  grind
/-- a plan there is when the water lasts -/
theorem feasible_iff (O : Ok d) : (∃ x, LPF d.rows d.cols d.A d.g x) ↔ d.en ≤ d.gh d.M := by
  have m0 := O.M0
  constructor
  · rintro ⟨x, hx⟩
    obtain ⟨nn, F⟩ := (lpf_iff O.M0 x).mp hx
    have key : ∀ j, j < d.M → x (d.cnt + d.M + j) ≤ (if d.cap < d.gh j + d.inf j then d.cap else d.gh j + d.inf j) := by
      intro j
      induction j with
      | zero =>
        intro hj
        have h1 := F.bal 0 hj
        rw [if_pos rfl, if_neg (by omega)] at h1
        have h2 := rel_nn nn hj
        unfold rel at h2
        have h3 := (held_le F nn hj).2
        have : d.gh 0 = d.str := rfl
        rw [this]
        split <;> grind
      | succ j ih =>
        intro hj
        have ih := ih (by omega)
        have h1 := F.bal (j + 1) hj
        have e : d.cnt + d.M + (j + 1) - 1 = d.cnt + d.M + j := by omega
        rw [if_neg (by omega), if_pos (by omega), e] at h1
        have h2 := rel_nn nn hj
        unfold rel at h2
        have h3 := (held_le F nn hj).2
        have : d.gh (j + 1) = d.kept * (if d.cap < d.gh j + d.inf j then d.cap else d.gh j + d.inf j) := rfl
        have h4 := mul_le_l ih (by have := O.kept0; grind : 0 ≤ d.kept)
        rw [← this] at h4
        split <;> grind
    have h1 := key (d.M - 1) (by omega)
    have h2 := end_le O F nn
    have e : d.gh d.M = d.kept * (if d.cap < d.gh (d.M - 1) + d.inf (d.M - 1) then d.cap else d.gh (d.M - 1) + d.inf (d.M - 1)) := by
      have : d.M = (d.M - 1) + 1 := by omega
      conv => lhs; rw [this]
      rfl
    rw [e]
    have h4 := mul_le_l (by grind : d.en / d.kept ≤ (if d.cap < d.gh (d.M - 1) + d.inf (d.M - 1) then d.cap else d.gh (d.M - 1) + d.inf (d.M - 1))) (by have := O.kept0; grind : 0 ≤ d.kept)
    rw [mul_div_k O.kept0] at h4
    exact h4
  · intro h
    let hj : Nat → Rat := fun j => if d.cap < d.gh j + d.inf j then d.cap else d.gh j + d.inf j
    have ghn : ∀ j, j ≤ d.M → 0 ≤ d.gh j := by
      intro j
      induction j with
      | zero => intro _; exact O.str0
      | succ j ih =>
        intro hj
        have h1 := ih (by omega)
        have h2 := O.inf0 j (by omega)
        have h3 := O.cap0
        refine mul_nn (by have := O.kept0; grind) ?_
        split <;> grind
    have hH : ∀ j, j < d.M → 0 ≤ hj j ∧ hj j ≤ d.cap := fun j h => by
      have h1 := ghn j (by omega)
      have h2 := O.inf0 j h
      have h3 := O.cap0
      show 0 ≤ (if d.cap < d.gh j + d.inf j then d.cap else d.gh j + d.inf j) ∧ (if d.cap < d.gh j + d.inf j then d.cap else d.gh j + d.inf j) ≤ d.cap
      split <;> grind
    have e : d.gh d.M = d.kept * hj (d.M - 1) := by
      have : d.M = (d.M - 1) + 1 := by omega
      conv => lhs; rw [this]
      rfl
    have hE : d.en / d.kept ≤ hj (d.M - 1) := by
      rw [e] at h
      refine Rat.not_lt.mp fun q => ?_
      have q2 := Rat.mul_lt_mul_of_pos_left q O.kept0
      rw [mul_div_k O.kept0] at q2
      exact Rat.not_lt.mpr h q2
    refine ⟨d.xs (fun _ => 0) (fun j => d.gh j + d.inf j - hj j) hj, (lpf_iff O.M0 _).mpr ⟨xs_nn (fun m q hm hq => ⟨Rat.le_refl, O.am0 m hm q hq⟩) (fun j _ => ?_) hH (fun _ => hE), ⟨fun j hj' => ?_, fun i hi => xs_S hi, fun _ => xs_E m0⟩⟩⟩
    · show 0 ≤ d.gh j + d.inf j - (if d.cap < d.gh j + d.inf j then d.cap else d.gh j + d.inf j)
      split <;> grind
    · have h0 : (S (d.len j) fun i => d.xs (fun _ => 0) (fun j => d.gh j + d.inf j - hj j) hj (d.st j + i)) = 0 := S_z fun i hi => xs_P (by have := st_le hj'; omega)
      rw [h0, xs_W hj', xs_H hj']
      by_cases q : 0 < j
      · have e2 : d.cnt + d.M + j - 1 = d.cnt + d.M + (j - 1) := by omega
        rw [if_pos q, if_neg (by omega), e2, xs_H (by omega)]
        have : d.gh j = d.kept * hj (j - 1) := by
          have : j = (j - 1) + 1 := by omega
          conv => lhs; rw [this]
          rfl
        rw [this]; grind
      · have : j = 0 := by omega
        subst this
        rw [if_pos rfl, if_neg (by omega)]
        have : d.gh 0 = d.str := rfl
        rw [this]; grind
end
end Dt
end Dw
namespace Dw
/-! ### fractions over one bottom -/
def Fr (d N : Nat) (q : Rat) : Prop := ∃ z : Int, q * (d : Rat) = (z : Rat) ∧ z.natAbs ≤ N
theorem Fr.mono {d N M : Nat} {q : Rat} (h : Fr d N q) (l : N ≤ M) : Fr d M q := let ⟨z, h1, h2⟩ := h; ⟨z, h1, by omega⟩
theorem Fr.zero {d N : Nat} : Fr d N 0 := ⟨0, by rw [Rat.zero_mul]; rfl, by show (0 : Int).natAbs ≤ N; simp⟩
theorem Fr.add {d N M : Nat} {a b : Rat} (ha : Fr d N a) (hb : Fr d M b) : Fr d (N + M) (a + b) := by
  obtain ⟨x, x1, x2⟩ := ha
  obtain ⟨y, y1, y2⟩ := hb
  refine ⟨x + y, by rw [Rat.add_mul, x1, y1, Rat.intCast_add], ?_⟩
  have := Int.natAbs_add_le x y
  omega
theorem Fr.neg {d N : Nat} {a : Rat} (ha : Fr d N a) : Fr d N (-a) := by
  obtain ⟨x, x1, x2⟩ := ha
  exact ⟨-x, by rw [Rat.neg_mul, x1, Rat.intCast_neg], by rw [Int.natAbs_neg]; exact x2⟩
theorem Fr.sub {d N M : Nat} {a b : Rat} (ha : Fr d N a) (hb : Fr d M b) : Fr d (N + M) (a - b) := by
  rw [Rat.sub_eq_add_neg]; exact ha.add hb.neg
theorem Fr.mulI {d N M : Nat} {a b : Rat} (ha : isI M a) (hb : Fr d N b) : Fr d (M * N) (a * b) := by
  obtain ⟨x, x1, x2⟩ := ha
  obtain ⟨y, y1, y2⟩ := hb
  refine ⟨x * y, by rw [Rat.mul_assoc, y1, x1, Rat.intCast_mul], ?_⟩
  rw [Int.natAbs_mul]
  exact Nat.mul_le_mul x2 y2
theorem Fr.S {d N : Nat} {f : Nat → Rat} : ∀ {n : Nat}, (∀ i, i < n → Fr d N (f i)) → Fr d (n * N) (S n f)
  | 0, _ => by rw [S_zero]; exact Fr.zero
  | n + 1, h => by
    rw [S_succ, Nat.add_mul, Nat.one_mul]
    exact (Fr.S fun i hi => h i (by omega)).add (h n (by omega))
theorem Fr.int {d M : Nat} {a : Rat} (ha : isI M a) : Fr d (M * d) a := by
  obtain ⟨x, x1, x2⟩ := ha
  refine ⟨x * (d : Int), by rw [x1, Rat.intCast_mul]; rfl, ?_⟩
  rw [Int.natAbs_mul, Int.natAbs_natCast]
  exact Nat.mul_le_mul_right _ x2
theorem Fr.more {d e N : Nat} {a : Rat} (ha : Fr d N a) : Fr (d * e) (N * e) a := by
  obtain ⟨x, x1, x2⟩ := ha
  refine ⟨x * (e : Int), ?_, ?_⟩
  · have : ((d * e : Nat) : Rat) = (d : Rat) * (e : Rat) := Rat.natCast_mul d e
    rw [this, ← Rat.mul_assoc, x1, Rat.intCast_mul]; rfl
  · rw [Int.natAbs_mul, Int.natAbs_natCast]
    exact Nat.mul_le_mul_right _ x2
theorem Fr.of_good {d : Int} {N : Nat} {q : Rat} {z : Int} (h0 : d ≠ 0) (e : q * (d : Rat) = (z : Rat)) (hz : z.natAbs ≤ N) : Fr d.natAbs N q := by
  rcases Int.natAbs_eq d with h | h
  · refine ⟨z, ?_, hz⟩
    have : ((d.natAbs : Nat) : Rat) = (d : Rat) := by
      conv => rhs; rw [h]
      rfl
    rw [this, e]
  · refine ⟨-z, ?_, by rw [Int.natAbs_neg]; exact hz⟩
    have : ((d.natAbs : Nat) : Rat) = - (d : Rat) := by
      have h2 : (d.natAbs : Int) = - d := by omega
      have h3 : ((d.natAbs : Nat) : Rat) = (((d.natAbs : Nat) : Int) : Rat) := rfl
      rw [h3, h2, Rat.intCast_neg]
    rw [this, Rat.mul_neg, e, Rat.intCast_neg]
/-- amounts and prices over one bottom -/
def Fine (m n : Nat) (x y : Nat → Rat) : Prop := ∃ d : Nat, 0 < d ∧ d < 2 ^ 236 ∧ (∀ k, k < n → Fr d (2 ^ 241) (x k)) ∧ ∀ j, j < m → Fr d (2 ^ 253) (y j)
theorem fine_of {m n M : Nat} {A : Nat → Nat → Rat} {r g c : Nat → Rat} {t : Tab} (G : Good m n A r t) (hM : ∀ q, q < m → ∀ k, k ≤ n + m → isI M (r q * A q k)) (hb : dbound M m < 2 ^ 236) (hm : m ≤ 17) (hc : ∀ k, k < n + m → isI (2 ^ 12) (c k)) :
    Fine m n (val m n t) (fun j => sgn g j * mult m c t (n + j)) := by
  obtain ⟨d, d0, d1, d2⟩ := good_frac G hM
  have he : ∀ i, i < m → ∀ k, k ≤ n + m → Fr d.natAbs (2 ^ 236) (t.e i k) := fun i hi k hk => by
    obtain ⟨z, z1, z2⟩ := d2 i hi k hk
    exact Fr.of_good d0 z2 (by omega)
  refine ⟨d.natAbs, by omega, by omega, fun k hk => ?_, fun j hj => ?_⟩
  · have : Fr d.natAbs (m * 2 ^ 236) (val m n t k) := Fr.S fun i hi => by
      by_cases q : t.B i = k
      · rw [if_pos q]; exact he i hi _ (Nat.le_refl _)
      · rw [if_neg q]; exact Fr.zero
    exact this.mono (Nat.le_trans (Nat.mul_le_mul_right _ hm) (by decide))
  · have h1 : Fr d.natAbs (m * (2 ^ 12 * 2 ^ 236)) (mult m c t (n + j)) := Fr.S fun i hi => Fr.mulI (hc _ (G.bN i hi)) (he i hi _ (by omega))
    have h2 : isI 1 (sgn g j) := by
      unfold sgn
      split
      · exact ⟨-1, rfl, by decide⟩
      · exact ⟨1, rfl, by decide⟩
    exact (Fr.mulI h2 h1).mono (by rw [Nat.one_mul]; exact Nat.le_trans (Nat.mul_le_mul_right _ hm) (by decide))
end Dw
set_option Elab.async false
set_option linter.all false
set_option maxRecDepth 100000
set_option maxHeartbeats 4000000
/-! A way to read a body from behind: what a piece of syntax wants, said of its own run. -/
namespace Dw
open PySem PySem.Spec PyProof.Rows L2
def top (i : Nat) : Stmt := PySem.Challenge.pw_damworks_k36_whole_leaking_worths.main.body.getD i (.Pass ⟨0, 0, 0, 0⟩)

/-! ### the pieces' own wants -/
def WE (X : Cx) (e : Expr) : TE := fun σ H Q => ∀ pins s, Inv X pins σ H s → wpAny (model X.prog X.w) X.A (eval e X.env) (EP X pins σ Q) X.xe s
def WT (X : Cx) (e : Expr) : TT := fun σ H Q => ∀ pins s, Inv X pins σ H s → wpAny (model X.prog X.w) X.A (isTrue e X.env (eval e X.env)) (TP X pins σ Q) X.xe s
def WA (X : Cx) (es : List Expr) : TA := fun σ H Q => ∀ pos pins s, Inv X pins σ H s → wpAny (model X.prog X.w) X.A (spliced (backTo pos (starEach es X.env))) (AP X pins σ Q) X.xe s
def WS (X : Cx) (st : Stmt) : TS := fun D σ H => ∀ pins s, Inv X pins σ H s → wpAny (model X.prog X.w) X.A (exec st X.env) (SP X pins D) X.xe s
def WSs (X : Cx) (st : List Stmt) : TS := fun D σ H => ∀ pins s, Inv X pins σ H s → wpAny (model X.prog X.w) X.A (execs st X.env) (SP X pins D) X.xe s
section
variable {X : Cx} {e : Expr} {es : List Expr} {st : Stmt} {sts : List Stmt} {σ : L2.St} {H : Hp}
theorem we_self : PE X e (WE X e) := ⟨fun pins s _ _ _ I h => h pins s I⟩
theorem wt_self : PT X e (WT X e) := ⟨fun pins s _ _ _ I h => h pins s I⟩
theorem wa_self : PA X es (WA X es) := ⟨fun pos pins s _ _ _ I h => h pos pins s I⟩
theorem ws_self : PS X st (WS X st) := ⟨fun pins s _ _ _ I h => h pins s I⟩
theorem wss_self : PSs X sts (WSs X sts) := ⟨fun pins s _ _ _ I h => h pins s I⟩
theorem we_of {t : TE} {Q : VK} (h : PE X e t) (q : t σ H Q) : WE X e σ H Q := fun pins s I => h.run pins s σ H Q I q
theorem wt_of {t : TT} {Q : Bool → Hp → Prop} (h : PT X e t) (q : t σ H Q) : WT X e σ H Q := fun pins s I => h.run pins s σ H Q I q
theorem wa_of {t : TA} {Q : List V → Hp → Prop} (h : PA X es t) (q : t σ H Q) : WA X es σ H Q := fun pos pins s I => h.run pos pins s σ H Q I q
theorem ws_of {t : TS} {D : Ends} (h : PS X st t) (q : t D σ H) : WS X st D σ H := fun pins s I => h.run pins s σ H D I q
theorem wss_of {t : TS} {D : Ends} (h : PSs X sts t) (q : t D σ H) : WSs X sts D σ H := fun pins s I => h.run pins s σ H D I q
end

/-! ### what holds of a value, and goes on to hold -/
class Stb (P : V → Hp → Prop) : Prop where
  mono : ∀ {v : V} {H H' : Hp}, Same H H' → P v H → P v H'
theorem sameT {K : PySem.W.Frag} {H H' : Hp} {a : Addr} {xs : List V} (e : Same H H') (h : SqT K H a xs) : SqT K H' a xs := by
  rcases h with (h | ⟨o, h⟩) | h
  · exact .inl (.inl (e _ _ h))
  · exact .inl (.inr ⟨o, e _ _ h⟩)
  · exact .inr h
def vE (x : V) : V → Hp → Prop := fun v _ => v = x
abbrev vI (n : Int) : V → Hp → Prop := vE (.int n)
abbrev vB (b : Bool) : V → Hp → Prop := vE (.bl b)
/-- a tuple of such values; a list of such -/
def vT (K : PySem.W.Frag) (xs : List V) : V → Hp → Prop := fun v H => ∃ p, v = .ref p ∧ SqT K H p xs
def vL (K : PySem.W.Frag) (xs : List V) : V → Hp → Prop := fun v H => ∃ p, v = .ref p ∧ SqL K H p xs
/-- a ratio -/
def vQ (K : PySem.W.Frag) (q : Rat) : V → Hp → Prop := vT K [.int q.num, .int (q.den : Int)]
instance {x : V} : Stb (vE x) := ⟨fun _ h => h⟩
instance {K : PySem.W.Frag} {xs : List V} : Stb (vT K xs) := ⟨fun e ⟨p, h, q⟩ => ⟨p, h, sameT e q⟩⟩
instance {K : PySem.W.Frag} {xs : List V} : Stb (vL K xs) := ⟨fun e ⟨p, h, q⟩ => ⟨p, h, e.seq q⟩⟩
instance {K : PySem.W.Frag} {q : Rat} : Stb (vQ K q) := ⟨fun e h => Stb.mono (P := vT K _) e h⟩
theorem same_new {H : Hp} {p : Addr} {o : HO} (h : H p = none) : Same H (upd H p o) := fun a u e => by
  rw [upd_ne (ne_of_none e h)]; exact e

/-! ### an expression comes to such a value, and leaves what is -/
def EV (X : Cx) (e : Expr) (σ : L2.St) (H : Hp) (P : V → Hp → Prop) : Prop := ∀ H1, Same H H1 → ∀ Q : VK, (∀ v H2, Same H1 H2 → P v H2 → Q v H2) → WE X e σ H1 Q
def EA (X : Cx) (es : List Expr) (σ : L2.St) (H : Hp) (R : List V → Hp → Prop) : Prop := ∀ H1, Same H H1 → ∀ Q : List V → Hp → Prop, (∀ v H2, Same H1 H2 → R v H2 → Q v H2) → WA X es σ H1 Q
def ET (X : Cx) (e : Expr) (σ : L2.St) (H : Hp) (b : Bool) : Prop := ∀ H1, Same H H1 → ∀ Q : Bool → Hp → Prop, (∀ H2, Same H1 H2 → Q b H2) → WT X e σ H1 Q
section
variable {X : Cx} {e a b c : Expr} {es : List Expr} {σ : L2.St} {H H' : Hp} {P P1 P2 P3 : V → Hp → Prop} {R : List V → Hp → Prop} {pos : Pos}
theorem EV.mono (h : EV X e σ H P) (s : Same H H') : EV X e σ H' P := fun H1 e1 => h H1 (s.trans e1)
theorem EA.mono (h : EA X es σ H R) (s : Same H H') : EA X es σ H' R := fun H1 e1 => h H1 (s.trans e1)
theorem ET.mono {b : Bool} (h : ET X e σ H b) (s : Same H H') : ET X e σ H' b := fun H1 e1 => h H1 (s.trans e1)
theorem EV.imp (h : EV X e σ H P) (f : ∀ v H', Same H H' → P v H' → P1 v H') : EV X e σ H P1 := fun H1 e1 Q q => h H1 e1 Q fun v H2 e2 p => q v H2 e2 (f v H2 (e1.trans e2) p)
theorem EV.go (h : EV X e σ H P) {Q : VK} (q : ∀ v H2, Same H H2 → P v H2 → Q v H2) : WE X e σ H Q := h H (Same.refl H) Q q
theorem ET.go {b : Bool} (h : ET X e σ H b) {Q : Bool → Hp → Prop} (q : ∀ H2, Same H H2 → Q b H2) : WT X e σ H Q := h H (Same.refl H) Q q
theorem ET.is {b b' : Bool} (h : ET X e σ H b) (e' : b = b') : ET X e σ H b' := e' ▸ h
theorem ev_of {t : TE} (h : PE X e t) (f : ∀ H1, Same H H1 → ∀ Q : VK, (∀ v H2, Same H1 H2 → P v H2 → Q v H2) → t σ H1 Q) : EV X e σ H P := fun H1 e1 Q q => we_of h (f H1 e1 Q q)
theorem et_of {t : TT} {b : Bool} (h : PT X e t) (f : ∀ H1, Same H H1 → ∀ Q : Bool → Hp → Prop, (∀ H2, Same H1 H2 → Q b H2) → t σ H1 Q) : ET X e σ H b := fun H1 e1 Q q => wt_of h (f H1 e1 Q q)
/-- the name in slot i -/
theorem ev_v (i : Nat) {x : Str} {v : V} [Stb P] (h : P v H) (hσ : σ[i]? = some (some v) := by rfl) (hN : X.N[i]? = some x := by rfl) (hv : Vis X.env.scope x := by first | exact Or.inl rfl | exact Or.inr (Or.inl rfl) | exact Or.inr (Or.inr rfl)) (hd : (x == ("__debug__" : Str)) = false := by decide) (hcd : (x == ("__classdict__" : Str)) = false := by decide) : EV X (.Name x pos) σ H P :=
  ev_of (pe_var hN hv hd hcd) fun H1 e1 Q q => ⟨v, hσ, q v H1 (Same.refl _) (Stb.mono e1 h)⟩
theorem ev_i {i j} : EV X (.Constant (.int i) j pos) σ H (vI i) := ev_of pe_int fun H1 _ Q q => q _ H1 (Same.refl _) rfl
theorem ev_b {b j} : EV X (.Constant (.bool b) j pos) σ H (vB b) := ev_of pe_bl fun H1 _ Q q => q _ H1 (Same.refl _) rfl
theorem ev_n {j} : EV X (.Constant .none j pos) σ H (vE .non) := ev_of pe_non fun H1 _ Q q => q _ H1 (Same.refl _) rfl
theorem ev_s {x j} : EV X (.Constant (.str x) j pos) σ H (vE (.str x)) := ev_of pe_str fun H1 _ Q q => q _ H1 (Same.refl _) rfl
theorem ev_op {op : Operator} {r : R2} (ho : OpR X (binaryOp op) r) [Stb P1] (ha : EV X a σ H P1) (hb : EV X b σ H P2) (hr : ∀ x y H1, Same H H1 → P1 x H1 → P2 y H1 → ∀ Q : VK, (∀ z H2, Same H1 H2 → P z H2 → Q z H2) → r x y H1 Q) : EV X (.BinOp a op b pos) σ H P :=
  ev_of (pe_op ho we_self we_self) fun H1 e1 Q q => ha H1 e1 _ fun x H2 e2 p1 => hb H2 (e1.trans e2) _ fun y H3 e3 p2 => hr x y H3 ((e1.trans e2).trans e3) (Stb.mono e3 p1) p2 Q fun z H4 e4 p => q z H4 ((e2.trans e3).trans e4) p
theorem ev_cmp {op : CmpOp} {r : R2} (ho : OpR X (compareOp op) r) [Stb P1] (ha : EV X a σ H P1) (hb : EV X b σ H P2) (hr : ∀ x y H1, Same H H1 → P1 x H1 → P2 y H1 → ∀ Q : VK, (∀ z H2, Same H1 H2 → P z H2 → Q z H2) → r x y H1 Q) (hm : behindInMarks op b = false := by exact nomark _) : EV X (.Compare a [op] [b] pos) σ H P :=
  ev_of (pe_cmpR ho we_self we_self hm) fun H1 e1 Q q => ha H1 e1 _ fun x H2 e2 p1 => hb H2 (e1.trans e2) _ fun y H3 e3 p2 => hr x y H3 ((e1.trans e2).trans e3) (Stb.mono e3 p1) p2 Q fun z H4 e4 p => q z H4 ((e2.trans e3).trans e4) p
theorem et_cmp {op : CmpOp} {r : R2} {k : Bool} (ho : OpR X (compareOp op) r) [Stb P1] (ha : EV X a σ H P1) (hb : EV X b σ H P2) (hr : ∀ x y H1, Same H H1 → P1 x H1 → P2 y H1 → ∀ Q : VK, Q (.bl k) H1 → r x y H1 Q) (hm : behindInMarks op b = false := by exact nomark _) : ET X (.Compare a [op] [b] pos) σ H k :=
  et_of (pt_cmpR ho we_self we_self hm) fun H1 e1 Q q => ha H1 e1 _ fun x H2 e2 p1 => hb H2 (e1.trans e2) _ fun y H3 e3 p2 => hr x y H3 ((e1.trans e2).trans e3) (Stb.mono e3 p1) p2 _ ⟨k, rfl, q H3 (e2.trans e3)⟩
/-! ints -/
variable {i j : Int}
theorem ev_add (ha : EV X a σ H (vI i)) (hb : EV X b σ H (vI j)) : EV X (.BinOp a .Add b pos) σ H (vI (i + j)) := ev_op op_add ha hb fun x y H1 _ p1 p2 Q q => ⟨i, j, p1, p2, q _ H1 (Same.refl _) rfl⟩
theorem ev_sub (ha : EV X a σ H (vI i)) (hb : EV X b σ H (vI j)) : EV X (.BinOp a .Sub b pos) σ H (vI (i - j)) := ev_op op_sub ha hb fun x y H1 _ p1 p2 Q q => ⟨i, j, p1, p2, q _ H1 (Same.refl _) rfl⟩
theorem ev_mul (ha : EV X a σ H (vI i)) (hb : EV X b σ H (vI j)) (hc : CMulW i j) : EV X (.BinOp a .Mult b pos) σ H (vI (i * j)) := ev_op op_mulW ha hb fun x y H1 _ p1 p2 Q q => ⟨i, j, p1, p2, hc, q _ H1 (Same.refl _) rfl⟩
theorem ev_mod (ha : EV X a σ H (vI i)) (hb : EV X b σ H (vI j)) (hc : j ≠ 0) : EV X (.BinOp a .Mod b pos) σ H (vI (i.fmod j)) := ev_op op_modN ha hb fun x y H1 _ p1 p2 Q q => ⟨i, j, p1, p2, hc, q _ H1 (Same.refl _) rfl⟩
/-- // by any divisor but 0, below 2 ^ 9000 in size -/
theorem op_fdivZ : OpR X (binaryOp .FloorDiv) (rI (fun _ j => j ≠ 0 ∧ j.natAbs.log2 < 9000) fun i j => .int (i.fdiv j)) := opI fun i j _ _ _ _ _ hc q =>
  floordiv_int hc.1 q (.inl (PyProof.noPylong_of_log2 hc.2))
theorem ev_div (ha : EV X a σ H (vI i)) (hb : EV X b σ H (vI j)) (hc : j ≠ 0 ∧ j.natAbs.log2 < 9000) : EV X (.BinOp a .FloorDiv b pos) σ H (vI (i.fdiv j)) := ev_op op_fdivZ ha hb fun x y H1 _ p1 p2 Q q => ⟨i, j, p1, p2, hc, q _ H1 (Same.refl _) rfl⟩
theorem et_lt (ha : EV X a σ H (vI i)) (hb : EV X b σ H (vI j)) : ET X (.Compare a [.Lt] [b] pos) σ H (decide (i < j)) := et_cmp op_lt ha hb fun x y H1 _ p1 p2 Q q => ⟨i, j, p1, p2, q⟩
theorem et_le (ha : EV X a σ H (vI i)) (hb : EV X b σ H (vI j)) : ET X (.Compare a [.LtE] [b] pos) σ H (decide (i ≤ j)) := et_cmp op_le ha hb fun x y H1 _ p1 p2 Q q => ⟨i, j, p1, p2, q⟩
theorem et_gt (ha : EV X a σ H (vI i)) (hb : EV X b σ H (vI j)) : ET X (.Compare a [.Gt] [b] pos) σ H (decide (j < i)) := et_cmp op_gt ha hb fun x y H1 _ p1 p2 Q q => ⟨i, j, p1, p2, q⟩
theorem et_ge (ha : EV X a σ H (vI i)) (hb : EV X b σ H (vI j)) : ET X (.Compare a [.GtE] [b] pos) σ H (decide (j ≤ i)) := et_cmp op_ge ha hb fun x y H1 _ p1 p2 Q q => ⟨i, j, p1, p2, q⟩
theorem ev_lt (ha : EV X a σ H (vI i)) (hb : EV X b σ H (vI j)) : EV X (.Compare a [.Lt] [b] pos) σ H (vB (decide (i < j))) := ev_cmp op_lt ha hb fun x y H1 _ p1 p2 Q q => ⟨i, j, p1, p2, q _ H1 (Same.refl _) rfl⟩
theorem ev_gt (ha : EV X a σ H (vI i)) (hb : EV X b σ H (vI j)) : EV X (.Compare a [.Gt] [b] pos) σ H (vB (decide (j < i))) := ev_cmp op_gt ha hb fun x y H1 _ p1 p2 Q q => ⟨i, j, p1, p2, q _ H1 (Same.refl _) rfl⟩
/-! == and != of flat values -/
variable {x y : V}
theorem et_eq (ha : EV X a σ H (vE x)) (hb : EV X b σ H (vE y)) (hs : scal x y = true := by rfl) : ET X (.Compare a [.Eq] [b] pos) σ H (decide (x = y)) := et_cmp op_eq ha hb fun x' y' H1 _ p1 p2 Q q => by cases p1; cases p2; exact ⟨hs, q⟩
theorem et_ne (ha : EV X a σ H (vE x)) (hb : EV X b σ H (vE y)) (hs : scal x y = true := by rfl) : ET X (.Compare a [.NotEq] [b] pos) σ H (!decide (x = y)) := et_cmp op_ne ha hb fun x' y' H1 _ p1 p2 Q q => by cases p1; cases p2; exact ⟨hs, q⟩
theorem et_isN (ha : EV X a σ H (vE x)) (hb : EV X b σ H (vE .non)) : ET X (.Compare a [.Is] [b] pos) σ H (decide (x = .non)) := et_cmp op_isN ha hb fun x' y' H1 _ p1 p2 Q q => by cases p1; exact ⟨p2, q⟩
/-! tests -/
variable {k l : Bool}
theorem et_not (h : ET X a σ H k) : ET X (.UnaryOp .Not a pos) σ H (!k) := et_of (pt_not wt_self) fun H1 e1 Q q => h H1 e1 _ fun H2 e2 => q H2 e2
theorem et_and1 (h : ET X a σ H k) : ET X (.BoolOp .And [a] pos) σ H k := et_of (PW.pt (pw_and1 wt_self)) fun H1 e1 Q q => h H1 e1 _ q
theorem et_val (h : EV X e σ H (vB k)) (he : ∀ whole, isTrue e X.env whole = (do let v ← whole; standAt e.pos; holding [v] (truthy v)) := by intro _; rfl) : ET X e σ H k :=
  et_of (pt_val we_self he) fun H1 e1 Q q => h H1 e1 _ fun v H2 e2 p => ⟨k, p, q H2 e2⟩
theorem et_and {t : TT} (h : ET X a σ H k) (h2 : PW X (.BoolOp .And (b :: es) pos) t) (h3 : k = true → ∀ H1, Same H H1 → ∀ Q : Bool → Hp → Prop, (∀ H2, Same H1 H2 → Q l H2) → t σ H1 Q) : ET X (.BoolOp .And (a :: b :: es) pos) σ H (k && l) :=
  et_of (PW.pt (pw_and wt_self h2)) fun H1 e1 Q q => h H1 e1 _ fun H2 e2 => by
    cases k with
    | true => exact h3 rfl H2 (e1.trans e2) Q fun H3 e3 => q H3 (e2.trans e3)
    | false => exact q H2 e2
/-! and, or as chains of tests (whatever the whole) -/
def EW (X : Cx) (e : Expr) (σ : L2.St) (H : Hp) (b : Bool) : Prop := ∃ t, PW X e t ∧ ∀ H1, Same H H1 → ∀ Q : Bool → Hp → Prop, (∀ H2, Same H1 H2 → Q b H2) → t σ H1 Q
theorem EW.et (h : EW X e σ H k) : ET X e σ H k := let ⟨t, p, f⟩ := h; et_of p.pt f
theorem ew_and1 (h : ET X a σ H k) : EW X (.BoolOp .And [a] pos) σ H k := ⟨_, pw_and1 wt_self, fun H1 e1 Q q => h H1 e1 _ q⟩
theorem ew_or1 (h : ET X a σ H k) : EW X (.BoolOp .Or [a] pos) σ H k := ⟨_, pw_or1 wt_self, fun H1 e1 Q q => h H1 e1 _ q⟩
end
/-- the value of a test that comes to be asked only then -/
theorem ew_and {X : Cx} {a b : Expr} {es : List Expr} {σ : L2.St} {H : Hp} {pos : Pos} {k l : Bool} (h : ET X a σ H k) (h2 : ∃ t, PW X (.BoolOp .And (b :: es) pos) t ∧ (k = true → ∀ H1, Same H H1 → ∀ Q : Bool → Hp → Prop, (∀ H2, Same H1 H2 → Q l H2) → t σ H1 Q)) :
    EW X (.BoolOp .And (a :: b :: es) pos) σ H (k && l) := by
  obtain ⟨t, p, f⟩ := h2
  refine ⟨_, pw_and wt_self p, fun H1 e1 Q q => h H1 e1 _ fun H2 e2 => ?_⟩
  cases k with
  | true => exact f rfl H2 (e1.trans e2) Q fun H3 e3 => q H3 (e2.trans e3)
  | false => exact q H2 e2
theorem ew_or {X : Cx} {a b : Expr} {es : List Expr} {σ : L2.St} {H : Hp} {pos : Pos} {k l : Bool} (h : ET X a σ H k) (h2 : ∃ t, PW X (.BoolOp .Or (b :: es) pos) t ∧ (k = false → ∀ H1, Same H H1 → ∀ Q : Bool → Hp → Prop, (∀ H2, Same H1 H2 → Q l H2) → t σ H1 Q)) :
    EW X (.BoolOp .Or (a :: b :: es) pos) σ H (k || l) := by
  obtain ⟨t, p, f⟩ := h2
  refine ⟨_, pw_or wt_self p, fun H1 e1 Q q => h H1 e1 _ fun H2 e2 => ?_⟩
  cases k with
  | false => exact f rfl H2 (e1.trans e2) Q fun H3 e3 => q H3 (e2.trans e3)
  | true => exact q H2 e2
/-- a chain's end, asked only if it comes to it -/
theorem ew_last_and {X : Cx} {a : Expr} {σ : L2.St} {H : Hp} {pos : Pos} {l : Bool} {C : Prop} (h : C → ET X a σ H l) : ∃ t, PW X (.BoolOp .And [a] pos) t ∧ (C → ∀ H1, Same H H1 → ∀ Q : Bool → Hp → Prop, (∀ H2, Same H1 H2 → Q l H2) → t σ H1 Q) :=
  ⟨_, pw_and1 wt_self, fun c H1 e1 Q q => h c H1 e1 _ q⟩
theorem ew_last_or {X : Cx} {a : Expr} {σ : L2.St} {H : Hp} {pos : Pos} {l : Bool} {C : Prop} (h : C → ET X a σ H l) : ∃ t, PW X (.BoolOp .Or [a] pos) t ∧ (C → ∀ H1, Same H H1 → ∀ Q : Bool → Hp → Prop, (∀ H2, Same H1 H2 → Q l H2) → t σ H1 Q) :=
  ⟨_, pw_or1 wt_self, fun c H1 e1 Q q => h c H1 e1 _ q⟩
theorem ew_more_and {X : Cx} {a b : Expr} {es : List Expr} {σ : L2.St} {H : Hp} {pos : Pos} {k l : Bool} {C : Prop} (h : C → ET X a σ H k) (h2 : ∃ t, PW X (.BoolOp .And (b :: es) pos) t ∧ ((C ∧ k = true) → ∀ H1, Same H H1 → ∀ Q : Bool → Hp → Prop, (∀ H2, Same H1 H2 → Q l H2) → t σ H1 Q)) :
    ∃ t, PW X (.BoolOp .And (a :: b :: es) pos) t ∧ (C → ∀ H1, Same H H1 → ∀ Q : Bool → Hp → Prop, (∀ H2, Same H1 H2 → Q (k && l) H2) → t σ H1 Q) := by
  obtain ⟨t, p, f⟩ := h2
  refine ⟨_, pw_and wt_self p, fun c H1 e1 Q q => h c H1 e1 _ fun H2 e2 => ?_⟩
  cases k with
  | true => exact f ⟨c, rfl⟩ H2 (e1.trans e2) Q fun H3 e3 => q H3 (e2.trans e3)
  | false => exact q H2 e2
theorem ew_more_or {X : Cx} {a b : Expr} {es : List Expr} {σ : L2.St} {H : Hp} {pos : Pos} {k l : Bool} {C : Prop} (h : C → ET X a σ H k) (h2 : ∃ t, PW X (.BoolOp .Or (b :: es) pos) t ∧ ((C ∧ k = false) → ∀ H1, Same H H1 → ∀ Q : Bool → Hp → Prop, (∀ H2, Same H1 H2 → Q l H2) → t σ H1 Q)) :
    ∃ t, PW X (.BoolOp .Or (a :: b :: es) pos) t ∧ (C → ∀ H1, Same H H1 → ∀ Q : Bool → Hp → Prop, (∀ H2, Same H1 H2 → Q (k || l) H2) → t σ H1 Q) := by
  obtain ⟨t, p, f⟩ := h2
  refine ⟨_, pw_or wt_self p, fun c H1 e1 Q q => h c H1 e1 _ fun H2 e2 => ?_⟩
  cases k with
  | false => exact f ⟨c, rfl⟩ H2 (e1.trans e2) Q fun H3 e3 => q H3 (e2.trans e3)
  | true => exact q H2 e2
section
variable {X : Cx} {e a b c : Expr} {es : List Expr} {σ : L2.St} {H H' : Hp} {P P1 P2 P3 : V → Hp → Prop} {R : List V → Hp → Prop} {pos : Pos} {k : Bool}
/-- a if t else b -/
theorem ev_if (hc : ET X c σ H k) (ha : k = true → EV X a σ H P) (hb : k = false → EV X b σ H P) : EV X (.IfExp c a b pos) σ H P :=
  ev_of (pe_ifExp wt_self we_self we_self) fun H1 e1 Q q => hc H1 e1 _ fun H2 e2 => by
    cases k with
    | true => exact ha rfl H2 (e1.trans e2) Q fun v H3 e3 p => q v H3 (e2.trans e3) p
    | false => exact hb rfl H2 (e1.trans e2) Q fun v H3 e3 p => q v H3 (e2.trans e3) p
/-! args, tuples, lists -/
theorem ea_nil : EA X [] σ H (fun vs _ => vs = []) := fun H1 _ Q q => wa_of pa_nil (q [] H1 (Same.refl _) rfl)
theorem ea_cons [Stb P] (ha : EV X a σ H P) (hr : EA X es σ H R) (hs : starEach (a :: es) X.env = (false, eval a X.env) :: starEach es X.env := by rfl) : EA X (a :: es) σ H (fun vs H => ∃ v r, vs = v :: r ∧ P v H ∧ R r H) :=
  fun H1 e1 Q q => wa_of (pa_cons we_self wa_self hs) (ha H1 e1 _ fun v H2 e2 p => hr H2 (e1.trans e2) _ fun r H3 e3 p2 => q _ H3 (e2.trans e3) ⟨v, r, rfl, Stb.mono e3 p, p2⟩)
theorem ea_one (ha : EV X a σ H P) (hs : starEach [a] X.env = (false, eval a X.env) :: starEach [] X.env := by rfl) : EA X [a] σ H (fun vs H => ∃ v, vs = [v] ∧ P v H) :=
  fun H1 e1 Q q => wa_of (pa_cons we_self pa_nil hs) (ha H1 e1 _ fun v H2 e2 p => q _ H2 e2 ⟨v, rfl, p⟩)
theorem ea_two [Stb P1] (ha : EV X a σ H P1) (hb : EV X b σ H P2) (hs : starEach [a, b] X.env = (false, eval a X.env) :: starEach [b] X.env := by rfl) (hs2 : starEach [b] X.env = (false, eval b X.env) :: starEach [] X.env := by rfl) :
    EA X [a, b] σ H (fun vs H => ∃ v w, vs = [v, w] ∧ P1 v H ∧ P2 w H) :=
  fun H1 e1 Q q => wa_of (pa_cons we_self (pa_cons we_self pa_nil hs2) hs) (ha H1 e1 _ fun v H2 e2 p => hb H2 (e1.trans e2) _ fun w H3 e3 p2 => q _ H3 (e2.trans e3) ⟨v, w, rfl, Stb.mono e3 p, p2⟩)
theorem ev_tup {x1 n} (h : EA X es σ H R) (hn : ∀ vs H, R vs H → vs.length ≤ n) (hz : n ≤ 1000 := by decide) : EV X (.Tuple es x1 pos) σ H (fun v H => ∃ p vs H1, v = .ref p ∧ H p = some (.tup vs) ∧ Same H1 H ∧ R vs H1) :=
  ev_of (pe_tup wa_self) fun H1 e1 Q q => h H1 e1 _ fun vs H2 e2 r => ⟨Nat.le_trans (Nat.le_trans (hn vs H2 r) hz) (by decide), fun p hp => q _ _ (e2.trans (same_new hp)) ⟨p, vs, H2, rfl, upd_same, same_new hp, r⟩⟩
theorem ev_lst {n} (h : EA X es σ H R) (hn : ∀ vs H, R vs H → vs.length ≤ n) (hz : n ≤ 1000 := by decide) : EV X (.List es pos) σ H (fun v H' => ∃ p vs H1, v = .ref p ∧ H p = none ∧ H' p = some (.lst vs) ∧ Same H1 H' ∧ R vs H1) :=
  ev_of (pe_lst wa_self) fun H1 e1 Q q => h H1 e1 _ fun vs H2 e2 r => ⟨Nat.le_trans (Nat.le_trans (hn vs H2 r) hz) (by decide), fun p hp => q _ _ (e2.trans (same_new hp)) ⟨p, vs, H2, rfl, (e1.trans e2).free hp, upd_same, same_new hp, r⟩⟩
/-- a pair of ints -/
theorem ev_pair {x1} {i j : Int} (ha : EV X a σ H (vI i)) (hb : EV X b σ H (vI j)) (hs : starEach [a, b] X.env = (false, eval a X.env) :: starEach [b] X.env := by rfl) (hs2 : starEach [b] X.env = (false, eval b X.env) :: starEach [] X.env := by rfl) : EV X (.Tuple [a, b] x1 pos) σ H (vT X.K [.int i, .int j]) :=
  (ev_tup (ea_two ha hb hs hs2) (n := 2) (fun vs H ⟨v, w, e, _⟩ => by rw [e]; exact Nat.le_refl 2)).imp fun v H' _ ⟨p, vs, H1, e1, e2, _, v', w', e3, p1, p2⟩ => ⟨p, e1, SqT.of (by rw [e2, e3, p1, p2])⟩
theorem ev_q {x1} {i j : Int} {q : Rat} (ha : EV X a σ H (vI i)) (hb : EV X b σ H (vI j)) (h1 : q.num = i) (h2 : (q.den : Int) = j) (hs : starEach [a, b] X.env = (false, eval a X.env) :: starEach [b] X.env := by rfl) (hs2 : starEach [b] X.env = (false, eval b X.env) :: starEach [] X.env := by rfl) : EV X (.Tuple [a, b] x1 pos) σ H (vQ X.K q) := by
  subst h1; subst h2; exact ev_pair ha hb hs hs2
/-! places -/
theorem ev_ixT {xs : List V} {i : Int} {v : V} (ha : EV X a σ H (vT X.K xs)) (hb : EV X b σ H (vI i)) (hi : atI xs i = some v) (hs : PlainIx b := by exact fun _ _ => rfl) : EV X (.Subscript a b pos) σ H (vE v) :=
  ev_of (pe_ix ix_tup we_self we_self hs) fun H1 e1 Q q => ha H1 e1 _ fun x H2 e2 ⟨p, ex, hp⟩ => hb H2 (e1.trans e2) _ fun y H3 e3 ey => ⟨p, xs, i, v, ex, ey, sameT e3 hp, hi, q v H3 (e2.trans e3) rfl⟩
theorem ev_ixL {xs : List V} {i : Int} {v : V} (ha : EV X a σ H (vL X.K xs)) (hb : EV X b σ H (vI i)) (hi : atI xs i = some v) (hs : PlainIx b := by exact fun _ _ => rfl) : EV X (.Subscript a b pos) σ H (vE v) :=
  ev_of (pe_ix ix_list we_self we_self hs) fun H1 e1 Q q => ha H1 e1 _ fun x H2 e2 ⟨p, ex, hp⟩ => hb H2 (e1.trans e2) _ fun y H3 e3 ey => ⟨p, xs, i, v, ex, ey, e3.seq hp, hi, q v H3 (e2.trans e3) rfl⟩
theorem ev_num {q : Rat} {p2} {j} (ha : EV X a σ H (vQ X.K q)) : EV X (.Subscript a (.Constant (.int 0) j p2) pos) σ H (vI q.num) := ev_ixT ha ev_i rfl
theorem ev_den {q : Rat} {p2} {j} (ha : EV X a σ H (vQ X.K q)) : EV X (.Subscript a (.Constant (.int 1) j p2) pos) σ H (vI (q.den : Int)) := ev_ixT ha ev_i rfl
end
/-! ### defs of the module -/
/-- the def that the module's name x holds keeps the promise sp -/
structure Has (P : Program) (w : World) (K : PySem.W.Frag) (mg : Str → Option Value) (base : Heap) (CX : CXT) (x : Str) (k : Nat) (ps : List Str) (sp : Sp) : Prop where
  ex : ∃ f fd, FnOk P w K mg base CX k f fd ps sp ∧ mg x = some (.ref f) ∧ PySem.W.keepIn K (.ref f) = true ∧ Binds K fd ps []
section
variable {X : Cx} {e a b c : Expr} {es : List Expr} {σ : L2.St} {H H' : Hp} {P P1 P2 P3 : V → Hp → Prop} {R : List V → Hp → Prop} {pos p : Pos} {k : Nat} {ps : List Str} {sp : Sp} {x : Str}
theorem ev_call (F : Has X.prog X.w X.K X.mg X.base CX0 x k ps sp) (hr : Room k X.A) (ha : EA X (e :: es) σ H R) (hsp : ∀ vs H1, Same H H1 → R vs H1 → ∀ Q : VK, (∀ v H2, Same H1 H2 → P v H2 → Q v H2) → sp vs H1 Q E0)
    (hg : Gl X x := by rfl) (hdb : (x == ("__debug__" : Str)) = false := by decide) (he : starEach (e :: es) X.env = (false, eval e X.env) :: starEach es X.env := by rfl) (hpl : (backTo pos (starEach es X.env)).any (·.1) = false := by rfl) :
    EV X (.Call (.Name x p) (e :: es) [] pos) σ H P := by
  obtain ⟨f, fd, G, hm, hk, hb⟩ := F.ex
  refine ev_of (pe_call G hr hg hm hk hb .nil pass0 wa_self hdb he hpl) fun H1 e1 Q q => ?_
  refine ha H1 e1 _ fun vs H2 e2 r => ?_
  rw [List.append_nil]
  exact hsp vs H2 (e1.trans e2) r Q fun v H3 e3 p => q v H3 (e2.trans e3) p
theorem ev_bltn {id : String} {r : List V → Hp → VK → Prop} (hc : CallR X (.builtin id) r) (hm : X.mg x = none) (ha : EA X (e :: es) σ H R) (hr : ∀ vs H1, Same H H1 → R vs H1 → ∀ Q : VK, (∀ v H2, Same H1 H2 → P v H2 → Q v H2) → r vs H1 Q)
    (hv : bootBuiltins x = some (.builtin id) := by decide +kernel) (hg : Gl X x := by rfl) (hn : x ≠ "__name__" := by decide) (hdb : (x == ("__debug__" : Str)) = false := by decide)
    (he : starEach (e :: es) X.env = (false, eval e X.env) :: starEach es X.env := by rfl) (hpl : (backTo pos (starEach es X.env)).any (·.1) = false := by rfl) : EV X (.Call (.Name x p) (e :: es) [] pos) σ H P :=
  ev_of (pe_callB hc hg hm hv wa_self hn hdb he hpl) fun H1 e1 Q q => ha H1 e1 _ fun vs H2 e2 rr => hr vs H2 (e1.trans e2) rr Q fun v H3 e3 p => q v H3 (e2.trans e3) p
theorem ev_ty {id : String} {r : List V → Hp → VK → Prop} (hc : CallR X (.type id) r) (hm : X.mg x = none) (ha : EA X (e :: es) σ H R) (hr : ∀ vs H1, Same H H1 → R vs H1 → ∀ Q : VK, (∀ v H2, Same H1 H2 → P v H2 → Q v H2) → r vs H1 Q)
    (hv : bootBuiltins x = some (.type id) := by decide +kernel) (hg : Gl X x := by rfl) (hn : x ≠ "__name__" := by decide) (hdb : (x == ("__debug__" : Str)) = false := by decide)
    (he : starEach (e :: es) X.env = (false, eval e X.env) :: starEach es X.env := by rfl) (hpl : (backTo pos (starEach es X.env)).any (·.1) = false := by rfl) : EV X (.Call (.Name x p) (e :: es) [] pos) σ H P :=
  ev_of (pe_callTy hc hg hm hv wa_self hn hdb he hpl) fun H1 e1 Q q => ha H1 e1 _ fun vs H2 e2 rr => hr vs H2 (e1.trans e2) rr Q fun v H3 e3 p => q v H3 (e2.trans e3) p
end
/-! ### statements -/
section
variable {X : Cx} {e a b c : Expr} {es : List Expr} {σ : L2.St} {H H' : Hp} {P P1 P2 P3 : V → Hp → Prop} {R : List V → Hp → Prop} {pos : Pos} {D : Ends} {st : Stmt} {rest A B : List Stmt} {k : Bool}
theorem ss_nil (h : D.nx σ H) : WSs X [] D σ H := wss_of pss_nil h
theorem ss_cons (h : WS X st { D with nx := WSs X rest D } σ H) : WSs X (st :: rest) D σ H := wss_of (pss_cons ws_self wss_self) h
theorem ss_one (h : WS X st D σ H) : WSs X [st] D σ H := wss_of (pss_one ws_self) h
theorem s_set {i : Nat} {x : Str} {pos' : Pos} (he : EV X e σ H P) (h : ∀ v H', Same H H' → P v H' → D.nx (σ.set i (some v)) H') (hN : X.N.Nodup := by assumption) (hi : X.N[i]? = some x := by rfl) (hx : Loc X.env.scope x := by first | exact Or.inl rfl | exact Or.inr rfl) (hs : swapsWith e (some (.Name x pos')) pos.line X.env = pure false := by rfl) (hf : X.fn x = true ∨ X.env.scope.names.lookup x = some .local := by first | exact .inl rfl | exact .inr rfl) :
    WS X (.Assign [.Name x pos'] e pos) D σ H := ws_of (ps_set hN hi hx we_self hs hf) (he.go h)
theorem s_ret (he : EV X e σ H P) (h : ∀ v H', Same H H' → P v H' → D.rt v H') : WS X (.Return (some e) pos) D σ H := ws_of (ps_ret we_self) (he.go h)
theorem s_if (hc : ET X c σ H k) (ha : k = true → ∀ H', Same H H' → WSs X A D σ H') (hb : k = false → ∀ H', Same H H' → WSs X B D σ H') : WS X (.If c A B pos) D σ H :=
  ws_of (ps_if wt_self wss_self wss_self) (hc.go fun H2 e2 => by
    cases k with
    | true => exact ha rfl H2 e2
    | false => exact hb rfl H2 e2)
theorem s_expr (he : EV X e σ H P) (h : ∀ v H', Same H H' → P v H' → D.nx σ H') (hs : swapsWith e none pos.line X.env = pure false := by rfl) : WS X (.Expr e pos) D σ H := ws_of (ps_expr we_self hs) (he.go fun v H2 e2 p => h v H2 e2 p)
end
end Dw
set_option Elab.async false
set_option linter.all false
set_option maxRecDepth 100000
set_option maxHeartbeats 4000000
namespace Dw
open PySem PySem.Spec PyProof.Rows L2
/-! ### sizes -/
def Sz (n : Nat) (q : Rat) : Prop := q.num.natAbs < 2 ^ n ∧ q.den < 2 ^ n
theorem Sz.mono {n m : Nat} {q : Rat} (h : Sz n q) (l : n ≤ m) : Sz m q := ⟨Nat.lt_of_lt_of_le h.1 (Nat.pow_le_pow_right (by decide) l), Nat.lt_of_lt_of_le h.2 (Nat.pow_le_pow_right (by decide) l)⟩
theorem divInt_size (t b : Int) (hb : b ≠ 0) : (Rat.divInt t b).num.natAbs ≤ t.natAbs ∧ (Rat.divInt t b).den ≤ b.natAbs := by
  constructor
  · rw [Rat.num_divInt]
    refine Nat.le_trans (Int.natAbs_ediv_le_natAbs _ _) ?_
    rw [Int.natAbs_mul]
    have : b.sign.natAbs ≤ 1 := by
      rcases Int.lt_trichotomy b 0 with h | h | h
      · rw [Int.sign_eq_neg_one_of_neg h]; decide
      · omega
      · rw [Int.sign_eq_one_of_pos h]; decide
    calc b.sign.natAbs * t.natAbs ≤ 1 * t.natAbs := Nat.mul_le_mul_right _ this
      _ = t.natAbs := Nat.one_mul _
  · rw [Rat.den_divInt, if_neg hb]
    exact Nat.div_le_self _ _
theorem add_divInt (a b : Rat) : a + b = Rat.divInt (a.num * (b.den : Int) + b.num * (a.den : Int)) ((a.den : Int) * (b.den : Int)) := by
  rw [Rat.add_def', ← Rat.divInt_ofNat]
  simp
theorem sub_divInt (a b : Rat) : a - b = Rat.divInt (a.num * (b.den : Int) - b.num * (a.den : Int)) ((a.den : Int) * (b.den : Int)) := by
  rw [Rat.sub_def', ← Rat.divInt_ofNat]
  simp
theorem mul_divInt (a b : Rat) : a * b = Rat.divInt (a.num * b.num) ((a.den : Int) * (b.den : Int)) := by
  rw [Rat.mul_def', ← Rat.divInt_ofNat]
  simp
theorem div_divInt (a b : Rat) : a / b = Rat.divInt (a.num * (b.den : Int)) ((a.den : Int) * b.num) := by
  rw [Rat.div_def, Rat.inv_def]
  conv => lhs; rw [← Rat.num_divInt_den a]
  rw [Rat.divInt_mul_divInt]
theorem den_ne {a : Rat} : (a.den : Int) ≠ 0 := by have := a.den_nz; omega
theorem den_pos {a : Rat} : (0 : Int) < (a.den : Int) := by have := a.den_nz; omega
theorem num_ne {a : Rat} (h : a ≠ 0) : a.num ≠ 0 := fun z => h (Rat.num_eq_zero.mp z)
theorem lt_add2 {x y n : Nat} (hx : x < 2 ^ n) (hy : y < 2 ^ n) : x + y < 2 ^ (n + 1) := by rw [Nat.pow_succ]; omega
theorem Sz.num_mul {m n : Nat} {a b : Rat} (h1 : Sz m a) (h2 : Sz n b) : (a.num * (b.den : Int)).natAbs < 2 ^ (m + n) := wide_lt h1.1 (by simpa using h2.2)
theorem Sz.den_mul {m n : Nat} {a b : Rat} (h1 : Sz m a) (h2 : Sz n b) : ((a.den : Int) * (b.den : Int)).natAbs < 2 ^ (m + n) := wide_lt (by simpa using h1.2) (by simpa using h2.2)
theorem Sz.add {m n : Nat} {a b : Rat} (h1 : Sz m a) (h2 : Sz n b) : Sz (m + n + 1) (a + b) := by
  rw [add_divInt]
  obtain ⟨x, y⟩ := divInt_size (a.num * (b.den : Int) + b.num * (a.den : Int)) ((a.den : Int) * (b.den : Int)) (Int.mul_ne_zero den_ne den_ne)
  have z1 := h1.num_mul h2
  have z2 := h2.num_mul h1
  have z3 := h1.den_mul h2
  rw [Nat.add_comm n m] at z2
  have z4 := lt_add2 z1 z2
  have z5 := Int.natAbs_add_le (a.num * (b.den : Int)) (b.num * (a.den : Int))
  refine ⟨by omega, ?_⟩
  have : 2 ^ (m + n) < 2 ^ (m + n + 1) := Nat.pow_lt_pow_right (by decide) (by omega)
  omega
theorem Sz.neg {n : Nat} {a : Rat} (h : Sz n a) : Sz n (-a) := ⟨by rw [Rat.neg_num, Int.natAbs_neg]; exact h.1, by rw [Rat.neg_den]; exact h.2⟩
theorem Sz.sub {m n : Nat} {a b : Rat} (h1 : Sz m a) (h2 : Sz n b) : Sz (m + n + 1) (a - b) := by
  rw [Rat.sub_eq_add_neg]; exact h1.add h2.neg
theorem Sz.mul {m n : Nat} {a b : Rat} (h1 : Sz m a) (h2 : Sz n b) : Sz (m + n) (a * b) := by
  rw [mul_divInt]
  obtain ⟨x, y⟩ := divInt_size (a.num * b.num) ((a.den : Int) * (b.den : Int)) (Int.mul_ne_zero den_ne den_ne)
  exact ⟨Nat.lt_of_le_of_lt x (wide_lt h1.1 h2.1), Nat.lt_of_le_of_lt y (h1.den_mul h2)⟩
theorem Sz.int {n : Nat} {i : Int} (h : i.natAbs < 2 ^ n) (h0 : 0 < n) : Sz n (i : Rat) := ⟨h, by
  show 1 < 2 ^ n
  exact Nat.one_lt_two_pow (by omega)⟩
theorem Sz.div {m n : Nat} {a b : Rat} (h1 : Sz m a) (h2 : Sz n b) (hb : b ≠ 0) : Sz (m + n) (a / b) := by
  rw [div_divInt]
  obtain ⟨x, y⟩ := divInt_size (a.num * (b.den : Int)) ((a.den : Int) * b.num) (Int.mul_ne_zero den_ne (num_ne hb))
  exact ⟨Nat.lt_of_le_of_lt x (h1.num_mul h2), Nat.lt_of_le_of_lt y (wide_lt (i := (a.den : Int)) (by simpa using h1.2) h2.1)⟩
/-- the factor below which all is well -/
abbrev L : Nat := 4400
theorem mulW {i j : Int} {a b : Nat} (ha : i.natAbs < 2 ^ a) (hb : j.natAbs < 2 ^ b) (h0 : 0 < a := by decide) (h1 : 0 < b := by decide) (h : a + b ≤ 1000000 := by decide) : CMulW i j := wide_mul ha hb h0 h1 h
theorem log9 {j : Int} {b : Nat} (hb : j.natAbs < 2 ^ b) (h0 : 0 < b := by decide) (h : b ≤ 9000 := by decide) : j.natAbs.log2 < 9000 := Nat.lt_of_lt_of_le (PySem.Flt.log2_lt_of h0 hb) h
/-! ### ratio(top, bottom) -/
theorem gcd_dvd (t b : Int) : ((Nat.gcd t.natAbs b.natAbs : Nat) : Int) ∣ t ∧ ((Nat.gcd t.natAbs b.natAbs : Nat) : Int) ∣ b :=
  ⟨Int.ofNat_dvd_left.2 (Nat.gcd_dvd_left _ _), Int.ofNat_dvd_left.2 (Nat.gcd_dvd_right _ _)⟩
theorem gcd_pos {t b : Int} (hb : b ≠ 0) : (0 : Int) < ((Nat.gcd t.natAbs b.natAbs : Nat) : Int) := by
  have : 0 < Nat.gcd t.natAbs b.natAbs := Nat.gcd_pos_of_pos_right _ (by omega)
  omega
theorem gcd_le {t b : Int} (hb : b ≠ 0) : Nat.gcd t.natAbs b.natAbs ≤ b.natAbs := Nat.le_of_dvd (by omega) (Nat.gcd_dvd_right _ _)
def common (t b : Int) : Int := if 0 < b then ((Nat.gcd t.natAbs b.natAbs : Nat) : Int) else 0 - ((Nat.gcd t.natAbs b.natAbs : Nat) : Int)
theorem common_ne {t b : Int} (hb : b ≠ 0) : common t b ≠ 0 := by
  have := gcd_pos (t := t) hb
  unfold common; split <;> omega
theorem common_abs {t b : Int} (hb : b ≠ 0) : (common t b).natAbs ≤ b.natAbs := by
  have := gcd_le (t := t) hb
  unfold common; split <;> omega
theorem ratio_num {t b : Int} (hb : b ≠ 0) : (Rat.divInt t b).num = t.fdiv (common t b) := by
  have hg := gcd_dvd t b
  have hp := gcd_pos (t := t) hb
  have e : ((b.gcd t : Nat) : Int) = ((Nat.gcd t.natAbs b.natAbs : Nat) : Int) := by
    rw [show b.gcd t = Nat.gcd b.natAbs t.natAbs from rfl, Nat.gcd_comm]
  rw [Rat.num_divInt, e]
  unfold common
  by_cases h : 0 < b
  · rw [if_pos h, Int.sign_eq_one_of_pos h, Int.one_mul, Int.fdiv_eq_ediv_of_dvd hg.1]
  · rw [if_neg h, Int.sign_eq_neg_one_of_neg (by omega), Int.zero_sub, Int.fdiv_eq_ediv_of_dvd ((Int.neg_dvd).mpr hg.1), Int.ediv_neg, Int.neg_mul, Int.one_mul, Int.neg_ediv_of_dvd hg.1]
theorem ratio_den {t b : Int} (hb : b ≠ 0) : (((Rat.divInt t b).den : Nat) : Int) = b.fdiv (common t b) := by
  have hg := gcd_dvd t b
  have hp := gcd_pos (t := t) hb
  have e : b.gcd t = Nat.gcd t.natAbs b.natAbs := by
    rw [show b.gcd t = Nat.gcd b.natAbs t.natAbs from rfl, Nat.gcd_comm]
  rw [Rat.den_divInt, if_neg hb, e, Int.natCast_ediv]
  unfold common
  by_cases h : 0 < b
  · rw [if_pos h, Int.fdiv_eq_ediv_of_dvd hg.2]
    congr 1; omega
  · rw [if_neg h, Int.zero_sub, Int.fdiv_eq_ediv_of_dvd ((Int.neg_dvd).mpr hg.2), Int.ediv_neg, ← Int.neg_ediv_of_dvd hg.2]
    congr 1; omega
section
variable {P : Program} {w : World} {K : PySem.W.Frag} {mg : Str → Option Value} {base : Heap}
def spRatio (K : PySem.W.Frag) : Sp := fun vs H Q _ => ∃ t b : Int, vs = [.int t, .int b] ∧ b ≠ 0 ∧ b.natAbs < 2 ^ 9000 ∧ ∀ v H', Same H H' → vQ K (Rat.divInt t b) v H' → Q v H'
/-- a def of two ratios -/
def sp2 (K : PySem.W.Frag) (ok : Rat → Rat → Prop) (R : Rat → Rat → V → Hp → Prop) : Sp := fun vs H Q _ => ∃ (x y : V) (a b : Rat), vs = [x, y] ∧ vQ K a x H ∧ vQ K b y H ∧ ok a b ∧ ∀ v H', Same H H' → R a b v H' → Q v H'
def okL (a b : Rat) : Prop := Sz L a ∧ Sz L b
def okD (a b : Rat) : Prop := Sz L a ∧ Sz L b ∧ b ≠ 0
abbrev sRatio : Stmt := top 9
abbrev sPlus : Stmt := top 10
abbrev sMinus : Stmt := top 11
abbrev sBy : Stmt := top 12
abbrev sOver : Stmt := top 13
abbrev sLess : Stmt := top 14
theorem scRatio : FnScope ["top", "bottom", "common"] ["top", "bottom"] (defScope sRatio) := ⟨rfl, rfl, rfl, by decide +kernel, rfl, by decide +kernel, by decide +kernel⟩
theorem sc2 {st : Stmt} (h1 : (defScope st).kind = .function := by rfl) (h2 : (defScope st).isCoroutine = false := by rfl) (h3 : (defScope st).isGenerator = false := by rfl) (h4 : (∀ x ∈ (["one", "other"] : List Str), (defScope st).names.lookup x = some .local ∨ (defScope st).names.lookup x = some .cell) := by decide +kernel) (h5 : ∀ y ∈ (defScope st).names, y.2 ≠ .free := by decide +kernel) : FnScope ["one", "other"] ["one", "other"] (defScope st) := ⟨h1, h2, h3, by decide +kernel, rfl, h4, h5⟩
theorem ok_ratio {f : Addr} {fd : FuncData} (F : Fun K "ratio" "ratio" sRatio f fd) (hgcd : mg "gcd" = some (.builtin "math.gcd")) : FnOk P w K mg base CX0 1 f fd ["top", "bottom"] (spRatio K) := by
  refine F.ok scRatio (fun vs H Q E h => ?_) (fun cdv A outer s H vs Q E hr h => ⟨_, wss_self, ?_⟩)
  · obtain ⟨t, b, rfl, _⟩ := h; rfl
  obtain ⟨t, b, rfl, hb, hz, k⟩ := h
  have nd := scRatio.nd
  have cg : ∀ X : Cx, X.mg = mg → ∀ (σ : L2.St) (H : Hp) (es : List Expr) (e : Expr) (p pos : Pos), Gl X "gcd" → EA X (e :: es) σ H (fun vs H => ∃ v w, vs = [v, w] ∧ vI t v H ∧ vI b w H) → starEach (e :: es) X.env = (false, eval e X.env) :: starEach es X.env → (backTo pos (starEach es X.env)).any (·.1) = false →
      EV X (.Call (.Name "gcd" p) (e :: es) [] pos) σ H (vI ((Nat.gcd t.natAbs b.natAbs : Nat) : Int)) := fun X hX σ H es e p pos hg ha hs hs2 => by
    refine ev_of (pe_callBfun cr_gcd hg (by rw [hX]; exact hgcd) wa_self (by decide) hs hs2) fun H1 e1 Q q => ha H1 e1 _ fun vs H2 e2 ⟨v, w', ev, e3, e4⟩ => ?_
    refine ⟨t, b, by rw [ev, e3, e4], q _ H2 e2 rfl⟩
  refine ss_cons (s_set (P := vI (common t b)) (i := 2) (ev_if (et_gt (ev_v 1 (P := vI b) rfl) ev_i) (fun h => ?_) (fun h => ?_)) fun v H1 e1 hv => ?_)
  · have h0 : 0 < b := of_decide_eq_true h
    have : common t b = ((Nat.gcd t.natAbs b.natAbs : Nat) : Int) := if_pos h0
    rw [this]
    exact cg _ rfl _ _ _ _ _ _ rfl (ea_two (ev_v 0 (P := vI t) rfl) (ev_v 1 (P := vI b) rfl)) rfl rfl
  · have h0 : ¬ 0 < b := of_decide_eq_false h
    have : common t b = 0 - ((Nat.gcd t.natAbs b.natAbs : Nat) : Int) := if_neg h0
    rw [this]
    exact ev_sub ev_i (cg _ rfl _ _ _ _ _ _ rfl (ea_two (ev_v 0 (P := vI t) rfl) (ev_v 1 (P := vI b) rfl)) rfl rfl)
  · cases hv
    have hc : common t b ≠ 0 ∧ (common t b).natAbs.log2 < 9000 := ⟨common_ne hb, log9 (Nat.lt_of_le_of_lt (common_abs hb) hz)⟩
    refine ss_one (s_ret (ev_q (q := Rat.divInt t b) (ev_div (ev_v 0 (P := vI t) rfl) (ev_v 2 (P := vI (common t b)) rfl) hc) (ev_div (ev_v 1 (P := vI b) rfl) (ev_v 2 (P := vI (common t b)) rfl) hc) (ratio_num hb) (ratio_den hb)) fun v H2 e2 hv => k v H2 (e1.trans e2) hv)
end
end Dw
set_option Elab.async false
set_option linter.all false
set_option maxRecDepth 100000
set_option maxHeartbeats 4000000
namespace Dw
open PySem PySem.Spec PyProof.Rows L2
section
variable {P : Program} {w : World} {K : PySem.W.Frag} {mg : Str → Option Value} {base : Heap}
/-- ratio(e, e') -/
theorem ev_ratio {X : Cx} {a b : Expr} {σ : L2.St} {H : Hp} {p pos : Pos} {t u : Int} {q : Rat} {k : Nat} (hR : Has X.prog X.w X.K X.mg X.base CX0 "ratio" k ["top", "bottom"] (spRatio X.K)) (hr : Room k X.A) (ha : EV X a σ H (vI t)) (hb : EV X b σ H (vI u)) (h0 : u ≠ 0) (h9 : u.natAbs < 2 ^ 9000) (hq : q = Rat.divInt t u)
    (hg : Gl X "ratio" := by rfl) (hs : starEach [a, b] X.env = (false, eval a X.env) :: starEach [b] X.env := by rfl) (hs2 : starEach [b] X.env = (false, eval b X.env) :: starEach [] X.env := by rfl) (hpl : (backTo pos (starEach [b] X.env)).any (·.1) = false := by rfl) :
    EV X (.Call (.Name "ratio" p) [a, b] [] pos) σ H (vQ X.K q) :=
  ev_call hR hr (ea_two ha hb hs hs2) (fun vs H1 e1 ⟨v, w', ev, e2, e3⟩ Q k => ⟨t, u, by rw [ev, e2, e3], h0, h9, fun z H2 e4 hz => k z H2 e4 (by rw [hq]; exact hz)⟩) hg (by decide) hs hpl
theorem szD {a b : Rat} (h1 : Sz L a) (h2 : Sz L b) : ((a.den : Int) * (b.den : Int)).natAbs < 2 ^ 9000 := Nat.lt_of_lt_of_le (h1.den_mul h2) (Nat.pow_le_pow_right (by decide) (by decide))
theorem mND {a b : Rat} (h1 : Sz L a) (h2 : Sz L b) : CMulW a.num (b.den : Int) := mulW (a := L) (b := L) h1.1 (by simpa using h2.2)
theorem mDN {a b : Rat} (h1 : Sz L a) (h2 : Sz L b) : CMulW (a.den : Int) b.num := mulW (a := L) (b := L) (by simpa using h1.2) h2.1
theorem mNN {a b : Rat} (h1 : Sz L a) (h2 : Sz L b) : CMulW a.num b.num := mulW (a := L) (b := L) h1.1 h2.1
theorem mDD {a b : Rat} (h1 : Sz L a) (h2 : Sz L b) : CMulW (a.den : Int) (b.den : Int) := mulW (a := L) (b := L) (by simpa using h1.2) (by simpa using h2.2)
abbrev HasR (P : Program) (w : World) (K : PySem.W.Frag) (mg : Str → Option Value) (base : Heap) : Prop := Has P w K mg base CX0 "ratio" 1 ["top", "bottom"] (spRatio K)
theorem len2 {ok : Rat → Rat → Prop} {R : Rat → Rat → V → Hp → Prop} (vs : List V) (H : Hp) (Q : VK) (E : XK) (h : sp2 K ok R vs H Q E) : vs.length = (["one", "other"] : List Str).length := by
  obtain ⟨x, y, a, b, rfl, _⟩ := h; rfl
theorem ok_plus {f : Addr} {fd : FuncData} (F : Fun K "plus" "plus" sPlus f fd) (hR : HasR P w K mg base) : FnOk P w K mg base CX0 2 f fd ["one", "other"] (sp2 K okL fun a b => vQ K (a + b)) := by
  refine F.ok sc2 len2 (fun cdv A outer s H vs Q E hr h => ⟨_, wss_self, ?_⟩)
  obtain ⟨x, y, a, b, rfl, ha, hb, ⟨h1, h2⟩, k⟩ := h
  exact ss_one (s_ret (ev_ratio (q := a + b) hR hr
    (ev_add (ev_mul (ev_num (ev_v 0 ha)) (ev_den (ev_v 1 hb)) (mND h1 h2)) (ev_mul (ev_num (ev_v 1 hb)) (ev_den (ev_v 0 ha)) (mND h2 h1)))
    (ev_mul (ev_den (ev_v 0 ha)) (ev_den (ev_v 1 hb)) (mDD h1 h2)) (Int.mul_ne_zero den_ne den_ne) (szD h1 h2) (add_divInt a b)) k)
theorem ok_minus {f : Addr} {fd : FuncData} (F : Fun K "minus" "minus" sMinus f fd) (hR : HasR P w K mg base) : FnOk P w K mg base CX0 2 f fd ["one", "other"] (sp2 K okL fun a b => vQ K (a - b)) := by
  refine F.ok sc2 len2 (fun cdv A outer s H vs Q E hr h => ⟨_, wss_self, ?_⟩)
  obtain ⟨x, y, a, b, rfl, ha, hb, ⟨h1, h2⟩, k⟩ := h
  exact ss_one (s_ret (ev_ratio (q := a - b) hR hr
    (ev_sub (ev_mul (ev_num (ev_v 0 ha)) (ev_den (ev_v 1 hb)) (mND h1 h2)) (ev_mul (ev_num (ev_v 1 hb)) (ev_den (ev_v 0 ha)) (mND h2 h1)))
    (ev_mul (ev_den (ev_v 0 ha)) (ev_den (ev_v 1 hb)) (mDD h1 h2)) (Int.mul_ne_zero den_ne den_ne) (szD h1 h2) (sub_divInt a b)) k)
theorem ok_by {f : Addr} {fd : FuncData} (F : Fun K "by" "by" sBy f fd) (hR : HasR P w K mg base) : FnOk P w K mg base CX0 2 f fd ["one", "other"] (sp2 K okL fun a b => vQ K (a * b)) := by
  refine F.ok sc2 len2 (fun cdv A outer s H vs Q E hr h => ⟨_, wss_self, ?_⟩)
  obtain ⟨x, y, a, b, rfl, ha, hb, ⟨h1, h2⟩, k⟩ := h
  exact ss_one (s_ret (ev_ratio (q := a * b) hR hr
    (ev_mul (ev_num (ev_v 0 ha)) (ev_num (ev_v 1 hb)) (mNN h1 h2))
    (ev_mul (ev_den (ev_v 0 ha)) (ev_den (ev_v 1 hb)) (mDD h1 h2)) (Int.mul_ne_zero den_ne den_ne) (szD h1 h2) (mul_divInt a b)) k)
theorem szDN {a b : Rat} (h1 : Sz L a) (h2 : Sz L b) : ((a.den : Int) * b.num).natAbs < 2 ^ 9000 := Nat.lt_of_lt_of_le (wide_lt (a := L) (b := L) (by simpa using h1.2) h2.1) (Nat.pow_le_pow_right (by decide) (by decide))
theorem ok_over {f : Addr} {fd : FuncData} (F : Fun K "over" "over" sOver f fd) (hR : HasR P w K mg base) : FnOk P w K mg base CX0 2 f fd ["one", "other"] (sp2 K okD fun a b => vQ K (a / b)) := by
  refine F.ok sc2 len2 (fun cdv A outer s H vs Q E hr h => ⟨_, wss_self, ?_⟩)
  obtain ⟨x, y, a, b, rfl, ha, hb, ⟨h1, h2, h0⟩, k⟩ := h
  exact ss_one (s_ret (ev_ratio (q := a / b) hR hr
    (ev_mul (ev_num (ev_v 0 ha)) (ev_den (ev_v 1 hb)) (mND h1 h2))
    (ev_mul (ev_den (ev_v 0 ha)) (ev_num (ev_v 1 hb)) (mDN h1 h2)) (Int.mul_ne_zero den_ne (num_ne h0)) (szDN h1 h2) (div_divInt a b)) k)
theorem less_iff (a b : Rat) : decide (a.num * (b.den : Int) < b.num * (a.den : Int)) = decide (a < b) := by
  rw [decide_eq_decide]; exact (Rat.lt_iff a b).symm
theorem ok_less {f : Addr} {fd : FuncData} (F : Fun K "less" "less" sLess f fd) : FnOk P w K mg base CX0 1 f fd ["one", "other"] (sp2 K okL fun a b => vB (decide (a < b))) := by
  refine F.ok sc2 len2 (fun cdv A outer s H vs Q E hr h => ⟨_, wss_self, ?_⟩)
  obtain ⟨x, y, a, b, rfl, ha, hb, ⟨h1, h2⟩, k⟩ := h
  have k : ∀ v H', Same H H' → vB (decide (a < b)) v H' → Q v H' := k
  rw [← less_iff] at k
  exact ss_one (s_ret (ev_lt (ev_mul (ev_num (ev_v 0 ha)) (ev_den (ev_v 1 hb)) (mND h1 h2)) (ev_mul (ev_num (ev_v 1 hb)) (ev_den (ev_v 0 ha)) (mND h2 h1))) k)
/-- the five, as callers see them -/
structure HasQ (P : Program) (w : World) (K : PySem.W.Frag) (mg : Str → Option Value) (base : Heap) : Prop where
  plus : Has P w K mg base CX0 "plus" 2 ["one", "other"] (sp2 K okL fun a b => vQ K (a + b))
  minus : Has P w K mg base CX0 "minus" 2 ["one", "other"] (sp2 K okL fun a b => vQ K (a - b))
  by_ : Has P w K mg base CX0 "by" 2 ["one", "other"] (sp2 K okL fun a b => vQ K (a * b))
  over : Has P w K mg base CX0 "over" 2 ["one", "other"] (sp2 K okD fun a b => vQ K (a / b))
  less : Has P w K mg base CX0 "less" 1 ["one", "other"] (sp2 K okL fun a b => vB (decide (a < b)))
end
/-- a call of a def of two ratios -/
theorem ev_two {X : Cx} {e1 e2 : Expr} {σ : L2.St} {H : Hp} {p pos : Pos} {x : Str} {a b : Rat} {k : Nat} {ok : Rat → Rat → Prop} {R : Rat → Rat → V → Hp → Prop} (hR : Has X.prog X.w X.K X.mg X.base CX0 x k ["one", "other"] (sp2 X.K ok R)) (hr : Room k X.A) (ha : EV X e1 σ H (vQ X.K a)) (hb : EV X e2 σ H (vQ X.K b)) (h : ok a b)
    (hg : Gl X x := by rfl) (hdb : (x == ("__debug__" : Str)) = false := by decide) (hs : starEach [e1, e2] X.env = (false, eval e1 X.env) :: starEach [e2] X.env := by rfl) (hs2 : starEach [e2] X.env = (false, eval e2 X.env) :: starEach [] X.env := by rfl) (hpl : (backTo pos (starEach [e2] X.env)).any (·.1) = false := by rfl) :
    EV X (.Call (.Name x p) [e1, e2] [] pos) σ H (R a b) :=
  ev_call hR hr (ea_two ha hb hs hs2) (fun vs H1 s1 ⟨v, w', ev, h2, h3⟩ Q k => ⟨v, w', a, b, ev, h2, h3, h, k⟩) hg hdb hs hpl
/-! the five by name -/
section
variable {X : Cx} {e1 e2 : Expr} {σ : L2.St} {H : Hp} {p pos : Pos} {a b : Rat} {k : Nat}
theorem ev_plus (hQ : HasQ X.prog X.w X.K X.mg X.base) (hr : Room 2 X.A) (ha : EV X e1 σ H (vQ X.K a)) (hb : EV X e2 σ H (vQ X.K b)) (h : okL a b)
    (hg : Gl X "plus" := by rfl) (hs : starEach [e1, e2] X.env = (false, eval e1 X.env) :: starEach [e2] X.env := by rfl) (hs2 : starEach [e2] X.env = (false, eval e2 X.env) :: starEach [] X.env := by rfl) (hpl : (backTo pos (starEach [e2] X.env)).any (·.1) = false := by rfl) :
    EV X (.Call (.Name "plus" p) [e1, e2] [] pos) σ H (vQ X.K (a + b)) := ev_two hQ.plus hr ha hb h hg (by decide) hs hs2 hpl
theorem ev_minus (hQ : HasQ X.prog X.w X.K X.mg X.base) (hr : Room 2 X.A) (ha : EV X e1 σ H (vQ X.K a)) (hb : EV X e2 σ H (vQ X.K b)) (h : okL a b)
    (hg : Gl X "minus" := by rfl) (hs : starEach [e1, e2] X.env = (false, eval e1 X.env) :: starEach [e2] X.env := by rfl) (hs2 : starEach [e2] X.env = (false, eval e2 X.env) :: starEach [] X.env := by rfl) (hpl : (backTo pos (starEach [e2] X.env)).any (·.1) = false := by rfl) :
    EV X (.Call (.Name "minus" p) [e1, e2] [] pos) σ H (vQ X.K (a - b)) := ev_two hQ.minus hr ha hb h hg (by decide) hs hs2 hpl
theorem ev_by (hQ : HasQ X.prog X.w X.K X.mg X.base) (hr : Room 2 X.A) (ha : EV X e1 σ H (vQ X.K a)) (hb : EV X e2 σ H (vQ X.K b)) (h : okL a b)
    (hg : Gl X "by" := by rfl) (hs : starEach [e1, e2] X.env = (false, eval e1 X.env) :: starEach [e2] X.env := by rfl) (hs2 : starEach [e2] X.env = (false, eval e2 X.env) :: starEach [] X.env := by rfl) (hpl : (backTo pos (starEach [e2] X.env)).any (·.1) = false := by rfl) :
    EV X (.Call (.Name "by" p) [e1, e2] [] pos) σ H (vQ X.K (a * b)) := ev_two hQ.by_ hr ha hb h hg (by decide) hs hs2 hpl
theorem ev_over (hQ : HasQ X.prog X.w X.K X.mg X.base) (hr : Room 2 X.A) (ha : EV X e1 σ H (vQ X.K a)) (hb : EV X e2 σ H (vQ X.K b)) (h : okD a b)
    (hg : Gl X "over" := by rfl) (hs : starEach [e1, e2] X.env = (false, eval e1 X.env) :: starEach [e2] X.env := by rfl) (hs2 : starEach [e2] X.env = (false, eval e2 X.env) :: starEach [] X.env := by rfl) (hpl : (backTo pos (starEach [e2] X.env)).any (·.1) = false := by rfl) :
    EV X (.Call (.Name "over" p) [e1, e2] [] pos) σ H (vQ X.K (a / b)) := ev_two hQ.over hr ha hb h hg (by decide) hs hs2 hpl
theorem ev_less (hQ : HasQ X.prog X.w X.K X.mg X.base) (hr : Room 1 X.A) (ha : EV X e1 σ H (vQ X.K a)) (hb : EV X e2 σ H (vQ X.K b)) (h : okL a b)
    (hg : Gl X "less" := by rfl) (hs : starEach [e1, e2] X.env = (false, eval e1 X.env) :: starEach [e2] X.env := by rfl) (hs2 : starEach [e2] X.env = (false, eval e2 X.env) :: starEach [] X.env := by rfl) (hpl : (backTo pos (starEach [e2] X.env)).any (·.1) = false := by rfl) :
    EV X (.Call (.Name "less" p) [e1, e2] [] pos) σ H (vB (decide (a < b))) := ev_two hQ.less hr ha hb h hg (by decide) hs hs2 hpl
end
/-- a list, a tuple of ratios -/
def vsQ (K : PySem.W.Frag) (H : Hp) (xs : List V) (n : Nat) (f : Nat → Rat) : Prop := xs.length = n ∧ ∀ i, i < n → ∃ x, xs[i]? = some x ∧ vQ K (f i) x H
def vLQ (K : PySem.W.Frag) (n : Nat) (f : Nat → Rat) : V → Hp → Prop := fun v H => ∃ p xs, v = .ref p ∧ SqL K H p xs ∧ vsQ K H xs n f
def vTQ (K : PySem.W.Frag) (n : Nat) (f : Nat → Rat) : V → Hp → Prop := fun v H => ∃ p xs, v = .ref p ∧ SqT K H p xs ∧ vsQ K H xs n f
theorem vsQ.mono {K : PySem.W.Frag} {H H' : Hp} {xs : List V} {n : Nat} {f : Nat → Rat} (h : vsQ K H xs n f) (e : Same H H') : vsQ K H' xs n f := ⟨h.1, fun i hi => let ⟨x, h1, h2⟩ := h.2 i hi; ⟨x, h1, Stb.mono e h2⟩⟩
instance {K : PySem.W.Frag} {n : Nat} {f : Nat → Rat} : Stb (vLQ K n f) := ⟨fun e ⟨p, xs, h, q, r⟩ => ⟨p, xs, h, e.seq q, r.mono e⟩⟩
instance {K : PySem.W.Frag} {n : Nat} {f : Nat → Rat} : Stb (vTQ K n f) := ⟨fun e ⟨p, xs, h, q, r⟩ => ⟨p, xs, h, sameT e q, r.mono e⟩⟩
end Dw
set_option Elab.async false
set_option linter.all false
set_option maxRecDepth 100000
set_option maxHeartbeats 4000000
/-! enumerate(a tuple) -/
namespace PySem
theorem dw_enumerate_newT {v : Value} {o : Obj} {H : Heap → Prop} (B : Begins v o H) :
    Meets (Builtin.«enumerate.__new__» ⟨[.type "enumerate", v], []⟩) (fun _ R s => H s.heap ∧
      R (.ok (.ret (.ref (s.heap.push o).objs.size)))
        { s with heap := (s.heap.push o).push { cls := .type "enumerate", data := .fields #[.none, .bool false, .ref s.heap.objs.size, rawInt 0, .none, .none] } }) :=
  .of_wp fun prog w A R s h => by
    obtain ⟨hp, g, d, tk, os⟩ := s; obtain ⟨h1, h⟩ := h
    have hsub := sub_enumerate
    have q1 : ∀ {A' : Around} {E : Value → Shared → Prop} {Q : Value → Shared → Prop}, Q (.ref hp.objs.size) ⟨(hp.push o), g, d, tk, os⟩ → wpAny (model prog w) A' (pyIter v) Q E ⟨hp, g, d, tk, os⟩ :=
      fun q => B.iter prog w _ _ ⟨hp, g, d, tk, os⟩ _ (B.keeps _ _ h1 fun b o' e => e) q
    wp_walk
    refine wpAny_stack_any fun st => wpAny_pure ?_
    split
    · rename_i c _ _ _ _ _
      cases (c == Value.type "enumerate")
      · wp_walk using q1
        exact ⟨_, rfl, h⟩
      · wp_walk using q1
        exact ⟨_, rfl, h⟩
    · wp_walk using q1
      exact ⟨_, rfl, h⟩
theorem dw_call_enumerate {prog : Program} {w : World} {A : Around} {E : Value → Shared → Prop} {s : Shared} {v : Value} {o : Obj} {H : Heap → Prop} (B : Begins v o H) {Q : Value → Shared → Prop} (hL : H s.heap)
    (h : ∀ h', IsEnum h' (s.heap.objs.size + 1) s.heap.objs.size 0 .none → h'.get? s.heap.objs.size = some o → h'.objs.size = s.heap.objs.size + 2 →
      (∀ b o, s.heap.get? b = some o → h'.get? b = some o) → Q (.ref (s.heap.objs.size + 1)) { s with heap := h' }) :
    wpAny (model prog w) A (call (.type "enumerate") [v]) Q E s := by
  refine callType_new F.called_enumerate (by decide) (F.typeCall_enumerate_1 _) (F.newCall_enumerate_1 _) (fun obj => F.args_object_init_2 obj _) F.entry_enumerate_new
    (dw_enumerate_newT B) ⟨hL, ?_⟩
  have hz : (s.heap.push o).objs.size = s.heap.objs.size + 1 := Heap.size_push ..
  show _ ∧ _
  rw [hz]
  have he : IsEnum ((s.heap.push o).push { cls := .type "enumerate", data := .fields #[.none, .bool false, .ref s.heap.objs.size, rawInt 0, .none, .none] }) (s.heap.objs.size + 1) s.heap.objs.size 0 .none := by
    have := Heap.get?_push_size (s.heap.push o) (o := { cls := .type "enumerate", data := .fields #[.none, .bool false, .ref s.heap.objs.size, rawInt 0, .none, .none] }) rfl
    rw [hz] at this; exact this
  refine ⟨⟨_, he, rfl⟩, h _ he (Heap.get?_push_of_some _ (Heap.get?_push_size _ B.free)) (by rw [Heap.size_push, hz]) fun b o x => Heap.get?_push_of_some _ (Heap.get?_push_of_some _ x)⟩
end PySem
namespace Dw
open PySem PySem.Spec PyProof.Rows L2
def IteT (K : PySem.W.Frag) (a : Addr) : It :=
  ⟨fun i H => ∃ (xs : List V) (x : V), SqT K H a xs ∧ xs[i]? = some x, fun i H v H' => ∃ T x, v = .ref T ∧ H T = none ∧ H' = upd H T (.tup [.int (i : Nat), x]) ∧ ∀ xs, SqT K H a xs → xs[i]? = some x, fun i H => ∃ xs : List V, SqT K H a xs ∧ xs.length ≤ i⟩
theorem turn_enumT {P : Program} {w : World} {K : PySem.W.Frag} {elts : List Expr} {kk : Nat} {tpos : Pos} (a e it : Addr) :
    Turn P w K (.Tuple elts kk tpos) (IteT K a) [e, it] e (fun i h => (∃ old, IsEnum h e it ((i : Nat) : Int) old) ∧ h.IsTupleIter it a i ∧ e ≠ it) where
  mem := by simp
  obj := fun i h st b hb => by
    obtain ⟨⟨old, he⟩, ⟨o, ho, hc, hd⟩, _⟩ := st
    have e' : b = e ∨ b = it := by simpa using hb
    rcases e' with z | z
    · rw [z]; exact ⟨_, he, fun v q => nomatch q⟩
    · rw [z]; exact ⟨o, ho, fun v q => by rw [hd] at q; cases q⟩
  keep := fun i h h' st k => let ⟨⟨old, he⟩, hi, hne⟩ := st; ⟨⟨old, k e (by simp) _ he⟩, hi.at fun o q => k it (by simp) o q, hne⟩
  item := by
    intro X hP hw hK hc i pins s σ H E I hf st hg
    subst hP hw hK
    obtain ⟨⟨old, he⟩, hit, hne⟩ := st
    obtain ⟨xs, x, hq, hx⟩ := hg
    obtain ⟨its, rv, p, hz⟩ := I.tuple hq
    obtain ⟨u, hu, ru⟩ := rv.get hx
    have hel : e < s.heap.objs.size := Heap.lt_size he
    have hil : it < s.heap.objs.size := by obtain ⟨_, q, _⟩ := hit; exact Heap.lt_size q
    have p' : s.heap.IsTuple a its.toArray := p
    have hai : a ≠ it := fun z => by
      obtain ⟨o1, e1, _, n1, d1⟩ := p'
      obtain ⟨o2, e2, _, d2⟩ := hit
      rw [z, e2] at e1; cases e1; rw [d2] at d1; cases d1
    have hae : a ≠ e := fun z => by
      obtain ⟨o1, e1, _, n1, d1⟩ := p'
      have e2 := he
      unfold IsEnum at e2
      rw [z, e2] at e1; cases e1; cases d1
    refine wpAny_pyNext_enum_itemD (Draws.tuple (A := X.A.in1) (I.ok.hd hc) it a hai its.toArray) he ⟨hit, p'⟩ (by have := (List.getElem?_eq_some_iff.mp hu).1; simpa using this) hne (by simp [hne, hae.symm]) fun y h' tk hy ho hit' hT hsz hk => ?_
    have ey : y = u := by
      have h1 : its.toArray[i]? = some y := hy
      have h2 : its[i]? = some y := by simpa using h1
      rw [hu] at h2; exact (Option.some.inj h2).symm
    subst ey
    refine ⟨_, rfl, wpAny_letOwnedTupleGo_enum (s := { s with heap := h', toks := tk + 1 }) ho fun h'' he' sb => ?_⟩
    have hT2 : h''.get? s.heap.objs.size = some { cls := .type "tuple", data := .seq #[.int i tk, y] } := (sb.2 _ (Nat.ne_of_gt hel)).trans hT
    have new : ObjOk X.prog X.w (upd H s.heap.objs.size (.tup [.int (i : Nat), x])) h'' s.heap.objs.size (.tup [.int (i : Nat), x]) :=
      ⟨by show 2 ≤ sizeLine; decide, [.int i tk, y], .cons ⟨_, rfl⟩ (.cons ru .nil), ⟨_, hT2, rfl, _, rfl⟩⟩
    have I1 : Inv X pins σ (upd H s.heap.objs.size (.tup [.int (i : Nat), x])) { s with heap := h'', toks := tk + 1 } :=
      I.turnedNew (ch := [e, it]) (fun b ob hb q => (sb.2 b (fun z => hb (by simp [z]))).trans (hk b ob (fun z => hb (by simp [z])) (fun z => hb (by simp [z])) q)) hf (Nat.le_refl _) new
    refine ⟨.ref s.heap.objs.size, _, I1, rfl, ⟨_, x, rfl, I.hok.fresh (Nat.le_refl _), rfl, fun ys hy => by rw [I.tuple_inj hy hq]; exact hx⟩, ⟨⟨y, ?_⟩, hit'.1.at fun o q => (sb.2 it (Ne.symm hne)).trans q, hne⟩, fun b hb => ?_⟩
    · have e1 : ((i + 1 : Nat) : Int) = (i : Int) + 1 := by omega
      rw [e1]; exact he'
    · have hb' : b < s.heap.objs.size := by
        have e' : b = e ∨ b = it := by simpa using hb
        rcases e' with z | z
        · rw [z]; exact hel
        · rw [z]; exact hil
      rw [upd_ne (Nat.ne_of_lt hb')]
      exact (hf b hb).1
  done := by
    intro X hP hw hK hc i pins s σ H E I hf st hg
    subst hP hw hK
    obtain ⟨⟨old, he⟩, hit, hne⟩ := st
    obtain ⟨xs, hq, hx⟩ := hg
    obtain ⟨its, rv, p, hz⟩ := I.tuple hq
    obtain ⟨f0, f1, f2, f3, f4, f5⟩ := hf it (by simp)
    have hl := rv.length
    have p' : s.heap.IsTuple a its.toArray := p
    -- at the end the walk's place is the length, or beyond it
    have hI : its.toArray[i]? = none := by simp; omega
    refine thn (Q := fun r s1 => r = none ∧ Inv X pins σ H s1) ?_ fun _ _ q => q
    have hT : s.TypeIs (.ref e) "enumerate" := ⟨_, he, rfl⟩
    unfold pyNext
    refine wpAny_bind (wpAny_attempt (wpAny_callSpecial?_slot (name := Str.ofString "__next__") hT F.slot_enumerate_next
      (wpAny_call_entry F.slot_enumerate_next hT F.entry_enumerate_next ?_ (F.args_enumerate_next_1 _))))
    show wpAny _ _ (field (.ref e) 2 >>= _) _ _ _
    refine wpAny_bind (wpAny_field he rfl (x := .ref it) rfl ?_)
    refine wpAny_bind (wpAny_nextOf_tuple_end (I.ok.hd hc) hit p' hI fun h' x he' hx' => ?_)
    obtain ⟨o, ho, hcc⟩ := hx'
    refine wpAny_bind (wpAny_isInstance (T := "StopIteration") (b := true) ⟨o, ho, hcc⟩ isSubtype_stop ?_)
    exact wpAny_pure ⟨rfl, I.turned (t' := s.toks) (fun b o hb q => he' b o hb q) f0 f1 f3 f4 f5⟩
  self := fun A i s Q E st h => let ⟨⟨_, he⟩, _⟩ := st; wpAny_pyIter_enum he h
def iEnumT (K : PySem.W.Frag) (ta : TA) : TI := fun σ H R => ta σ H fun vs H1 => ∃ a xs, vs = [.ref a] ∧ SqT K H1 a xs ∧ R (IteT K a) H1
theorem pi_enumT {X : Cx} {e : Expr} {ta : TA} {p pos tpos : Pos} {elts : List Expr} {kk : Nat} (hg : Gl X "enumerate") (hm : X.mg "enumerate" = none) (ha : PA X [e] ta) (hs : starEach [e] X.env = [(false, eval e X.env)] := by rfl) :
    PI X (.Tuple elts kk tpos) (.Call (.Name "enumerate" p) [e] [] pos) (iEnumT X.K ta) := by
  refine ⟨fun pins s σ H R I h => ?_⟩
  refine Call_ (ld_blt I hg hm boot_enumerate (PyProof.Rows.callWith_type1 (thn (ha.run pos pins s σ H _ I h) fun us s1 ⟨vs, H1, I1, r1, q1⟩ => ?_) hs rfl))
  obtain ⟨a, xs, ex, hq, q⟩ := q1
  subst ex
  cases r1 with
  | cons r rr =>
    cases rr
    cases r
    obtain ⟨its, rv, p', hz⟩ := I1.tuple hq
    refine dw_call_enumerate (begins_tuple a its.toArray) (show s1.heap.IsTuple a its.toArray from p') fun h' he hit hsz hk => wpAny_pyIter_enum he ?_
    have I2 : Inv X pins σ H1 { s1 with heap := h' } := I1.kept (t' := s1.toks) hk
    refine ⟨s1.heap.objs.size + 1, [s1.heap.objs.size + 1, s1.heap.objs.size], _, _, H1, rfl, I2, turn_enumT a (s1.heap.objs.size + 1) s1.heap.objs.size, ⟨⟨.none, he⟩, ⟨_, hit, rfl, rfl⟩, Nat.succ_ne_self _⟩, fun b hb => ?_, q⟩
    have hn : H1 b = none := by
      have e' : b = s1.heap.objs.size + 1 ∨ b = s1.heap.objs.size := by simpa using hb
      rcases e' with z | z
      · rw [z]; exact I1.hok.fresh (Nat.le_succ _)
      · rw [z]; exact I1.hok.fresh (Nat.le_refl _)
    refine I1.fpOk ?_ hn
    have e' : b = s1.heap.objs.size + 1 ∨ b = s1.heap.objs.size := by simpa using hb
    rcases e' with z | z
    · rw [z]; exact Nat.le_succ _
    · rw [z]; exact Nat.le_refl _
end Dw
set_option Elab.async false
set_option linter.all false
set_option maxRecDepth 100000
set_option maxHeartbeats 4000000
/-! Loops and comprehensions, read from behind. -/
namespace Dw
open PySem PySem.Spec PyProof.Rows L2 RZ
/-! ### what is walked -/
/-- n turns that give Y; G is what must stand -/
def EI (X : Cx) (tg iter : Expr) (σ : L2.St) (H : Hp) (n : Nat) (G : Hp → Prop) (Y : Nat → Hp → V → Hp → Prop) : Prop :=
  ∃ wi, PI X tg iter wi ∧ ∀ H1, Same H H1 → ∀ R : It → Hp → Prop, (∀ J H2, Same H1 H2 → Walk J n G Y → R J H2) → wi σ H1 R
/-- the same, what must stand told on the way -/
def ES (X : Cx) (tg iter : Expr) (σ : L2.St) (H : Hp) (n : Nat) (Y : Nat → Hp → V → Hp → Prop) : Prop :=
  ∃ wi, PI X tg iter wi ∧ ∀ H1, Same H H1 → ∀ R : It → Hp → Prop, (∀ J G H2, Same H1 H2 → Walk J n G Y → (∀ H3, Same H2 H3 → G H3) → R J H2) → wi σ H1 R
theorem EI.es {X : Cx} {tg iter : Expr} {σ : L2.St} {H : Hp} {n : Nat} {G : Hp → Prop} {Y : Nat → Hp → V → Hp → Prop} (h : EI X tg iter σ H n G Y) (hG : ∀ H1, Same H H1 → G H1) : ES X tg iter σ H n Y := by
  obtain ⟨wi, p, f⟩ := h
  exact ⟨wi, p, fun H1 e1 R r => f H1 e1 R fun J H2 e2 wk => r J G H2 e2 wk fun H3 e3 => hG H3 ((e1.trans e2).trans e3)⟩
theorem walk_enumT {K : PySem.W.Frag} {a : Addr} {xs : List V} : Walk (IteT K a) xs.length (fun H => SqT K H a xs) (YPair (fun i => some (.int (i : Nat))) (fun i => xs[i]?)) := by
  refine ⟨fun i _ hi q => ⟨xs, xs[i], q, by simp [hi]⟩, fun _ q => ⟨xs, q, Nat.le_refl _⟩, fun i H v H' _ q y => ?_⟩
  obtain ⟨T, x, h1, h2, h3, h4⟩ := y
  exact ⟨T, .int (i : Nat), x, h1, h2, h3, rfl, h4 xs q⟩
theorem walk_zipT {K : PySem.W.Frag} {a b : Addr} {xs ys : List V} {n : Nat} (hn : n = min xs.length ys.length) : Walk (ItzT K a b) n (fun H => SqT K H a xs ∧ SqT K H b ys) (YPair (fun i => xs[i]?) (fun i => ys[i]?)) := by
  subst hn
  refine ⟨fun i _ hi q => ?_, fun _ q => ⟨xs, ys, q.1, q.2, by omega⟩, fun i H v H' _ q y => ?_⟩
  · have h1 : i < xs.length := by omega
    have h2 : i < ys.length := by omega
    exact ⟨xs, ys, xs[i], ys[i], q.1, q.2, by simp [h1], by simp [h2]⟩
  · obtain ⟨T, x, z, h1, h2, h3, h4, h5⟩ := y
    exact ⟨T, x, z, h1, h2, h3, h4 xs q.1, h5 ys q.2⟩
section
variable {X : Cx} {tg iter e e2 e3 : Expr} {σ : L2.St} {H : Hp} {a b : Addr} {xs ys : List V} {p pos : Pos}
theorem ei_L (he : EV X iter σ H (vE (.ref a))) (hx : SqL X.K H a xs) : EI X tg iter σ H xs.length (fun H => SqL X.K H a xs) (YAt xs) :=
  ⟨_, pi_list we_self, fun H1 e1 R r => he H1 e1 _ fun v H2 e2 ev => ⟨a, ev, ⟨xs, (e1.trans e2).seq hx⟩, r _ H2 e2 walk_list⟩⟩
theorem ei_T (he : EV X iter σ H (vE (.ref a))) (hx : SqT X.K H a xs) : EI X tg iter σ H xs.length (fun H => SqT X.K H a xs) (YAt xs) :=
  ⟨_, pi_tup we_self, fun H1 e1 R r => he H1 e1 _ fun v H2 e2 ev => ⟨a, ev, ⟨xs, sameT (e1.trans e2) hx⟩, r _ H2 e2 walk_tup⟩⟩
theorem es_L (he : EV X iter σ H (vL X.K xs)) : ES X tg iter σ H xs.length (YAt xs) :=
  ⟨_, pi_list we_self, fun H1 e1 R r => he H1 e1 _ fun v H2 e2 ⟨a, ev, hx⟩ => ⟨a, ev, ⟨xs, hx⟩, r _ _ H2 e2 walk_list fun H3 e3 => e3.seq hx⟩⟩
theorem es_T (he : EV X iter σ H (vT X.K xs)) : ES X tg iter σ H xs.length (YAt xs) :=
  ⟨_, pi_tup we_self, fun H1 e1 R r => he H1 e1 _ fun v H2 e2 ⟨a, ev, hx⟩ => ⟨a, ev, ⟨xs, hx⟩, r _ _ H2 e2 walk_tup fun H3 e3 => sameT e3 hx⟩⟩
theorem ei_R1 {n : Nat} (hm : X.mg "range" = none) (he : EV X e σ H (vI (n : Int))) (hn : n < 100000) (hg : Gl X "range" := by rfl) (hs : starEach [e] X.env = (false, eval e X.env) :: starEach [] X.env := by rfl) : EI X tg (.Call (.Name "range" p) [e] [] pos) σ H n (fun _ => True) (YFn fun i => .int (i : Int)) := by
  refine ⟨_, pi_range1 hg hm (pa_cons we_self pa_nil hs) hs, fun H1 e1 R r => he H1 e1 _ fun v H2 e2 ev => ⟨(n : Int), by rw [ev], by omega, by omega, ?_⟩⟩
  have en : ((n : Nat) : Int).toNat = n := Int.toNat_natCast n
  rw [en]
  refine r _ H2 e2 ((walk_range (lo := 0) (n := n)).mono (fun _ h => h) fun i H x H' _ _ y => ⟨y.1, ?_⟩)
  rw [y.2]; show V.int (0 + (i : Int)) = V.int (i : Int); rw [Int.zero_add]
theorem ei_R3 {lo hi c : Int} {n : Nat} (hm : X.mg "range" = none) (h1 : EV X e σ H (vI lo)) (h2 : EV X e2 σ H (vI hi)) (h3 : EV X e3 σ H (vI c)) (hr : RgC lo hi c n) (hg : Gl X "range" := by rfl) (hs : starEach [e, e2, e3] X.env = (false, eval e X.env) :: starEach [e2, e3] X.env := by rfl) (hs2 : starEach [e2, e3] X.env = (false, eval e2 X.env) :: starEach [e3] X.env := by rfl) (hs3 : starEach [e3] X.env = (false, eval e3 X.env) :: starEach [] X.env := by rfl) (hpl : (backTo pos (starEach [e2, e3] X.env)).any (·.1) = false := by rfl) : EI X tg (.Call (.Name "range" p) [e, e2, e3] [] pos) σ H n (fun _ => True) (YFn fun i => .int (lo + (i : Nat) * c)) :=
  ⟨_, pi_range3 hg hm (pa_cons we_self (pa_cons we_self (pa_cons we_self pa_nil hs3) hs2) hs) hs hpl, fun H1 e1 R r => h1 H1 e1 _ fun v H2 s2 ev => h2 H2 (e1.trans s2) _ fun v2 H3 s3 ev2 => h3 H3 ((e1.trans s2).trans s3) _ fun v3 H4 s4 ev3 => ⟨lo, hi, c, n, by rw [ev, ev2, ev3], hr, r _ H4 ((s2.trans s3).trans s4) walk_rangeC⟩⟩
theorem ei_E {elts : List Expr} {kk : Nat} {tpos : Pos} (hm : X.mg "enumerate" = none) (he : EV X e σ H (vE (.ref a))) (hx : SqL X.K H a xs) (hg : Gl X "enumerate" := by rfl) (hs : starEach [e] X.env = (false, eval e X.env) :: starEach [] X.env := by rfl) : EI X (.Tuple elts kk tpos) (.Call (.Name "enumerate" p) [e] [] pos) σ H xs.length (fun H => SqL X.K H a xs) (YPair (fun i => some (.int (i : Nat))) (fun i => xs[i]?)) :=
  ⟨_, pi_enum hg hm (pa_cons we_self pa_nil hs) hs, fun H1 e1 R r => he H1 e1 _ fun v H2 e2 ev => ⟨a, xs, by rw [ev], (e1.trans e2).seq hx, r _ H2 e2 walk_enum⟩⟩
theorem ei_ET {elts : List Expr} {kk : Nat} {tpos : Pos} (hm : X.mg "enumerate" = none) (he : EV X e σ H (vE (.ref a))) (hx : SqT X.K H a xs) (hg : Gl X "enumerate" := by rfl) (hs : starEach [e] X.env = (false, eval e X.env) :: starEach [] X.env := by rfl) : EI X (.Tuple elts kk tpos) (.Call (.Name "enumerate" p) [e] [] pos) σ H xs.length (fun H => SqT X.K H a xs) (YPair (fun i => some (.int (i : Nat))) (fun i => xs[i]?)) :=
  ⟨_, pi_enumT hg hm (pa_cons we_self pa_nil hs) hs, fun H1 e1 R r => he H1 e1 _ fun v H2 e2 ev => ⟨a, xs, by rw [ev], sameT (e1.trans e2) hx, r _ H2 e2 walk_enumT⟩⟩
theorem ei_Z {elts : List Expr} {kk : Nat} {tpos : Pos} (hm : X.mg "zip" = none) (he : EV X e σ H (vE (.ref a))) (he2 : EV X e2 σ H (vE (.ref b))) (hx : SqL X.K H a xs) (hy : SqL X.K H b ys) (hg : Gl X "zip" := by rfl) (hs : starEach [e, e2] X.env = (false, eval e X.env) :: starEach [e2] X.env := by rfl) (hs2 : starEach [e2] X.env = (false, eval e2 X.env) :: starEach [] X.env := by rfl) (hpl : (backTo pos (starEach [e2] X.env)).any (·.1) = false := by rfl) :
    EI X (.Tuple elts kk tpos) (.Call (.Name "zip" p) [e, e2] [] pos) σ H (min xs.length ys.length) (fun H => SqL X.K H a xs ∧ SqL X.K H b ys) (YPair (fun i => xs[i]?) (fun i => ys[i]?)) :=
  ⟨_, pi_zip hg hm (pa_cons we_self (pa_cons we_self pa_nil hs2) hs) hs hpl, fun H1 e1 R r => he H1 e1 _ fun v H2 s2 ev => he2 H2 (e1.trans s2) _ fun v2 H3 s3 ev2 => ⟨a, b, xs, ys, by rw [ev, ev2], ((e1.trans s2).trans s3).seq hx, ((e1.trans s2).trans s3).seq hy, r _ H3 (s2.trans s3) (walk_zip rfl)⟩⟩
theorem ei_ZT {elts : List Expr} {kk : Nat} {tpos : Pos} (hm : X.mg "zip" = none) (he : EV X e σ H (vE (.ref a))) (he2 : EV X e2 σ H (vE (.ref b))) (hx : SqT X.K H a xs) (hy : SqT X.K H b ys) (hg : Gl X "zip" := by rfl) (hs : starEach [e, e2] X.env = (false, eval e X.env) :: starEach [e2] X.env := by rfl) (hs2 : starEach [e2] X.env = (false, eval e2 X.env) :: starEach [] X.env := by rfl) (hpl : (backTo pos (starEach [e2] X.env)).any (·.1) = false := by rfl) :
    EI X (.Tuple elts kk tpos) (.Call (.Name "zip" p) [e, e2] [] pos) σ H (min xs.length ys.length) (fun H => SqT X.K H a xs ∧ SqT X.K H b ys) (YPair (fun i => xs[i]?) (fun i => ys[i]?)) :=
  ⟨_, pi_zipA hg hm (pa_cons we_self (pa_cons we_self pa_nil hs2) hs) hs hpl, fun H1 e1 R r => he H1 e1 _ fun v H2 s2 ev => he2 H2 (e1.trans s2) _ fun v2 H3 s3 ev2 => ⟨a, b, xs, ys, by rw [ev, ev2], .inr ⟨sameT ((e1.trans s2).trans s3) hx, sameT ((e1.trans s2).trans s3) hy, r _ H3 (s2.trans s3) (walk_zipT rfl)⟩⟩⟩
end
/-! ### targets -/
/-- the target stores x: the slots are σ2 behind it -/
def GT (g : TG) (x : V) (σ : L2.St) (H : Hp) (σ2 : L2.St) : Prop := ∀ Q : L2.St → Hp → Prop, Q σ2 H → g x σ H Q
theorem gt_name {i : Nat} {x : V} {σ : L2.St} {H : Hp} : GT (gName i) x σ H (σ.set i (some x)) := fun _ q => q
abbrev g2 (K : PySem.W.Frag) (i j : Nat) : TG := gTup K 2 (gCons (gName i) (gCons (gName j) gNil))
theorem gt_two {K : PySem.W.Frag} {i j : Nat} {a : Addr} {x y : V} {σ : L2.St} {H : Hp} (h : SqT K H a [x, y]) : GT (g2 K i j) (.ref a) σ H ((σ.set i (some x)).set j (some y)) :=
  fun _ q => ⟨a, [x, y], rfl, h, rfl, x, [y], rfl, y, [], rfl, rfl, q⟩
/-- k, (x, y) -/
abbrev g12 (K : PySem.W.Frag) (i j k : Nat) : TG := gTup K 2 (gCons (gName i) (gCons (g2 K j k) gNil))
theorem gt_12 {K : PySem.W.Frag} {i j k : Nat} {a b : Addr} {x y z : V} {σ : L2.St} {H : Hp} (h : SqT K H a [x, .ref b]) (h2 : SqT K H b [y, z]) : GT (g12 K i j k) (.ref a) σ H (((σ.set i (some x)).set j (some y)).set k (some z)) :=
  fun _ q => ⟨a, [x, .ref b], rfl, h, rfl, x, [.ref b], rfl, .ref b, [], rfl, b, [y, z], rfl, h2, rfl, y, [z], rfl, z, [], rfl, rfl, rfl, q⟩
/-- a new pair is told by the walk -/
theorem ypair_same {xs ys : Nat → Option V} {i : Nat} {H H' : Hp} {v : V} (h : YPair xs ys i H v H') : ∃ T x y, v = .ref T ∧ xs i = some x ∧ ys i = some y ∧ Same H H' ∧ H' T = some (.tup [x, y]) ∧ H T = none := by
  obtain ⟨T, x, y, e1, e2, e3, e4, e5⟩ := h
  exact ⟨T, x, y, e1, e4, e5, by rw [e3]; exact same_new e2, by rw [e3]; exact upd_same, e2⟩
/-! ### for -/
section
variable {X : Cx} {tg iter : Expr} {σ : L2.St} {H : Hp} {pos : Pos} {D : Ends} {body : List Stmt} {n : Nat} {G : Hp → Prop} {Y : Nat → Hp → V → Hp → Prop} {g : TG}
theorem s_for (hp : PassesOwn (model X.prog X.w) X.A X.env X.xe) (hI : EI X tg iter σ H n G Y) (hg : PG X tg g) (Pv : Nat → L2.St → Hp → Prop) (h0 : ∀ H1, Same H H1 → Pv 0 σ H1) (hG : ∀ i σ' H', i ≤ n → Pv i σ' H' → G H')
    (hs : ∀ i x σ' H1 H', i < n → Pv i σ' H1 → Y i H1 x H' → ∃ σ2, GT g x σ' H' σ2 ∧ WSs X body { D with nx := Pv (i + 1), ct := Pv (i + 1), bk := D.nx } σ2 H') (hd : ∀ σ' H', Pv n σ' H' → D.nx σ' H') (hc : X.calm = true := by rfl) (hf : ∀ x, foldedSetIterable iter X.env x = pure x := by intro _; rfl) :
    WS X (.For tg iter body [] pos) D σ H := by
  obtain ⟨wi, p, f⟩ := hI
  refine ws_of (ps_for hp hc p hg wss_self hf) (f H (Same.refl _) _ fun J H2 e2 wk => ?_)
  refine for_it wk Pv (h0 H2 e2) hG (fun i x σ' H1 H' hi pv y => ?_) hd
  obtain ⟨σ2, gt, ws⟩ := hs i x σ' H1 H' hi pv y
  exact gt _ ws
end
/-! ### comprehensions -/
abbrev CB (X : Cx) (scope : Scope) (s : Shared) (H : Hp) (C : Addr) (cl : List (Str × Addr)) (fp : List Addr) : Cx := X.blk s H scope (compEnvC scope cl C X.env) fp
/-- the new list: n items, each as R says; it stood not at H -/
def vNL (H : Hp) (n : Nat) (R : Nat → V → Hp → Prop) : V → Hp → Prop := fun v H' => ∃ p ys, v = .ref p ∧ H p = none ∧ H' p = some (.lst ys) ∧ ys.length = n ∧ ∀ j, j < n → ∃ y, ys[j]? = some y ∧ R j y H'
/-- the new list, exactly -/
def vNE (H : Hp) (ys : List V) : V → Hp → Prop := fun v H' => ∃ p, v = .ref p ∧ H p = none ∧ H' p = some (.lst ys)
instance {H : Hp} {n : Nat} {R : Nat → V → Hp → Prop} [∀ j, Stb (R j)] : Stb (vNL H n R) := ⟨fun e ⟨p, ys, h1, h2, h3, h4, h5⟩ => ⟨p, ys, h1, h2, e _ _ h3, h4, fun j hj => let ⟨y, q1, q2⟩ := h5 j hj; ⟨y, q1, Stb.mono e q2⟩⟩⟩
instance {H : Hp} {ys : List V} : Stb (vNE H ys) := ⟨fun e ⟨p, h1, h2, h3⟩ => ⟨p, h1, h2, e _ _ h3⟩⟩
theorem vNE.vL {K : PySem.W.Frag} {H H' : Hp} {ys : List V} {v : V} (h : vNE H ys v H') : vL K ys v H' := let ⟨p, h1, _, h3⟩ := h; ⟨p, h1, SqL.of h3⟩
theorem vNL.vLQ {K : PySem.W.Frag} {H H' : Hp} {n : Nat} {f : Nat → Rat} {v : V} (h : vNL H n (fun j => vQ K (f j)) v H') : vLQ K n f v H' := let ⟨p, ys, h1, _, h3, h4, h5⟩ := h; ⟨p, ys, h1, SqL.of h3, h4, h5⟩
section
variable {X : Cx} {tg iter elt : Expr} {σ : L2.St} {H : Hp} {pos : Pos} {n : Nat} {Y : Nat → Hp → V → Hp → Prop} {g : TG} {scope : Scope} {vs : List Nat}
/-- the reading of a comprehension without tests; D: where the new list grows -/
theorem lc_read {wi : TI} (f : ∀ H1, Same H H1 → ∀ R : It → Hp → Prop, (∀ J G H2, Same H1 H2 → Walk J n G Y → (∀ H3, Same H2 H3 → G H3) → R J H2) → wi σ H1 R) (hz : n ≤ 100000) (R : Addr → Nat → V → Hp → Prop)
    (hm : ∀ D j v H H', Same H H' → R D j v H → R D j v H') (hf : ∀ D j v H xs ys, H D = some (.lst xs) → R D j v H → R D j v (upd H D (.lst ys)))
    (hel : ∀ D j x H1 H', j < n → Same H H1 → H D = none → (∃ xs, H1 D = some (.lst xs)) → Y j H1 x H' → ∃ σ2, GT g x (wipe σ vs) H' σ2 ∧ Same H1 H' ∧ wipe σ2 vs = wipe σ vs ∧ ∀ s H C cl fp, EV (CB X scope s H C cl fp) elt σ2 H' (R D j)) {Q : VK} {H1 : Hp} (e1 : Same H H1)
    (hQ : ∀ D ys H2, Same H1 H2 → H1 D = none → H2 D = some (.lst ys) → ys.length = n → (∀ j, j < n → ∃ y, ys[j]? = some y ∧ R D j y H2) → Q (.ref D) H2) :
    tLc wi g tYes (fun σ H' Q => ∀ s H C cl fp, WE (CB X scope s H C cl fp) elt σ H' Q) vs σ H1 Q := by
  refine f H1 e1 _ fun J G H2 e2 wk hG D hD => ?_
  refine lc_it (g := g) (tt := tYes) (te := fun σ H' Q => ∀ s H C cl fp, WE (CB X scope s H C cl fp) elt σ H' Q) (vs := vs) (σ := σ) (Qd := fun H => Q (.ref D) H) wk (fun i H' => Same H2 H' ∧ H2 D = none ∧ ∃ acc, H' D = some (.lst acc) ∧ acc.length = i ∧ ∀ j, j < i → ∃ y, acc[j]? = some y ∧ R D j y H') ⟨same_new hD, hD, [], upd_same, rfl, fun j hj => absurd hj (by omega)⟩ (fun i H' hi p => hG H' p.1) (fun i x H3 H4 hi p y => ?_) fun H' p => ?_
  · obtain ⟨p1, p2, acc, p3, p4, p5⟩ := p
    obtain ⟨σ2, gt, s4, hw, he⟩ := hel D i x H3 H4 hi ((e1.trans e2).trans p1) ((e1.trans e2).free p2) ⟨acc, p3⟩ y
    refine gt _ ⟨hw, ?_⟩
    show ∀ s H C cl fp, WE (CB X scope s H C cl fp) elt σ2 H4 _
    intro s5 H5 C cl fp
    show WE (CB X scope s5 H5 C cl fp) elt σ2 H4 _
    refine EV.go (e := elt) (he s5 H5 C cl fp) fun v H6 e6 r => ?_
    have hD6 : H6 D = some (.lst acc) := e6 _ _ (s4 _ _ p3)
    have keep : ∀ {H' : Hp}, Same H2 H' → Same H2 (upd H' D (.lst (acc ++ [v]))) := fun {H'} e b o h => by
      have : b ≠ D := ne_of_none h p2
      rw [upd_ne this]; exact e b o h
    refine ⟨acc, hD6, Nat.lt_of_lt_of_le (by omega : acc.length < 100001) (by decide), keep ((p1.trans s4).trans e6), p2, acc ++ [v], upd_same, by simp [p4], fun j hj => ?_⟩
    by_cases hji : j < i
    · obtain ⟨y', q1, q2⟩ := p5 j hji
      refine ⟨y', by rw [List.getElem?_append_left (by omega)]; exact q1, hf D j y' H6 acc _ hD6 (hm D j y' H3 H6 (s4.trans e6) q2)⟩
    · have : j = i := by omega
      subst this
      refine ⟨v, by rw [List.getElem?_append_right (by omega), p4]; simp, hf D j v H6 acc _ hD6 r⟩
  · obtain ⟨p1, p2, acc, p3, p4, p5⟩ := p
    exact hQ D acc H' (e2.trans p1) (e2.free p2) p3 p4 p5
end
/-- what is said of tuples and flat values stays when a list changes -/
class Frm (P : V → Hp → Prop) : Prop where
  frm : ∀ {v : V} {H : Hp} {D : Addr} {xs ys : List V}, H D = some (.lst xs) → P v H → P v (upd H D (.lst ys))
theorem frmT {K : PySem.W.Frag} {H : Hp} {a D : Addr} {xs ys : List V} {zs : List V} (h : H D = some (.lst xs)) (q : SqT K H a zs) : SqT K (upd H D (.lst ys)) a zs := by
  rcases q with (q | ⟨o, q⟩) | q
  · exact .inl (.inl (by rw [upd_ne (ne_of q h (by intro z; cases z))]; exact q))
  · exact .inl (.inr ⟨o, by rw [upd_ne (ne_of q h (by intro z; cases z))]; exact q⟩)
  · exact .inr q
instance {x : V} : Frm (vE x) := ⟨fun _ h => h⟩
instance {K : PySem.W.Frag} {xs : List V} : Frm (vT K xs) := ⟨fun h ⟨p, e, q⟩ => ⟨p, e, frmT h q⟩⟩
instance {K : PySem.W.Frag} {q : Rat} : Frm (vQ K q) := ⟨fun h e => Frm.frm (P := vT K _) h e⟩
section
variable {X : Cx} {tg iter elt : Expr} {σ : L2.St} {H : Hp} {pos : Pos} {n : Nat} {Y : Nat → Hp → V → Hp → Prop} {g : TG} {scope : Scope} {own : List (Str × Nat)} {D : Ends}
theorem pe_lcW {wi : TI} (hN : X.N.Nodup) (p : PI X tg iter wi) (ok : BlkOk X.N X.env.scope scope own) (hg : ∀ s H C cl fp, PG (CB X scope s H C cl fp) tg g) (hc : X.calm = true := by rfl) (hs : ∀ x, foldedSetIterable iter X.env x = pure x := by intro _; rfl) :
    PE X (.ListComp elt [⟨tg, iter, [], 0⟩] scope pos) (tLc wi g tYes (fun σ H' Q => ∀ s H C cl fp, WE (CB X scope s H C cl fp) elt σ H' Q) (own.map (·.2))) :=
  pe_lc hc hN p ok hg (fun _ _ _ _ _ => pts_nil) (fun s H C cl fp => ⟨fun pins s' σ H' Q I h => h s H C cl fp pins s' I⟩) hs
/-- a comprehension without tests -/
theorem ev_lc (hN : X.N.Nodup) (hI : ES X tg iter σ H n Y) (ok : BlkOk X.N X.env.scope scope own) (hg : ∀ s H C cl fp, PG (CB X scope s H C cl fp) tg g) (hz : n ≤ 100000) (R : Nat → V → Hp → Prop) [∀ j, Stb (R j)] [∀ j, Frm (R j)]
    (hel : ∀ j x H1 H', j < n → Same H H1 → Y j H1 x H' → ∃ σ2, GT g x (wipe σ (own.map (·.2))) H' σ2 ∧ Same H1 H' ∧ wipe σ2 (own.map (·.2)) = wipe σ (own.map (·.2)) ∧ ∀ s H C cl fp, EV (CB X scope s H C cl fp) elt σ2 H' (R j)) (hc : X.calm = true := by rfl) (hs : ∀ x, foldedSetIterable iter X.env x = pure x := by intro _; rfl) :
    EV X (.ListComp elt [⟨tg, iter, [], 0⟩] scope pos) σ H (vNL H n R) := by
  obtain ⟨wi, p, f⟩ := hI
  refine ev_of (pe_lcW hN p ok hg hc hs) fun H1 e1 Q q => lc_read f hz (fun _ => R) (fun _ j v H H' e h => Stb.mono e h) (fun _ j v H xs ys e h => Frm.frm e h) (fun D j x H1 H' hj e _ _ y => hel j x H1 H' hj e y) e1 fun D ys H2 e2 hD hD2 hl hr => q _ H2 e2 ⟨D, ys, rfl, e1.free hD, hD2, hl, hr⟩
/-- name = comprehension on one line -/
theorem s_lc {i : Nat} {y : Str} {py spos : Pos} (hN : X.N.Nodup) (hI : ES X tg iter σ H n Y) (ok : BlkOk X.N X.env.scope scope own) (hg : ∀ s H C cl fp, PG (CB X scope s H C cl fp) tg g) (hz : n ≤ 100000) (R : Nat → V → Hp → Prop) [∀ j, Stb (R j)] [∀ j, Frm (R j)]
    (hel : ∀ j x H1 H', j < n → Same H H1 → Y j H1 x H' → ∃ σ2, GT g x (wipe σ (own.map (·.2))) H' σ2 ∧ Same H1 H' ∧ wipe σ2 (own.map (·.2)) = wipe σ (own.map (·.2)) ∧ ∀ s H C cl fp, EV (CB X scope s H C cl fp) elt σ2 H' (R j))
    (h : ∀ v H', Same H H' → vNL H n R v H' → D.nx (σ.set i (some v)) H') (hy : X.N[i]? = some y := by rfl) (hyl : X.env.scope.names.lookup y = some .local := by rfl)
    (hsw : swapsWith (.ListComp elt [⟨tg, iter, [], 0⟩] scope pos) (some (.Name y py)) spos.line X.env = pure true := by exact sw_true rfl rfl rfl (by decide +kernel)) (hc : X.calm = true := by rfl) (hs : ∀ x, foldedSetIterable iter X.env x = pure x := by intro _; rfl) :
    WS X (.Assign [.Name y py] (.ListComp elt [⟨tg, iter, [], 0⟩] scope pos) spos) D σ H := by
  obtain ⟨wi, p, f⟩ := hI
  refine ws_of (ps_setLc hc hN hy hyl hsw p ok hg (fun _ _ _ _ _ => pts_nil) (te := fun σ H' Q => ∀ s H C cl fp, WE (CB X scope s H C cl fp) elt σ H' Q) (fun s H C cl fp => ⟨fun pins s' σ H' Q I h => h s H C cl fp pins s' I⟩) hs) ?_
  exact lc_read f hz (fun _ => R) (fun _ j v H H' e h => Stb.mono e h) (fun _ j v H xs ys e h => Frm.frm e h) (fun D j x H1 H' hj e _ _ y => hel j x H1 H' hj e y) (Same.refl _) fun D ys H2 e2 hD hD2 hl hr => h _ H2 e2 ⟨D, ys, rfl, hD, hD2, hl, hr⟩
/-- what passes the test, by number -/
def passed (n : Nat) (p : Nat → Bool) (f : Nat → V) : List V := ((List.range n).filter p).map f
theorem passed_yes {n : Nat} {p : Nat → Bool} {f : Nat → V} (h : p n = true) : passed (n + 1) p f = passed n p f ++ [f n] := by
  unfold passed; rw [List.range_succ, List.filter_append, List.map_append, List.filter_cons, if_pos h]; rfl
theorem passed_no {n : Nat} {p : Nat → Bool} {f : Nat → V} (h : p n = false) : passed (n + 1) p f = passed n p f := by
  unfold passed; rw [List.range_succ, List.filter_append, List.map_append, List.filter_cons, if_neg (by rw [h]; decide)]; simp
theorem passed_len (n : Nat) (p : Nat → Bool) (f : Nat → V) : (passed n p f).length ≤ n := by
  unfold passed; rw [List.length_map]; have := List.length_filter_le p (List.range n); rw [List.length_range] at this; exact this
variable {cond : Expr}
theorem lc_readT {wi : TI} (f : ∀ H1, Same H H1 → ∀ R : It → Hp → Prop, (∀ J G H2, Same H1 H2 → Walk J n G Y → (∀ H3, Same H2 H3 → G H3) → R J H2) → wi σ H1 R) (hz : n ≤ 100000) (pb : Nat → Bool) (fv : Nat → V) {vs : List Nat}
    (hel : ∀ j x H1 H', j < n → Same H H1 → Y j H1 x H' → ∃ σ2, GT g x (wipe σ vs) H' σ2 ∧ Same H1 H' ∧ wipe σ2 vs = wipe σ vs ∧ (∀ s H C cl fp, ET (CB X scope s H C cl fp) cond σ2 H' (pb j)) ∧ (pb j = true → ∀ s H C cl fp, EV (CB X scope s H C cl fp) elt σ2 H' (vE (fv j)))) {Q : VK} {H1 : Hp} (e1 : Same H H1)
    (hQ : ∀ D H2, Same H1 H2 → H1 D = none → H2 D = some (.lst (passed n pb fv)) → Q (.ref D) H2) :
    tLc wi g (fun σ H' Q => ∀ s H C cl fp, WT (CB X scope s H C cl fp) cond σ H' Q) (fun σ H' Q => ∀ s H C cl fp, WE (CB X scope s H C cl fp) elt σ H' Q) vs σ H1 Q := by
  refine f H1 e1 _ fun J G H2 e2 wk hG D hD => ?_
  refine lc_it (g := g) (tt := fun σ H' Q => ∀ s H C cl fp, WT (CB X scope s H C cl fp) cond σ H' Q) (te := fun σ H' Q => ∀ s H C cl fp, WE (CB X scope s H C cl fp) elt σ H' Q) (vs := vs) (σ := σ) (Qd := fun H => Q (.ref D) H) wk (fun i H' => Same H2 H' ∧ H2 D = none ∧ H' D = some (.lst (passed i pb fv))) ⟨same_new hD, hD, upd_same⟩ (fun i H' hi p => hG H' p.1) (fun i x H3 H4 hi p y => ?_) fun H' p => ?_
  · obtain ⟨p1, p2, p3⟩ := p
    obtain ⟨σ2, gt, s4, hw, ht, he⟩ := hel i x H3 H4 hi ((e1.trans e2).trans p1) y
    refine gt _ ⟨hw, ?_⟩
    intro s5 H5 C cl fp
    refine ET.go (e := cond) (ht s5 H5 C cl fp) fun H6 e6 => ?_
    have keep : ∀ {H' : Hp} {zs : List V}, Same H2 H' → Same H2 (upd H' D (.lst zs)) := fun {H' zs} e b o h => by
      have : b ≠ D := ne_of_none h p2
      rw [upd_ne this]; exact e b o h
    cases hb : pb i with
    | true =>
      show ∀ s H C cl fp, WE (CB X scope s H C cl fp) elt σ2 H6 _
      intro s7 H7 C' cl' fp'
      refine EV.go (e := elt) ((he hb s7 H7 C' cl' fp').mono e6) fun v H8 e8 ev => ?_
      cases ev
      have hD8 : H8 D = some (.lst (passed i pb fv)) := e8 _ _ (e6 _ _ (s4 _ _ p3))
      refine ⟨_, hD8, Nat.lt_of_lt_of_le (by have := passed_len i pb fv; omega : (passed i pb fv).length < 100001) (by decide), keep (((p1.trans s4).trans e6).trans e8), p2, ?_⟩
      rw [passed_yes hb]; exact upd_same
    | false =>
      refine (show Same H2 H6 ∧ H2 D = none ∧ H6 D = some (.lst (passed (i + 1) pb fv)) from ⟨(p1.trans s4).trans e6, p2, ?_⟩)
      rw [passed_no hb]; exact e6 _ _ (s4 _ _ p3)
  · obtain ⟨p1, p2, p3⟩ := p
    exact hQ D H' (e2.trans p1) (e2.free p2) p3
/-- a comprehension with one test -/
theorem ev_lcT (hN : X.N.Nodup) (hI : ES X tg iter σ H n Y) (ok : BlkOk X.N X.env.scope scope own) (hg : ∀ s H C cl fp, PG (CB X scope s H C cl fp) tg g) (hz : n ≤ 100000) (pb : Nat → Bool) (fv : Nat → V)
    (hel : ∀ j x H1 H', j < n → Same H H1 → Y j H1 x H' → ∃ σ2, GT g x (wipe σ (own.map (·.2))) H' σ2 ∧ Same H1 H' ∧ wipe σ2 (own.map (·.2)) = wipe σ (own.map (·.2)) ∧ (∀ s H C cl fp, ET (CB X scope s H C cl fp) cond σ2 H' (pb j)) ∧ (pb j = true → ∀ s H C cl fp, EV (CB X scope s H C cl fp) elt σ2 H' (vE (fv j)))) (hc : X.calm = true := by rfl) (hs : ∀ x, foldedSetIterable iter X.env x = pure x := by intro _; rfl) :
    EV X (.ListComp elt [⟨tg, iter, [cond], 0⟩] scope pos) σ H (vNE H (passed n pb fv)) := by
  obtain ⟨wi, p, f⟩ := hI
  refine ev_of (pe_lc hc hN p ok hg (tt := fun σ H' Q => ∀ s H C cl fp, WT (CB X scope s H C cl fp) cond σ H' Q) (fun s H C cl fp => pts_one ⟨fun pins s' σ H' Q I h => h s H C cl fp pins s' I⟩) (te := fun σ H' Q => ∀ s H C cl fp, WE (CB X scope s H C cl fp) elt σ H' Q) (fun s H C cl fp => ⟨fun pins s' σ H' Q I h => h s H C cl fp pins s' I⟩) hs) fun H1 e1 Q q => ?_
  exact lc_readT f hz pb fv hel e1 fun D H2 e2 hD hD2 => q _ H2 e2 ⟨D, rfl, e1.free hD, hD2⟩
theorem s_lcT {i : Nat} {y : Str} {py spos : Pos} (hN : X.N.Nodup) (hI : ES X tg iter σ H n Y) (ok : BlkOk X.N X.env.scope scope own) (hg : ∀ s H C cl fp, PG (CB X scope s H C cl fp) tg g) (hz : n ≤ 100000) (pb : Nat → Bool) (fv : Nat → V)
    (hel : ∀ j x H1 H', j < n → Same H H1 → Y j H1 x H' → ∃ σ2, GT g x (wipe σ (own.map (·.2))) H' σ2 ∧ Same H1 H' ∧ wipe σ2 (own.map (·.2)) = wipe σ (own.map (·.2)) ∧ (∀ s H C cl fp, ET (CB X scope s H C cl fp) cond σ2 H' (pb j)) ∧ (pb j = true → ∀ s H C cl fp, EV (CB X scope s H C cl fp) elt σ2 H' (vE (fv j))))
    (h : ∀ v H', Same H H' → vNE H (passed n pb fv) v H' → D.nx (σ.set i (some v)) H') (hy : X.N[i]? = some y := by rfl) (hyl : X.env.scope.names.lookup y = some .local := by rfl)
    (hsw : swapsWith (.ListComp elt [⟨tg, iter, [cond], 0⟩] scope pos) (some (.Name y py)) spos.line X.env = pure true := by exact sw_true rfl rfl rfl (by decide +kernel)) (hc : X.calm = true := by rfl) (hs : ∀ x, foldedSetIterable iter X.env x = pure x := by intro _; rfl) :
    WS X (.Assign [.Name y py] (.ListComp elt [⟨tg, iter, [cond], 0⟩] scope pos) spos) D σ H := by
  obtain ⟨wi, p, f⟩ := hI
  refine ws_of (ps_setLc hc hN hy hyl hsw p ok hg (tt := fun σ H' Q => ∀ s H C cl fp, WT (CB X scope s H C cl fp) cond σ H' Q) (fun s H C cl fp => pts_one ⟨fun pins s' σ H' Q I h => h s H C cl fp pins s' I⟩) (te := fun σ H' Q => ∀ s H C cl fp, WE (CB X scope s H C cl fp) elt σ H' Q) (fun s H C cl fp => ⟨fun pins s' σ H' Q I h => h s H C cl fp pins s' I⟩) hs) ?_
  exact lc_readT f hz pb fv hel (Same.refl _) fun D H2 e2 hD hD2 => h _ H2 e2 ⟨D, rfl, hD, hD2⟩
end
end Dw
set_option Elab.async false
set_option linter.all false
set_option maxRecDepth 100000
set_option maxHeartbeats 4000000
namespace Dw
open PySem PySem.Spec PyProof.Rows L2 RZ
section
variable {P : Program} {w : World} {K : PySem.W.Frag} {mg : Str → Option Value} {base : Heap}
theorem sz0 {n : Nat} (h : 0 < n) : Sz n (0 : Rat) := ⟨by show 0 < 2 ^ n; exact Nat.two_pow_pos n, by show 1 < 2 ^ n; exact Nat.one_lt_two_pow (by omega)⟩
theorem sz_S {b n : Nat} {f : Nat → Rat} (h : ∀ i, i < n → Sz b (f i)) : ∀ i, i ≤ n → Sz (i * (b + 1) + 1) (S i f)
  | 0, _ => by rw [S_zero]; exact sz0 (by omega)
  | i + 1, hi => by
    rw [S_succ]
    have h1 := (sz_S h i (by omega)).add (h i (by omega))
    have e : i * (b + 1) + 1 + b + 1 = (i + 1) * (b + 1) + 1 := by rw [Nat.add_mul]; omega
    rw [e] at h1
    exact h1
/-- a def of a list of ratios -/
def okSum (n b : Nat) (f : Nat → Rat) : Prop := (∀ i, i < n → Sz b (f i)) ∧ n * (b + 1) + 1 ≤ L ∧ b ≤ L ∧ n ≤ 1000
theorem okSum.part {n b : Nat} {f : Nat → Rat} (h : okSum n b f) {i : Nat} (hi : i < n) : okL (S i f) (f i) :=
  ⟨(sz_S h.1 i (by omega)).mono (by have := Nat.mul_le_mul_right (b + 1) (Nat.le_of_lt hi); have := h.2.1; omega), (h.1 i hi).mono h.2.2.1⟩
def spSum (K : PySem.W.Frag) : Sp := fun vs H Q _ => ∃ (x : V) (n b : Nat) (f : Nat → Rat), vs = [x] ∧ vLQ K n f x H ∧ okSum n b f ∧ ∀ v H', Same H H' → vQ K (S n f) v H' → Q v H'
abbrev sSum : Stmt := top 15
abbrev nSum : List Str := ["some", "found", "one"]
theorem scSum : FnScope nSum ["some"] (defScope sSum) := ⟨rfl, rfl, rfl, by decide +kernel, rfl, by decide +kernel, by decide +kernel⟩
theorem ok_sum {f : Addr} {fd : FuncData} (F : Fun K "sum_of" "sum_of" sSum f fd) (hQ : HasQ P w K mg base) : FnOk P w K mg base CX0 3 f fd ["some"] (spSum K) := by
  refine F.ok scSum (fun vs H Q E h => ?_) (fun cdv A outer s H vs Q E hr h => ⟨_, wss_self, ?_⟩)
  · obtain ⟨x, n, b, f, rfl, _⟩ := h; rfl
  obtain ⟨x, n, b, f, rfl, ⟨p, xs, rfl, hp, hl, hx⟩, hok, k⟩ := h
  have nd := scSum.nd
  subst hl
  refine ss_cons (s_set (i := 1) (P := vQ K 0) (ev_q (q := 0) ev_i ev_i rfl rfl) fun v1 H1 e1 h1 => ?_)
  refine ss_cons (s_for PassesOwn.never (ei_L (ev_v 0 (P := vE (.ref p)) rfl) (e1.seq hp)) (pg_name (i := 2) nd rfl (Or.inl rfl))
    (fun i σ' H' => ∃ v o, σ' = [some (.ref p), some v, o] ∧ Same H H' ∧ vQ K (S i f) v H')
    (fun H2 e2 => ⟨v1, none, rfl, e1.trans e2, Stb.mono e2 h1⟩) (fun i σ' H' _ ⟨_, _, _, e, _⟩ => e.seq hp) ?_ ?_)
  · rintro i x σ' H2 H3 hi ⟨v, o, rfl, e, hv⟩ ⟨rfl, hxi⟩
    refine ⟨_, gt_name, ?_⟩
    obtain ⟨x', q1, q2⟩ := hx i hi
    rw [hxi] at q1; cases q1
    exact ss_one (s_set (i := 1) (P := vQ K (S i f + f i)) (ev_plus hQ hr (ev_v 1 hv) (ev_v 2 (Stb.mono e q2)) (hok.part hi)) fun v3 H4 e4 h4 => ⟨v3, _, rfl, e.trans e4, h4⟩)
  · rintro σ' H2 ⟨v, o, rfl, e, hv⟩
    exact ss_one (s_ret (ev_v 1 hv) fun v3 H4 e4 h4 => k v3 H4 (e.trans e4) h4)
/-- kept_of(loss) -/
def sp1 (K : PySem.W.Frag) (ok : Rat → Prop) (R : Rat → V → Hp → Prop) : Sp := fun vs H Q _ => ∃ (x : V) (a : Rat), vs = [x] ∧ vQ K a x H ∧ ok a ∧ ∀ v H', Same H H' → R a v H' → Q v H'
abbrev sKept : Stmt := top 27
theorem scKept : FnScope ["loss"] ["loss"] (defScope sKept) := ⟨rfl, rfl, rfl, by decide +kernel, rfl, by decide +kernel, by decide +kernel⟩
theorem ok_kept {f : Addr} {fd : FuncData} (F : Fun K "kept_of" "kept_of" sKept f fd) (hQ : HasQ P w K mg base) : FnOk P w K mg base CX0 3 f fd ["loss"] (sp1 K (Sz L) fun a => vQ K (1 - a)) := by
  refine F.ok scKept (fun vs H Q E h => ?_) (fun cdv A outer s H vs Q E hr h => ⟨_, wss_self, ?_⟩)
  · obtain ⟨x, a, rfl, _⟩ := h; rfl
  obtain ⟨x, a, rfl, ha, h1, k⟩ := h
  exact ss_one (s_ret (ev_minus hQ hr (ev_q (q := 1) ev_i ev_i rfl rfl) (ev_v 0 ha) ⟨Sz.int (i := 1) (by decide) (by decide), h1⟩) k)
end
end Dw
set_option Elab.async false
set_option linter.all false
set_option maxRecDepth 100000
set_option maxHeartbeats 4000000
/-! The program's object: its table. -/
namespace Dw
open PySem PySem.Spec PyProof.Rows L2 RZ
/-! ### an instance's attribute, an item of a list, a slice -/
section
variable {X : Cx} {e o a b : Expr} {es : List Expr} {σ : L2.St} {H : Hp} {pos apos p2 : Pos} {P : V → Hp → Prop} {R : List V → Hp → Prop}
theorem ev_fld {f : Str} {p C dx : Addr} {fs : List (Str × V)} {v : V} (ho : EV X o σ H (vE (.ref p))) (hp : H p = some (.ins C dx fs)) (hc : Cls X.K C) (hn : NoAttr X.K C f) (hl : fs.lookup f = some v) (hb : attributeBase o f X.env (eval o X.env) = eval o X.env := by rfl) : EV X (.Attribute o f pos) σ H (vE v) :=
  ev_of (pe_fld we_self hb) fun H1 e1 Q q => ho H1 e1 _ fun x H2 e2 ex => ⟨p, C, dx, fs, v, ex, e2 _ _ (e1 _ _ hp), hc, hn, hl, q v H2 e2 rfl⟩
/-- a method of the module's class C that keeps the promise sp -/
structure HasM (P : Program) (w : World) (K : PySem.W.Frag) (mg : Str → Option Value) (base : Heap) (CX : CXT) (C : Addr) (x : Str) (k : Nat) (ps : List Str) (sp : Sp) : Prop where
  ex : ∃ f fd, FnOk P w K mg base CX k f fd ps sp ∧ Meth K C x f ∧ Binds K fd ps []
theorem we_meth {m : Str} {k : Nat} {ps : List Str} {sp : Sp} {C p dx : Addr} {fs : List (Str × V)} {pl : Sem Bool} (F : HasM X.prog X.w X.K X.mg X.base CX0 C m k ps sp) (c : Cls X.K C) (hr : Room k X.A) (ho : EV X o σ H (vE (.ref p))) (hp : H p = some (.ins C dx fs)) (hl : fs.lookup m = none) (ha : EA X (e :: es) σ H R)
    {Q : VK} (hsp : ∀ vs H1, Same H H1 → R vs H1 → sp (.ref p :: vs) H1 Q E0)
    (hst : starEach (e :: es) X.env = (false, eval e X.env) :: starEach es X.env := by rfl) (hpl : (backTo pos (starEach es X.env)).any (·.1) = false := by rfl)
    (ht : eval (.Call (.Attribute o m apos) (e :: es) [] pos) X.env = (do
      let ov ← eval o X.env
      standAt apos.atName
      let (f, first) ← holding [ov] (getMethod ov m pl)
      callWith pos f first (backTo pos (starEach (e :: es) X.env)) (backToKw pos (keywordEach [] X.env))) := by rfl) : WE X (.Call (.Attribute o m apos) (e :: es) [] pos) σ H Q := by
  obtain ⟨f, fd, G, hm, hb⟩ := F.ex
  refine we_of (pe_meth we_self c hm G hr hb .nil pass0 wa_self hst hpl ht) ?_
  refine ho.go fun x H1 e1 ex => ⟨p, dx, fs, ex, e1 _ _ hp, hl, ?_⟩
  refine ha H1 e1 _ fun vs H2 e2 r => ?_
  rw [List.append_nil, ex]
  exact hsp vs H2 (e1.trans e2) r
theorem we_meth0 {m : Str} {k : Nat} {ps : List Str} {sp : Sp} {C p dx : Addr} {fs : List (Str × V)} {pl : Sem Bool} (F : HasM X.prog X.w X.K X.mg X.base CX0 C m k ps sp) (c : Cls X.K C) (hr : Room k X.A) (ho : EV X o σ H (vE (.ref p))) (hp : H p = some (.ins C dx fs)) (hl : fs.lookup m = none)
    {Q : VK} (hsp : ∀ H1, Same H H1 → sp [.ref p] H1 Q E0)
    (ht : eval (.Call (.Attribute o m apos) [] [] pos) X.env = (do
      let ov ← eval o X.env
      standAt apos.atName
      let (f, first) ← holding [ov] (getMethod ov m pl)
      callWith pos f first (backTo pos (starEach [] X.env)) (backToKw pos (keywordEach [] X.env))) := by rfl) : WE X (.Call (.Attribute o m apos) [] [] pos) σ H Q := by
  obtain ⟨f, fd, G, hm, hb⟩ := F.ex
  refine we_of (pe_meth0 we_self c hm G hr hb .nil pass0 ht) ?_
  refine ho.go fun x H1 e1 ex => ⟨p, dx, fs, ex, e1 _ _ hp, hl, ?_⟩
  rw [ex]
  exact hsp H1 e1
/-- .. that leaves what is -/
theorem ev_meth {m : Str} {k : Nat} {ps : List Str} {sp : Sp} {C p dx : Addr} {fs : List (Str × V)} {pl : Sem Bool} (F : HasM X.prog X.w X.K X.mg X.base CX0 C m k ps sp) (c : Cls X.K C) (hr : Room k X.A) (ho : EV X o σ H (vE (.ref p))) (hp : H p = some (.ins C dx fs)) (hl : fs.lookup m = none) (ha : EA X (e :: es) σ H R)
    (hsp : ∀ vs H1, Same H H1 → R vs H1 → ∀ Q : VK, (∀ v H2, Same H1 H2 → P v H2 → Q v H2) → sp (.ref p :: vs) H1 Q E0)
    (hst : starEach (e :: es) X.env = (false, eval e X.env) :: starEach es X.env := by rfl) (hpl : (backTo pos (starEach es X.env)).any (·.1) = false := by rfl)
    (ht : eval (.Call (.Attribute o m apos) (e :: es) [] pos) X.env = (do
      let ov ← eval o X.env
      standAt apos.atName
      let (f, first) ← holding [ov] (getMethod ov m pl)
      callWith pos f first (backTo pos (starEach (e :: es) X.env)) (backToKw pos (keywordEach [] X.env))) := by rfl) : EV X (.Call (.Attribute o m apos) (e :: es) [] pos) σ H P := fun H1 e1 Q q =>
  we_meth F c hr (ho.mono e1) (e1 _ _ hp) hl (ha.mono e1) (fun vs H2 e2 r => hsp vs H2 (e1.trans e2) r Q fun v H3 e3 p => q v H3 (e2.trans e3) p) hst hpl ht
theorem ev_sliceL {xs : List V} {hi : Int} (ha : EV X a σ H (vL X.K xs)) (hb : EV X b σ H (vI hi)) : EV X (.Subscript a (.Slice none (some b) none p2) pos) σ H (vNE H (cutV xs none (some hi))) :=
  ev_of (pe_slice sl_list we_self po_none (po_some we_self)) fun H1 e1 Q q => ha H1 e1 _ fun x H2 e2 ⟨p, ex, hp⟩ => hb H2 (e1.trans e2) _ fun y H3 e3 ey => ⟨hi, ey, p, xs, ex, e3.seq hp, fun l hl => q _ _ ((e2.trans e3).trans (same_new hl)) ⟨l, rfl, ((e1.trans e2).trans e3).free hl, upd_same⟩⟩
theorem ev_sliceLL {c : Expr} {xs : List V} {lo hi : Int} (ha : EV X a σ H (vL X.K xs)) (hc : EV X c σ H (vI lo)) (hb : EV X b σ H (vI hi)) : EV X (.Subscript a (.Slice (some c) (some b) none p2) pos) σ H (vNE H (cutV xs (some lo) (some hi))) :=
  ev_of (pe_slice sl_list we_self (po_some we_self) (po_some we_self)) fun H1 e1 Q q => ha H1 e1 _ fun x H2 e2 ⟨p, ex, hp⟩ => hc H2 (e1.trans e2) _ fun z H3 e3 ez => ⟨lo, ez, hb H3 ((e1.trans e2).trans e3) _ fun y H4 e4 ey => ⟨hi, ey, p, xs, ex, (e3.trans e4).seq hp, fun l hl => q _ _ (((e2.trans e3).trans e4).trans (same_new hl)) ⟨l, rfl, (((e1.trans e2).trans e3).trans e4).free hl, upd_same⟩⟩⟩
/-- len of a list, of a tuple -/
theorem ev_lenL {xs : List V} {p : Pos} (hm : X.mg "len" = none) (ha : EV X a σ H (vL X.K xs)) (hg : Gl X "len" := by rfl) (hs : starEach [a] X.env = (false, eval a X.env) :: starEach [] X.env := by rfl) : EV X (.Call (.Name "len" p) [a] [] pos) σ H (vI (xs.length : Int)) :=
  ev_bltn call_len_seq hm (ea_one ha hs) (fun vs H1 e1 ⟨v, ev, q, eq, hq⟩ Q k => ⟨q, xs, by rw [ev, eq], .inl hq, k _ H1 (Same.refl _) rfl⟩) PySem.boot_len hg (by decide) (by decide) hs
theorem ev_lenT {xs : List V} {p : Pos} (hm : X.mg "len" = none) (ha : EV X a σ H (vT X.K xs)) (hg : Gl X "len" := by rfl) (hs : starEach [a] X.env = (false, eval a X.env) :: starEach [] X.env := by rfl) : EV X (.Call (.Name "len" p) [a] [] pos) σ H (vI (xs.length : Int)) :=
  ev_bltn call_len_seq hm (ea_one ha hs) (fun vs H1 e1 ⟨v, ev, q, eq, hq⟩ Q k => ⟨q, xs, by rw [ev, eq], .inr hq, k _ H1 (Same.refl _) rfl⟩) PySem.boot_len hg (by decide) (by decide) hs
/-- an item that is a ratio -/
theorem ev_ixQ {n : Nat} {f : Nat → Rat} {i : Nat} (ha : EV X a σ H (vLQ X.K n f)) (hb : EV X b σ H (vI (i : Int))) (hi : i < n) (hs : PlainIx b := by exact fun _ _ => rfl) : EV X (.Subscript a b pos) σ H (vQ X.K (f i)) :=
  ev_of (pe_ix ix_list we_self we_self hs) fun H1 e1 Q q => ha H1 e1 _ fun x H2 e2 ⟨p, xs, ex, hp, hx⟩ => hb H2 (e1.trans e2) _ fun y H3 e3 ey => by
    obtain ⟨v, q1, q2⟩ := hx.2 i hi
    exact ⟨p, xs, i, v, ex, ey, e3.seq hp, atI_nat q1, q v H3 (e2.trans e3) (Stb.mono e3 q2)⟩
theorem ev_ixQT {n : Nat} {f : Nat → Rat} {i : Nat} (ha : EV X a σ H (vTQ X.K n f)) (hb : EV X b σ H (vI (i : Int))) (hi : i < n) (hs : PlainIx b := by exact fun _ _ => rfl) : EV X (.Subscript a b pos) σ H (vQ X.K (f i)) :=
  ev_of (pe_ix ix_tup we_self we_self hs) fun H1 e1 Q q => ha H1 e1 _ fun x H2 e2 ⟨p, xs, ex, hp, hx⟩ => hb H2 (e1.trans e2) _ fun y H3 e3 ey => by
    obtain ⟨v, q1, q2⟩ := hx.2 i hi
    exact ⟨p, xs, i, v, ex, ey, sameT e3 hp, atI_nat q1, q v H3 (e2.trans e3) (Stb.mono e3 q2)⟩
end
/-! ### the object -/
def pf (n : Nat) (sl rl bl : Addr) : List (Str × V) := [("many", .int (n : Int)), ("signs", .ref sl), ("rows", .ref rl), ("basis", .ref bl)]
theorem pf_many {n : Nat} {sl rl bl : Addr} : (pf n sl rl bl).lookup ("many" : Str) = some (V.int (n : Int)) := by rfl
theorem pf_signs {n : Nat} {sl rl bl : Addr} : (pf n sl rl bl).lookup ("signs" : Str) = some (V.ref sl) := by rfl
theorem pf_rows {n : Nat} {sl rl bl : Addr} : (pf n sl rl bl).lookup ("rows" : Str) = some (V.ref rl) := by rfl
theorem pf_basis {n : Nat} {sl rl bl : Addr} : (pf n sl rl bl).lookup ("basis" : Str) = some (V.ref bl) := by rfl
/-- all but what stands at l stays -/
def SameB (l : List Addr) (H H' : Hp) : Prop := ∀ b o, b ∉ l → H b = some o → H' b = some o
theorem SameB.refl (l : List Addr) (H : Hp) : SameB l H H := fun _ _ _ h => h
theorem SameB.trans {l : List Addr} {H H1 H2 : Hp} (a : SameB l H H1) (b : SameB l H1 H2) : SameB l H H2 := fun c o n h => b c o n (a c o n h)
theorem sb_of {l : List Addr} {H H' : Hp} (e : Same H H') : SameB l H H' := fun b o _ h => e b o h
theorem sameB_upd {l : List Addr} {H : Hp} {a : Addr} {o : HO} (h : a ∈ l) : SameB l H (upd H a o) := fun b u n e => by
  have : b ≠ a := fun z => n (by rw [z]; exact h)
  rw [upd_ne this]; exact e
/-- tuples and flat things are not lists -/
theorem sbT {K : PySem.W.Frag} {l : List Addr} {H H' : Hp} {a : Addr} {xs : List V} (e : SameB l H H') (hl : ∀ b ∈ l, ∃ ys, H b = some (.lst ys)) (h : SqT K H a xs) : SqT K H' a xs := by
  have n : ∀ o, H a = some o → (∀ ys, o ≠ .lst ys) → a ∉ l := fun o h1 h2 z => by
    obtain ⟨ys, h3⟩ := hl a z
    rw [h1] at h3; exact h2 ys (Option.some.inj h3)
  rcases h with (h | ⟨o, h⟩) | h
  · exact .inl (.inl (e _ _ (n _ h (by intro ys z; cases z)) h))
  · exact .inl (.inr ⟨o, e _ _ (n _ h (by intro ys z; cases z)) h⟩)
  · exact .inr h
theorem sbQ {K : PySem.W.Frag} {l : List Addr} {H H' : Hp} {q : Rat} {v : V} (e : SameB l H H') (hl : ∀ b ∈ l, ∃ ys, H b = some (.lst ys)) (h : vQ K q v H) : vQ K q v H' := let ⟨p, h1, h2⟩ := h; ⟨p, h1, sbT e hl h2⟩
theorem sbV {K : PySem.W.Frag} {l : List Addr} {H H' : Hp} {n : Nat} {f : Nat → Rat} {xs : List V} (e : SameB l H H') (hl : ∀ b ∈ l, ∃ ys, H b = some (.lst ys)) (h : vsQ K H xs n f) : vsQ K H' xs n f := ⟨h.1, fun i hi => let ⟨x, h1, h2⟩ := h.2 i hi; ⟨x, h1, sbQ e hl h2⟩⟩
theorem sbL {K : PySem.W.Frag} {l : List Addr} {H H' : Hp} {a : Addr} {xs : List V} (e : SameB l H H') (n : a ∉ l) (h : SqL K H a xs) : SqL K H' a xs := by
  rcases h with (h | ⟨o, h⟩) | h
  · exact .inl (.inl (e _ _ n h))
  · exact .inl (.inr ⟨o, e _ _ n h⟩)
  · exact .inr h
/-- one row of the table: a list of ratios at an address that is none of l -/
def RowAt (K : PySem.W.Frag) (l : List Addr) (w : Nat) (f : Nat → Rat) : V → Hp → Prop := fun v H => ∃ a xs, v = .ref a ∧ a ∉ l ∧ H a = some (.lst xs) ∧ vsQ K H xs w f
theorem RowAt.mono {K : PySem.W.Frag} {l : List Addr} {w : Nat} {f : Nat → Rat} {v : V} {H H' : Hp} (e : Same H H') (h : RowAt K l w f v H) : RowAt K l w f v H' := let ⟨a, xs, h1, h2, h3, h4⟩ := h; ⟨a, xs, h1, h2, e _ _ h3, h4.mono e⟩
theorem RowAt.sb {K : PySem.W.Frag} {l : List Addr} {w : Nat} {f : Nat → Rat} {v : V} {H H' : Hp} (e : SameB l H H') (hl : ∀ b ∈ l, ∃ ys, H b = some (.lst ys)) (h : RowAt K l w f v H) : RowAt K l w f v H' := let ⟨a, xs, h1, h2, h3, h4⟩ := h; ⟨a, xs, h1, h2, e _ _ h2 h3, sbV e hl h4⟩
theorem RowAt.congr {K : PySem.W.Frag} {l : List Addr} {w : Nat} {f g : Nat → Rat} {v : V} {H : Hp} (h : RowAt K l w f v H) (e : ∀ i, i < w → f i = g i) : RowAt K l w g v H := let ⟨a, xs, h1, h2, h3, h4, h5⟩ := h; ⟨a, xs, h1, h2, h3, h4, fun i hi => by rw [← e i hi]; exact h5 i hi⟩
/-- the addresses: the object, its dict, signs, rows, basis -/
structure Ad where
  p : Addr
  dx : Addr
  sl : Addr
  rl : Addr
  bl : Addr
abbrev Ad.l (a : Ad) : List Addr := [a.rl, a.bl]
structure Prg (K : PySem.W.Frag) (C : Addr) (m n : Nat) (sg : Nat → Rat) (a : Ad) (t : Tab) (H : Hp) : Prop where
  obj : H a.p = some (.ins C a.dx (pf n a.sl a.rl a.bl))
  signs : ∃ ss, H a.sl = some (.lst ss) ∧ vsQ K H ss m sg
  rows : ∃ rs, H a.rl = some (.lst rs) ∧ rs.length = m ∧ ∀ i, i < m → ∃ v, rs[i]? = some v ∧ RowAt K a.l (n + m + 1) (t.e i) v H
  basis : H a.bl = some (.lst ((List.range m).map fun i => V.int (t.B i : Int)))
  ne : a.rl ≠ a.bl
  nes : a.sl ∉ a.l
section
variable {K : PySem.W.Frag} {C : Addr} {m n : Nat} {sg : Nat → Rat} {a : Ad} {t : Tab} {H H' : Hp}
theorem Prg.mono (h : Prg K C m n sg a t H) (e : Same H H') : Prg K C m n sg a t H' where
  obj := e _ _ h.obj
  signs := let ⟨ss, h1, h2⟩ := h.signs; ⟨ss, e _ _ h1, h2.mono e⟩
  rows := let ⟨rs, h1, h2, h3⟩ := h.rows; ⟨rs, e _ _ h1, h2, fun i hi => let ⟨v, q1, q2⟩ := h3 i hi; ⟨v, q1, q2.mono e⟩⟩
  basis := e _ _ h.basis
  ne := h.ne
  nes := h.nes
theorem Prg.ls (h : Prg K C m n sg a t H) : ∀ b ∈ a.l, ∃ ys, H b = some (.lst ys) := fun b hb => by
  rcases List.mem_cons.mp hb with z | z
  · obtain ⟨rs, h1, _⟩ := h.rows; exact ⟨rs, by rw [z]; exact h1⟩
  · have z : b = a.bl := by simpa using z
    exact ⟨_, by rw [z]; exact h.basis⟩
theorem Prg.bix (h : Prg K C m n sg a t H) {i : Nat} (hi : i < m) : ((List.range m).map fun i => V.int (t.B i : Int))[i]? = some (V.int (t.B i : Int)) := by
  rw [List.getElem?_map, List.getElem?_range hi]; rfl
end
end Dw
set_option Elab.async false
set_option linter.all false
set_option maxRecDepth 100000
set_option maxHeartbeats 4000000
/-! multiplier, rising -/
namespace Dw
open PySem PySem.Spec PyProof.Rows L2 RZ
/-! ### a filtered sum -/
theorem S_filter (g : Nat → Rat) (p : Nat → Bool) (h : ∀ j, p j = false → g j = 0) : ∀ m : Nat, S ((List.range m).filter p).length (fun i => g (((List.range m).filter p).getD i 0)) = S m g
  | 0 => rfl
  | m + 1 => by
    have ih := S_filter g p h m
    rw [List.range_succ, List.filter_append, List.filter_cons]
    by_cases hp : p m = true
    · rw [if_pos hp]
      show S (((List.range m).filter p) ++ [m]).length _ = _
      rw [List.length_append, List.length_singleton, S_succ, S_succ]
      congr 1
      · rw [← ih]
        refine S_congr fun i hi => ?_
        have : (((List.range m).filter p) ++ [m]).getD i 0 = ((List.range m).filter p).getD i 0 := by
          rw [List.getD_eq_getElem?_getD, List.getD_eq_getElem?_getD, List.getElem?_append_left hi]
        show g ((((List.range m).filter p) ++ [m]).getD i 0) = _
        rw [this]
      · show g ((((List.range m).filter p) ++ [m]).getD _ 0) = g m
        rw [List.getD_eq_getElem?_getD, List.getElem?_append_right (Nat.le_refl _)]
        simp
    · rw [if_neg hp, List.filter_nil, List.append_nil, ih, S_succ, h m (by simpa using hp)]; grind
theorem passed_get {n : Nat} {p : Nat → Bool} {f : Nat → V} {i : Nat} {x : V} (h : (passed n p f)[i]? = some x) : ∃ j, ((List.range n).filter p).getD i 0 = j ∧ j < n ∧ p j = true ∧ x = f j := by
  unfold passed at h
  rw [List.getElem?_map] at h
  cases e : ((List.range n).filter p)[i]? with
  | none => rw [e] at h; cases h
  | some j =>
    rw [e] at h
    have hm : j ∈ (List.range n).filter p := List.mem_of_getElem? e
    rw [List.mem_filter, List.mem_range] at hm
    exact ⟨j, by rw [List.getD_eq_getElem?_getD, e]; rfl, hm.1, hm.2, (Option.some.inj h).symm⟩
theorem passed_length (n : Nat) (p : Nat → Bool) (f : Nat → V) : (passed n p f).length = ((List.range n).filter p).length := by unfold passed; rw [List.length_map]
/-! ### what the entries' sizes are -/
abbrev bE : Nat := 236
abbrev bC : Nat := 12
/-- all entries, all costs are small -/
structure Small (m n : Nat) (c : Nat → Rat) (t : Tab) : Prop where
  e : ∀ i, i < m → ∀ k, k ≤ n + m → Sz bE (t.e i k)
  c : ∀ k, k < n + m → Sz bC (c k)
  B : ∀ i, i < m → t.B i < n + m
  m17 : m ≤ 17
  n40 : n ≤ 40
theorem Small.sum {m n : Nat} {c : Nat → Rat} {t : Tab} (h : Small m n c t) {k : Nat} (hk : k ≤ n + m) {l : List Nat} (hl : l.length ≤ m) (hm : ∀ j ∈ l, j < m) : okSum l.length (bC + bE) (fun i => c (t.B (l.getD i 0)) * t.e (l.getD i 0) k) := by
  have hj : ∀ i, i < l.length → l.getD i 0 < m := fun i hi => hm _ (by rw [List.getD_eq_getElem?_getD, List.getElem?_eq_getElem hi]; exact List.getElem_mem hi)
  refine ⟨fun i hi => (h.c _ (h.B _ (hj i hi))).mul (h.e _ (hj i hi) k hk), ?_, by decide, by have := h.m17; omega⟩
  have h1 := h.m17
  have : l.length * (bC + bE + 1) ≤ 17 * (bC + bE + 1) := Nat.mul_le_mul_right _ (by omega)
  have e : 17 * (bC + bE + 1) + 1 ≤ L := by decide
  omega
theorem filter_len (m : Nat) (p : Nat → Bool) : ((List.range m).filter p).length ≤ m := by
  have := List.length_filter_le p (List.range m); rw [List.length_range] at this; exact this
theorem num_ne_iff (q : Rat) : (!decide (V.int q.num = V.int 0)) = !decide (q = 0) := by
  congr 1
  rw [decide_eq_decide]
  exact ⟨fun h => Rat.num_eq_zero.mp (by injection h), fun h => by rw [h]; rfl⟩
section
variable {P : Program} {w : World} {K : PySem.W.Frag} {mg : Str → Option Value} {base : Heap} {C : Addr}
/-- what the top holds for the methods -/
structure TxP (K : PySem.W.Frag) (mg : Str → Option Value) (C : Addr) : Prop where
  cl : Cls K C
  nM : NoAttr K C "many"
  nS : NoAttr K C "signs"
  nR : NoAttr K C "rows"
  nB : NoAttr K C "basis"
  mgC : mg "Program" = some (.ref C)
  len : mg "len" = none
  rng : mg "range" = none
  enu : mg "enumerate" = none
  zip : mg "zip" = none
  lst : mg "list" = none
  tup : mg "tuple" = none
abbrev HasS (P : Program) (w : World) (K : PySem.W.Frag) (mg : Str → Option Value) (base : Heap) : Prop := Has P w K mg base CX0 "sum_of" 3 ["some"] (spSum K)
/-- the costs at cl, a list apart from rows and basis -/
def CostAt (K : PySem.W.Frag) (l : List Addr) (n : Nat) (c : Nat → Rat) (cl : Addr) (H : Hp) : Prop := cl ∉ l ∧ ∃ cs, SqL K H cl cs ∧ vsQ K H cs n c
theorem CostAt.mono {l : List Addr} {n : Nat} {c : Nat → Rat} {cl : Addr} {H H' : Hp} (h : CostAt K l n c cl H) (e : Same H H') : CostAt K l n c cl H' := let ⟨h0, cs, h1, h2⟩ := h; ⟨h0, cs, e.seq h1, h2.mono e⟩
theorem CostAt.sb {l : List Addr} {n : Nat} {c : Nat → Rat} {cl : Addr} {H H' : Hp} (h : CostAt K l n c cl H) (e : SameB l H H') (hl : ∀ b ∈ l, ∃ ys, H b = some (.lst ys)) : CostAt K l n c cl H' := let ⟨h0, cs, h1, h2⟩ := h; ⟨h0, cs, sbL e h0 h1, sbV e hl h2⟩
theorem CostAt.v {l : List Addr} {n : Nat} {c : Nat → Rat} {cl : Addr} {H : Hp} (h : CostAt K l n c cl H) : vLQ K n c (.ref cl) H := let ⟨_, cs, h1, h2⟩ := h; ⟨cl, cs, rfl, h1, h2⟩
def spMult (K : PySem.W.Frag) (C : Addr) : Sp := fun vs H Q _ => ∃ (a : Ad) (m n k : Nat) (sg c : Nat → Rat) (t : Tab) (cl : Addr), vs = [.ref a.p, .ref cl, .int (k : Int)] ∧ Prg K C m n sg a t H ∧ CostAt K a.l (n + m) c cl H ∧ k ≤ n + m ∧ Small m n c t ∧ ∀ v H', Same H H' → vQ K (mult m c t k) v H' → Q v H'
abbrev sMult : Stmt := inClass (top 29) 2
abbrev nMult : List Str := ["self", "costs", "k", "some", "j", "row"]
theorem scMult : FnScope nMult ["self", "costs", "k"] (defScope sMult) := ⟨rfl, rfl, rfl, by decide +kernel, rfl, by decide +kernel, by decide +kernel⟩
/-- self.rows[j][k], self.basis[j] -/
theorem ev_basis {X : Cx} {o b : Expr} {σ : L2.St} {H : Hp} {p1 p2 : Pos} {m n : Nat} {sg : Nat → Rat} {a : Ad} {t : Tab} {j : Nat} (T : TxP X.K X.mg C) (h : Prg X.K C m n sg a t H) (ho : EV X o σ H (vE (.ref a.p))) (hb : EV X b σ H (vI (j : Int))) (hj : j < m) (hba : attributeBase o "basis" X.env (eval o X.env) = eval o X.env := by rfl) (hs : PlainIx b := by exact fun _ _ => rfl) :
    EV X (.Subscript (.Attribute o "basis" p1) b p2) σ H (vI (t.B j : Int)) :=
  ev_ixL ((ev_fld ho h.obj T.cl T.nB pf_basis hba).imp fun v H' e ev => ⟨a.bl, ev, SqL.of (e _ _ h.basis)⟩) hb (atI_nat (h.bix hj)) hs
theorem ev_rowQ {X : Cx} {b : Expr} {σ : L2.St} {H : Hp} {pos : Pos} {l : List Addr} {w k : Nat} {f : Nat → Rat} {e : Expr} {v : V} (h : RowAt X.K l w f v H) (he : EV X e σ H (vE v)) (hb : EV X b σ H (vI (k : Int))) (hk : k < w) (hs : PlainIx b := by exact fun _ _ => rfl) : EV X (.Subscript e b pos) σ H (vQ X.K (f k)) := by
  obtain ⟨a, xs, rfl, hn, ha, hx⟩ := h
  exact ev_ixQ (he.imp fun v H' e ev => (⟨a, xs, ev, SqL.of (e _ _ ha), hx.mono e⟩ : vLQ X.K w f v H')) hb hk hs
theorem ev_row {X : Cx} {o b : Expr} {σ : L2.St} {H : Hp} {p1 p2 : Pos} {m n : Nat} {sg : Nat → Rat} {a : Ad} {t : Tab} {j : Nat} {rs : List V} {v : V} (T : TxP X.K X.mg C) (h : Prg X.K C m n sg a t H) (hr : H a.rl = some (.lst rs)) (hv : rs[j]? = some v) (ho : EV X o σ H (vE (.ref a.p))) (hb : EV X b σ H (vI (j : Int))) (hba : attributeBase o "rows" X.env (eval o X.env) = eval o X.env := by rfl) (hs : PlainIx b := by exact fun _ _ => rfl) :
    EV X (.Subscript (.Attribute o "rows" p1) b p2) σ H (vE v) :=
  ev_ixL ((ev_fld ho h.obj T.cl T.nR pf_rows hba).imp fun v H' e ev => ⟨a.rl, ev, SqL.of (e _ _ hr)⟩) hb (atI_nat hv) hs
theorem ev_rowsL {X : Cx} {o : Expr} {σ : L2.St} {H : Hp} {p1 : Pos} {m n : Nat} {sg : Nat → Rat} {a : Ad} {t : Tab} {rs : List V} (T : TxP X.K X.mg C) (h : Prg X.K C m n sg a t H) (hr : H a.rl = some (.lst rs)) (ho : EV X o σ H (vE (.ref a.p))) (hba : attributeBase o "rows" X.env (eval o X.env) = eval o X.env := by rfl) :
    EV X (.Attribute o "rows" p1) σ H (vL X.K rs) :=
  (ev_fld ho h.obj T.cl T.nR pf_rows hba).imp fun v H' e ev => ⟨a.rl, ev, SqL.of (e _ _ hr)⟩
theorem ok_mult {f : Addr} {fd : FuncData} (F : Fun K "multiplier" "Program.multiplier" sMult f fd) (T : TxP K mg C) (hQ : HasQ P w K mg base) (hS : HasS P w K mg base) : FnOk P w K mg base CX0 4 f fd ["self", "costs", "k"] (spMult K C) := by
  refine F.ok scMult (fun vs H Q E h => ?_) (fun cdv A outer s H vs Q E hr h => ⟨_, wss_self, ?_⟩)
  · obtain ⟨a, m, n, k, sg, c, t, cl, rfl, _⟩ := h; rfl
  obtain ⟨a, m, n, k, sg, c, t, cl, rfl, hP, hC, hk, hS0, kk⟩ := h
  have nd := scMult.nd
  have hr1 : Room 1 _ := hr.mono (by decide)
  have hr2 : Room 2 _ := hr.mono (by decide)
  obtain ⟨rs, hrl, hrs, hrow⟩ := id hP.rows
  subst hrs
  -- some
  refine ss_cons (s_lcT (g := g2 K 4 5) (i := 3) nd ((ei_E T.enu (ev_fld (ev_v 0 (P := vE (.ref a.p)) rfl) hP.obj T.cl T.nR pf_rows) (SqL.of hrl)).es fun H1 e => SqL.of (e _ _ hrl)) (blkOk_by (N := nMult) (sc := defScope sMult) (own := [("j", 4), ("row", 5)]) (by decide +kernel))
    (fun _ _ _ _ _ => pg_tup rfl (pgs_cons (pg_name (i := 4) nd rfl (Or.inl rfl) (Or.inr rfl)) (pgs_cons (pg_name (i := 5) nd rfl (Or.inl rfl) (Or.inr rfl)) pgs_nil))) (by have := hS0.m17; omega) (fun j => !decide (t.e j k = 0) && !decide (c (t.B j) = 0)) (fun j => .int (j : Int)) (fun j x H1 H' hj e hy => ?_) fun v H1 e1 h1 => ?_)
  · obtain ⟨T', x1, y, rfl, h1, h2, hs, hT, _⟩ := ypair_same hy
    cases h1
    obtain ⟨v, hv, hra⟩ := hrow j hj
    have h2 : rs[j]? = some y := h2
    rw [hv] at h2; cases h2
    have e' : Same H H' := e.trans hs
    have hP' := hP.mono e'
    have hra' := hra.mono e'
    have hC' := hC.mono e'
    have hBj := hS0.B j hj
    refine ⟨_, gt_two (SqT.of hT), hs, rfl, fun s5 H5 C5 cl5 fp5 => ?_, fun _ s5 H5 C5 cl5 fp5 => ev_v 4 (P := vE _) rfl⟩
    rw [← num_ne_iff, ← num_ne_iff]
    exact EW.et (ew_and (et_ne (ev_num (ev_rowQ hra' (ev_v 5 (P := vE _) rfl) (ev_v 2 (P := vI (k : Int)) rfl) (by omega))) ev_i)
      (ew_last_and fun _ => et_ne (ev_num (ev_ixQ (ev_v 1 hC'.v) (ev_basis T hP' (ev_v 0 (P := vE (.ref a.p)) rfl) (ev_v 4 (P := vI (j : Int)) rfl) hj) hBj)) ev_i))
  · -- the sum
    generalize hp : (fun j => !decide (t.e j k = 0) && !decide (c (t.B j) = 0)) = pb at h1
    have hz : ∀ j, pb j = false → c (t.B j) * t.e j k = 0 := fun j hj => by
      rw [← hp] at hj
      simp only [Bool.and_eq_false_iff, Bool.not_eq_false', decide_eq_true_eq] at hj
      rcases hj with z | z
      · rw [z]; grind
      · rw [z]; grind
    obtain ⟨sp, rfl, sp0, hsp⟩ := h1
    have hP1 := hP.mono e1
    have hC1 := hC.mono e1
    have hmem : ∀ j ∈ (List.range rs.length).filter pb, j < rs.length := fun j hj => by
      rw [List.mem_filter, List.mem_range] at hj; exact hj.1
    refine ss_one (s_ret (P := vQ K (mult rs.length c t k)) (ev_call hS hr (ea_one (ev_lc (g := gName 4) nd ((ei_L (ev_v 3 (P := vE (.ref sp)) rfl) (SqL.of hsp)).es fun H2 e => SqL.of (e _ _ hsp)) (blkOk_by (N := nMult) (sc := defScope sMult) (own := [("j", 4)]) (by decide +kernel))
      (fun _ _ _ _ _ => pg_name (i := 4) nd rfl (Or.inl rfl)) (by have := passed_len rs.length pb (fun j => V.int (j : Int)); have := hS0.m17; omega) (fun i => vQ K (c (t.B (((List.range rs.length).filter pb).getD i 0)) * t.e (((List.range rs.length).filter pb).getD i 0) k)) (fun i x H2 H3 hi e hy => ?_)))
      (fun vs H2 e2 ⟨v, ev, hv⟩ Q k' => ?_)) fun v H2 e2 hv => kk v H2 (e1.trans e2) hv)
    · obtain ⟨rfl, hx⟩ := hy
      obtain ⟨j, ej, hj, hpj, rfl⟩ := passed_get hx
      have hP2 := hP1.mono e
      have hC2 := hC1.mono e
      obtain ⟨v, hv, hra⟩ := hrow j hj
      have hra2 := (hra.mono e1).mono e
      have hrl2 := e _ _ (e1 _ _ hrl)
      rw [ej]
      refine ⟨_, gt_name, Same.refl _, rfl, fun s5 H5 C5 cl5 fp5 => ?_⟩
      exact ev_by hQ hr2 (ev_ixQ (ev_v 1 hC2.v) (ev_basis T hP2 (ev_v 0 (P := vE (.ref a.p)) rfl) (ev_v 4 (P := vI (j : Int)) rfl) hj) (hS0.B j hj))
          (ev_rowQ hra2 (ev_row T hP2 hrl2 hv (ev_v 0 (P := vE (.ref a.p)) rfl) (ev_v 4 (P := vI (j : Int)) rfl)) (ev_v 2 (P := vI (k : Int)) rfl) (by omega)) ⟨(hS0.c _ (hS0.B j hj)).mono (by decide), (hS0.e j hj k hk).mono (by decide)⟩
    · refine ⟨v, _, bC + bE, _, ev, hv.vLQ, ?_, ?_⟩
      · rw [passed_length]; exact hS0.sum hk (filter_len _ _) hmem
      · rw [passed_length, S_filter (fun j => c (t.B j) * t.e j k) pb hz]
        exact k'
end
end Dw
set_option Elab.async false
set_option linter.all false
set_option maxRecDepth 100000
set_option maxHeartbeats 4000000
/-! turn, rising -/
namespace Dw
open PySem PySem.Spec PyProof.Rows L2 RZ
section
variable {X : Cx} {e o a b i value : Expr} {es : List Expr} {σ : L2.St} {H : Hp} {pos pos' : Pos} {P : V → Hp → Prop} {R : List V → Hp → Prop} {D : Ends}
/-- l[j] = value -/
theorem s_setL {l : Addr} {xs : List V} {j : Nat} (he : EV X value σ H P) (ho : EV X o σ H (vE (.ref l))) (hi : EV X i σ H (vI (j : Int))) (hl : H l = some (.lst xs)) (hj : j < xs.length) (h : ∀ v H', Same H H' → (∃ H1, Same H1 H' ∧ Same H H1 ∧ P v H1) → D.nx σ (upd H' l (.lst (xs.set j v))))
    (hs : swapsWithSole [.Subscript o i pos'] value pos.line X.env = pure false := by rfl) (hw : swappedStores [.Subscript o i pos'] value X.env = pure none := by rfl) (h1 : (assignEach [.Subscript o i pos'] X.env).map (·.2) = [assign (.Subscript o i pos') X.env] := by rfl)
    (ha : ∀ v, assign (.Subscript o i pos') X.env v = (do
      let ov ← holding [v] (eval o X.env)
      let iv ← holding [v, ov] (eval i X.env)
      standAt pos'
      holding [v, ov, iv] (setItem ov iv v)
      release [v, ov, iv] []) := by intro _; rfl) : WS X (.Assign [.Subscript o i pos'] value pos) D σ H := by
  refine ws_of (ps_asg we_self (pg_sub we_self we_self set_list ha) hs hw h1) ?_
  refine he.go fun v H1 e1 p => ?_
  refine ho H1 e1 _ fun x H2 e2 ex => ?_
  refine hi H2 (e1.trans e2) _ fun y H3 e3 ey => ?_
  refine ⟨l, xs, j, j, ex, ey, ((e1.trans e2).trans e3) _ _ hl, ?_, h v H3 ((e1.trans e2).trans e3) ⟨H1, e2.trans e3, e1, p⟩⟩
  unfold ixN
  rw [if_pos (by omega), if_pos (by omega)]; simp
/-- a list's append -/
theorem s_app {l : Addr} {xs : List V} {apos cpos : Pos} (ho : EV X o σ H (vE (.ref l))) (hl : H l = some (.lst xs)) (hz : xs.length < 100000) (he : EV X e σ H P) (h : ∀ v H', Same H H' → P v H' → D.nx σ (upd H' l (.lst (xs ++ [v]))))
    (hs' : swapsWith (.Call (.Attribute o "append" apos) [e] [] cpos) none pos.line X.env = pure false := by rfl)
    (hbase : attributeBase o "append" X.env (eval o X.env) = eval o X.env := by rfl)
    (hfew : ((backTo cpos (starEach [e] X.env)).all (fun x => !x.1) && (backToKw cpos (keywordEach [] X.env)).all (fun x => x.1.isSome)
      && decide ([e].length + ([] : List Keyword).length + (if ([] : List Keyword).isEmpty then 0 else 1) < 30)) = true := by rfl)
    (hline : (apos.endLine == cpos.line) = true := by rfl) (hs : starEach [e] X.env = (false, eval e X.env) :: starEach [] X.env := by rfl) (hplain : (backTo cpos (starEach [] X.env)).any (·.1) = false := by rfl) :
    WS X (.Expr (.Call (.Attribute o "append" apos) [e] [] cpos) pos) D σ H := by
  refine ws_of (ps_expr (pe_bm PySem.F.plainAttrs_list PySem.F.slot_list_append PySem.F.type_list_append mt_append we_self (pa_cons we_self pa_nil hs) hbase hfew hline hs hplain) hs') ?_
  refine ho.go fun x H1 e1 ex => ?_
  cases ex
  refine ⟨.inl ⟨rfl, _, SqL.of (e1 _ _ hl)⟩, ?_⟩
  refine he H1 e1 _ fun v H2 e2 p => ?_
  exact ⟨l, xs, v, rfl, rfl, e2 _ _ (e1 _ _ hl), Nat.lt_of_lt_of_le hz (by decide), h v H2 (e1.trans e2) p⟩
end
section
variable {K : PySem.W.Frag} {C : Addr} {m n : Nat} {sg : Nat → Rat} {a : Ad} {t : Tab} {H H' : Hp}
theorem Prg.congr {u : Tab} (h : Prg K C m n sg a t H) (e : ∀ i, i < m → ∀ k, k ≤ n + m → t.e i k = u.e i k) (eB : ∀ i, i < m → t.B i = u.B i) : Prg K C m n sg a u H where
  obj := h.obj
  signs := h.signs
  rows := let ⟨rs, h1, h2, h3⟩ := h.rows; ⟨rs, h1, h2, fun i hi => let ⟨v, q1, q2⟩ := h3 i hi; ⟨v, q1, q2.congr fun k hk => e i hi k (by omega)⟩⟩
  basis := by
    rw [h.basis]
    congr 2
    exact List.map_congr_left fun i hi => by rw [eB i (List.mem_range.mp hi)]
  ne := h.ne
  nes := h.nes
theorem Prg.setRow {rs : List V} {j : Nat} {f : Nat → Rat} {v : V} (h : Prg K C m n sg a t H) (e : Same H H') (hr : H a.rl = some (.lst rs)) (hv : RowAt K a.l (n + m + 1) f v H') (hj : j < m) : Prg K C m n sg a ⟨fun i => if i = j then f else t.e i, t.B⟩ (upd H' a.rl (.lst (rs.set j v))) := by
  have h' := h.mono e
  have sb : SameB a.l H' (upd H' a.rl (.lst (rs.set j v))) := sameB_upd (by simp [Ad.l])
  obtain ⟨rs', h1, h2, h3⟩ := h.rows
  rw [hr] at h1; cases h1
  refine ⟨?_, ?_, ⟨_, upd_same, by rw [List.length_set]; exact h2, fun i hi => ?_⟩, ?_, h.ne, h.nes⟩
  · have : a.p ≠ a.rl := fun z => by have := h'.obj; rw [z, e _ _ hr] at this; cases this
    rw [upd_ne this]; exact h'.obj
  · obtain ⟨ss, s1, s2⟩ := h'.signs
    exact ⟨ss, sb _ _ h.nes s1, sbV sb h'.ls s2⟩
  · by_cases q : i = j
    · subst q
      refine ⟨v, by rw [List.getElem?_set_self (by omega)], ?_⟩
      simp only [if_true]
      exact hv.sb sb h'.ls
    · obtain ⟨v', q1, q2⟩ := h3 i hi
      refine ⟨v', by rw [List.getElem?_set_ne (Ne.symm q)]; exact q1, ?_⟩
      simp only [q, if_false]
      exact (q2.mono e).sb sb h'.ls
  · rw [upd_ne h.ne.symm]; exact h'.basis
theorem Prg.setB {j k : Nat} (h : Prg K C m n sg a t H) (e : Same H H') (hj : j < m) : Prg K C m n sg a ⟨t.e, fun i => if i = j then k else t.B i⟩ (upd H' a.bl (.lst (((List.range m).map fun i => V.int (t.B i : Int)).set j (.int (k : Int))))) := by
  have h' := h.mono e
  have sb : SameB a.l H' (upd H' a.bl (.lst (((List.range m).map fun i => V.int (t.B i : Int)).set j (.int (k : Int))))) := sameB_upd (by simp [Ad.l])
  obtain ⟨rs', h1, h2, h3⟩ := h'.rows
  refine ⟨?_, ?_, ⟨rs', by rw [upd_ne h.ne]; exact h1, h2, fun i hi => let ⟨v, q1, q2⟩ := h3 i hi; ⟨v, q1, q2.sb sb h'.ls⟩⟩, ?_, h.ne, h.nes⟩
  · have : a.p ≠ a.bl := fun z => by have := h'.obj; rw [z, h'.basis] at this; cases this
    rw [upd_ne this]; exact h'.obj
  · obtain ⟨ss, s1, s2⟩ := h'.signs
    exact ⟨ss, sb _ _ h.nes s1, sbV sb h'.ls s2⟩
  · rw [upd_same]
    congr 2
    refine List.ext_getElem? fun i => ?_
    by_cases hi : i < m
    · by_cases q : i = j
      · subst q
        rw [List.getElem?_set_self (by simp [hi]), List.getElem?_map, List.getElem?_range hi]; simp
      · rw [List.getElem?_set_ne (Ne.symm q), List.getElem?_map, List.getElem?_map, List.getElem?_range hi]; simp [q]
    · rw [List.getElem?_eq_none (by simp; omega), List.getElem?_eq_none (by simp; omega)]
theorem vNL.row {l : List Addr} {n : Nat} {f : Nat → Rat} {v : V} (h : vNL H n (fun j => vQ K (f j)) v H') (hl : ∀ b ∈ l, ∃ ys, H b = some (.lst ys)) : RowAt K l n f v H' := by
  obtain ⟨p, ys, h1, h2, h3, h4, h5⟩ := h
  refine ⟨p, ys, h1, fun z => ?_, h3, h4, h5⟩
  obtain ⟨ys, q⟩ := hl p z
  rw [h2] at q; cases q
end
section
variable {P : Program} {w : World} {K : PySem.W.Frag} {mg : Str → Option Value} {base : Heap} {C : Addr}
def spTurn (K : PySem.W.Frag) (C : Addr) : Sp := fun vs H Q _ => ∃ (a : Ad) (m n j k : Nat) (sg : Nat → Rat) (t : Tab), vs = [.ref a.p, .int (j : Int), .int (k : Int)] ∧ Prg K C m n sg a t H ∧ j < m ∧ k ≤ n + m ∧ m ≤ 17 ∧ n ≤ 40 ∧ t.e j k ≠ 0 ∧
  (∀ i, i < m → ∀ l, l ≤ n + m → Sz bE (t.e i l)) ∧ (∀ l, l ≤ n + m → Sz bE ((turn t j k).e j l)) ∧ ∀ H', SameB a.l H H' → Prg K C m n sg a (turn t j k) H' → Q .non H'
abbrev sTurn : Stmt := inClass (top 29) 1
abbrev nTurn : List Str := ["self", "j", "k", "pivot", "i", "factor", "one", "a", "b"]
theorem scTurn : FnScope nTurn ["self", "j", "k"] (defScope sTurn) := ⟨rfl, rfl, rfl, by decide +kernel, rfl, by decide +kernel, by decide +kernel⟩
theorem ok_turn {f : Addr} {fd : FuncData} (F : Fun K "turn" "Program.turn" sTurn f fd) (T : TxP K mg C) (hQ : HasQ P w K mg base) : FnOk P w K mg base CX0 3 f fd ["self", "j", "k"] (spTurn K C) := by
  refine F.ok scTurn (fun vs H Q E h => ?_) (fun cdv A outer s H vs Q E hr h => ⟨_, wss_self, ?_⟩)
  · obtain ⟨a, m, n, j, k, sg, t, rfl, _⟩ := h; rfl
  obtain ⟨a, m, n, j, k, sg, t, rfl, hP, hj, hk, hm, hn, h0, hz, hz2, kk⟩ := h
  have nd := scTurn.nd
  obtain ⟨rs, hrl, hrs, hrow⟩ := id hP.rows
  obtain ⟨vj, hvj, hraj⟩ := hrow j hj
  -- pivot
  refine ss_cons (s_set (i := 3) (P := vQ K (t.e j k)) (ev_rowQ hraj (ev_row T hP hrl hvj (ev_v 0 (P := vE (.ref a.p)) rfl) (ev_v 1 (P := vI (j : Int)) rfl)) (ev_v 2 (P := vI (k : Int)) rfl) (by omega)) fun vp H1 e1 hp => ?_)
  have hP1 := hP.mono e1
  have hrl1 := e1 _ _ hrl
  obtain ⟨aj, xj, rfl, naj, haj, hxj⟩ := id (hraj.mono e1)
  -- self.rows[j]
  refine ss_cons (s_setL (l := a.rl) (j := j) (xs := rs) (P := vNL H1 (n + m + 1) fun l => vQ K (t.e j l / t.e j k)) (ev_lc (g := gName 6) nd ((ei_L (ev_row T hP1 hrl1 hvj (ev_v 0 (P := vE (.ref a.p)) rfl) (ev_v 1 (P := vI (j : Int)) rfl)) (SqL.of haj)).es fun H2 e => SqL.of (e _ _ haj)) (blkOk_by (N := nTurn) (sc := defScope sTurn) (own := [("one", 6)]) (by decide +kernel))
    (fun _ _ _ _ _ => pg_name (i := 6) nd rfl (Or.inl rfl)) (by have := hxj.1; omega) (fun l => vQ K (t.e j l / t.e j k)) (fun l x H2 H3 hl e hy => ?_) |> fun h => hxj.1 ▸ h) (ev_fld (ev_v 0 (P := vE (.ref a.p)) rfl) hP1.obj T.cl T.nR pf_rows) (ev_v 1 (P := vI (j : Int)) rfl) hrl1 (by omega) fun v H2 e2 ⟨H3, e3, e4, hv⟩ => ?_)
  · obtain ⟨rfl, hx⟩ := hy
    obtain ⟨x', q1, q2⟩ := hxj.2 l (by have := hxj.1; omega)
    rw [hx] at q1; cases q1
    refine ⟨_, gt_name, Same.refl _, rfl, fun s5 H5 C5 cl5 fp5 => ?_⟩
    exact ev_over hQ (hr.mono (by decide)) (ev_v 6 (Stb.mono e q2)) (ev_v 3 (Stb.mono e hp)) ⟨(hz j hj l (by have := hxj.1; omega)).mono (by decide), (hz j hj k hk).mono (by decide), h0⟩
  have hP2 := hP1.setRow e2 hrl1 ((hv.row hP1.ls).mono e3) hj
  have sb2 : SameB a.l H (upd H2 a.rl (.lst (rs.set j v))) := (sb_of (e1.trans e2)).trans (sameB_upd (by simp [Ad.l]))
  -- the other rows
  refine ss_cons (s_for PassesOwn.never (ei_R1 (n := m) T.rng ((ev_lenL T.len (ev_rowsL T hP2 upd_same (ev_v 0 (P := vE (.ref a.p)) rfl))).imp (P1 := vI (m : Int)) fun v' H' e ev => by rw [List.length_set, hrs] at ev; exact ev) (by omega))
    (pg_name (i := 4) nd rfl (Or.inl rfl))
    (fun i σ' H' => ∃ o1 o2, σ' = [some (.ref a.p), some (.int (j : Int)), some (.int (k : Int)), some vp, o1, o2, none, none, none] ∧ SameB a.l H H' ∧ Prg K C m n sg a ⟨fun r => if r = j then (fun l => t.e j l / t.e j k) else if r < i then (turn t j k).e r else t.e r, t.B⟩ H')
    (fun H3 e3 => ⟨none, none, rfl, sb2.trans (sb_of e3), (hP2.mono e3).congr (fun r hr l hl => by by_cases q : r = j <;> simp [q]) fun _ _ => rfl⟩) (fun _ _ _ _ _ => trivial) ?_ ?_)
  · rintro i x σ' H3 H4 hi ⟨o1, o2, rfl, sb, hP3⟩ ⟨rfl, rfl⟩
    refine ⟨_, gt_name, ?_⟩
    obtain ⟨rs3, hrl3, hrs3, hrow3⟩ := id hP3.rows
    obtain ⟨vi, hvi, hrai⟩ := hrow3 i hi
    refine ss_cons (s_set (i := 5) (P := vQ K (if i = j then t.e j k / t.e j k else t.e i k)) ((ev_rowQ hrai (ev_row T hP3 hrl3 hvi (ev_v 0 (P := vE (.ref a.p)) rfl) (ev_v 4 (P := vI (i : Int)) rfl)) (ev_v 2 (P := vI (k : Int)) rfl) (by omega)).imp (P1 := vQ K (if i = j then t.e j k / t.e j k else t.e i k)) fun v' H' _ hv' => by
      by_cases q : i = j
      · simp only [q, if_true] at hv' ⊢; exact hv'
      · simp only [q, if_false, Nat.lt_irrefl] at hv' ⊢; exact hv') fun vf H5 e5 hf => ?_)
    have hP5 := hP3.mono e5
    have hrl5 := e5 _ _ hrl3
    -- i != j and factor[0] != 0
    refine ss_one (s_if (k := !decide (i = j) && !decide ((if i = j then t.e j k / t.e j k else t.e i k) = 0)) (EW.et (ew_and (k := !decide (i = j)) ((et_ne (ev_v 4 (P := vI (i : Int)) rfl) (ev_v 1 (P := vI (j : Int)) rfl)).is (by congr 1; rw [decide_eq_decide]; exact ⟨fun h => by injection h with h; omega, fun h => by rw [h]⟩)) (ew_last_and fun _ => (et_ne (ev_num (ev_v 5 hf)) ev_i).is (num_ne_iff _)))) (fun hb H6 e6 => ?_) (fun hb H6 e6 => ?_))
    · simp only [Bool.and_eq_true, Bool.not_eq_true', decide_eq_false_iff_not] at hb
      obtain ⟨hij, hf0⟩ := hb
      simp only [hij, if_false] at hf
      have hP6 := hP5.mono e6
      have hrl6 := e6 _ _ hrl5
      obtain ⟨ai, xi, rfl, nai, hai, hxi⟩ := id ((hrai.mono e5).mono e6)
      obtain ⟨vj3, hvj3, hraj3⟩ := hrow3 j hj
      obtain ⟨aj3, xj3, rfl, naj3, haj3, hxj3⟩ := id ((hraj3.mono e5).mono e6)
      have hl1 := hxi.1
      have hl2 := hxj3.1
      refine ss_one (s_setL (l := a.rl) (j := i) (xs := rs3) (P := vNL H6 (min xi.length xj3.length) fun l => vQ K (t.e i l - t.e i k * (t.e j l / t.e j k))) (ev_lc (g := g2 K 7 8) nd ((ei_Z T.zip (ev_row T hP6 hrl6 hvi (ev_v 0 (P := vE (.ref a.p)) rfl) (ev_v 4 (P := vI (i : Int)) rfl)) (ev_row T hP6 hrl6 hvj3 (ev_v 0 (P := vE (.ref a.p)) rfl) (ev_v 1 (P := vI (j : Int)) rfl)) (SqL.of hai) (SqL.of haj3)).es fun H7 e => ⟨SqL.of (e _ _ hai), SqL.of (e _ _ haj3)⟩) (blkOk_by (N := nTurn) (sc := defScope sTurn) (own := [("a", 7), ("b", 8)]) (by decide +kernel))
        (fun _ _ _ _ _ => pg_tup rfl (pgs_cons (pg_name (i := 7) nd rfl (Or.inl rfl) (Or.inr rfl)) (pgs_cons (pg_name (i := 8) nd rfl (Or.inl rfl) (Or.inr rfl)) pgs_nil))) (by omega) (fun l => vQ K (t.e i l - t.e i k * (t.e j l / t.e j k))) (fun l x H7 H8 hl e hy => ?_)) (ev_fld (ev_v 0 (P := vE (.ref a.p)) rfl) hP6.obj T.cl T.nR pf_rows) (ev_v 4 (P := vI (i : Int)) rfl) hrl6 (by omega) fun v6 H7 e7 ⟨H8, e8, e9, hv6⟩ => ?_)
      · obtain ⟨T', x1, y1, rfl, h1, h2, hs, hT, _⟩ := ypair_same hy
        obtain ⟨x', q1, q2⟩ := hxi.2 l (by omega)
        obtain ⟨y', r1, r2⟩ := hxj3.2 l (by omega)
        have h1 : xi[l]? = some x1 := h1
        have h2 : xj3[l]? = some y1 := h2
        rw [q1] at h1; cases h1
        rw [r1] at h2; cases h2
        simp only [hij, if_false, Nat.lt_irrefl] at q2
        simp only [if_true] at r2
        have hll : l ≤ n + m := by omega
        have z1 : Sz bE (t.e j l / t.e j k) := by have := hz2 l hll; rw [turn_e_same] at this; exact this
        refine ⟨_, gt_two (SqT.of hT), hs, rfl, fun s5 H5' C5 cl5 fp5 => ?_⟩
        exact ev_minus hQ (hr.mono (by decide)) (ev_v 7 (Stb.mono hs (Stb.mono e q2))) (ev_by hQ (hr.mono (by decide)) (ev_v 5 (Stb.mono hs (Stb.mono e (Stb.mono e6 hf)))) (ev_v 8 (Stb.mono hs (Stb.mono e r2))) ⟨(hz i hi k hk).mono (by decide), z1.mono (by decide)⟩) ⟨(hz i hi l hll).mono (by decide), ((hz i hi k hk).mul z1).mono (by decide)⟩
      · have ew : min xi.length xj3.length = n + m + 1 := by omega
        rw [ew] at hv6
        have hP7 := hP6.setRow e7 hrl6 ((hv6.row hP6.ls).mono e8) hi
        refine ⟨_, _, rfl, ((sb.trans (sb_of (e5.trans e6))).trans (sb_of e7)).trans (sameB_upd (by simp [Ad.l])), hP7.congr (fun r hr l hl => ?_) fun _ _ => rfl⟩
        show (if r = i then (fun l => t.e i l - t.e i k * (t.e j l / t.e j k)) else if r = j then (fun l => t.e j l / t.e j k) else if r < i then (turn t j k).e r else t.e r) l = (if r = j then (fun l => t.e j l / t.e j k) else if r < i + 1 then (turn t j k).e r else t.e r) l
        by_cases q : r = i
        · subst q
          rw [if_pos rfl, if_neg hij, if_pos (by omega), turn_e_ne hij]
        · rw [if_neg q]
          by_cases q2 : r = j
          · rw [if_pos q2, if_pos q2]
          · rw [if_neg q2, if_neg q2]
            by_cases q3 : r < i
            · rw [if_pos q3, if_pos (by omega)]
            · rw [if_neg q3, if_neg (by omega)]
    · refine ss_nil ⟨_, _, rfl, sb.trans (sb_of (e5.trans e6)), (hP5.mono e6).congr (fun r hr l hl => ?_) fun _ _ => rfl⟩
      show (if r = j then (fun l => t.e j l / t.e j k) else if r < i then (turn t j k).e r else t.e r) l = (if r = j then (fun l => t.e j l / t.e j k) else if r < i + 1 then (turn t j k).e r else t.e r) l
      by_cases q2 : r = j
      · rw [if_pos q2, if_pos q2]
      · rw [if_neg q2, if_neg q2]
        by_cases q3 : r < i
        · rw [if_pos q3, if_pos (by omega)]
        · rw [if_neg q3]
          by_cases q : r = i
          · subst q
            simp only [q2, decide_false, Bool.not_false, Bool.true_and, if_false, Bool.not_eq_false', decide_eq_true_eq] at hb
            rw [if_pos (by omega), turn_e_ne q2, hb]
            grind
          · rw [if_neg (by omega)]
  · rintro σ' H3 ⟨o1, o2, rfl, sb, hP3⟩
    refine ss_one (s_setL (l := a.bl) (j := j) (P := vI (k : Int)) (ev_v 2 (P := vI (k : Int)) rfl) (ev_fld (ev_v 0 (P := vE (.ref a.p)) rfl) hP3.obj T.cl T.nB pf_basis) (ev_v 1 (P := vI (j : Int)) rfl) hP3.basis (by simp [hj]) fun v3 H4 e4 ⟨_, _, _, ev⟩ => ?_)
    cases ev
    have hP4 := hP3.setB (k := k) e4 hj
    refine kk _ ((sb.trans (sb_of e4)).trans (sameB_upd (by simp [Ad.l]))) (hP4.congr (fun r hr l hl => ?_) fun r hr => rfl)
    show (if r = j then (fun l => t.e j l / t.e j k) else if r < m then (turn t j k).e r else t.e r) l = (turn t j k).e r l
    by_cases q2 : r = j
    · rw [if_pos q2, q2, turn_e_same]
    · rw [if_neg q2, if_pos hr]
end
end Dw
set_option Elab.async false
set_option linter.all false
set_option maxRecDepth 100000
set_option maxHeartbeats 4000000
/-! rising, climb -/
namespace Dw
open PySem PySem.Spec PyProof.Rows L2 RZ
section
variable {X : Cx} {e o a b i value c : Expr} {es : List Expr} {σ : L2.St} {H : Hp} {pos pos' : Pos} {P P1 P2 : V → Hp → Prop} {R : List V → Hp → Prop} {D : Ends} {body : List Stmt}
theorem s_while (hp : PassesOwn (model X.prog X.w) X.A X.env X.xe) (W : Nat → L2.St → Hp → Prop) (m0 : Nat) (h0 : W m0 σ H)
    (hs : ∀ m σ' H', W m σ' H' → ∃ b, ET X c σ' H' b ∧ (b = true → ∀ H1, Same H' H1 → WSs X body { D with nx := fun σ2 H2 => ∃ m', m' < m ∧ W m' σ2 H2, ct := fun σ2 H2 => ∃ m', m' < m ∧ W m' σ2 H2, bk := D.nx } σ' H1) ∧ (b = false → ∀ H1, Same H' H1 → D.nx σ' H1)) :
    WS X (.While c body [] pos) D σ H := by
  refine ws_of (ps_while hp wt_self wss_self) ⟨W, ⟨m0, h0⟩, fun m σ' H' w => ?_⟩
  obtain ⟨b, ht, h1, h2⟩ := hs m σ' H' w
  refine ht.go fun H1 e1 => ?_
  cases b with
  | true => exact ⟨_, fun _ _ h => h, h1 rfl H1 e1⟩
  | false => exact h2 rfl H1 e1
/-- x, y = a, b -/
theorem s_par {i j : Nat} {x y : Str} {px py pt : Pos} {kt k2 pt2} [Stb P1] (h1 : EV X a σ H P1) (h2 : EV X b σ H P2) (h : ∀ v w H', Same H H' → P1 v H' → P2 w H' → D.nx ((σ.set i (some v)).set j (some w)) H') (hN : X.N.Nodup) (hi : X.N[i]? = some x := by rfl) (hj : X.N[j]? = some y := by rfl) (hij : i ≠ j := by decide)
    (hx : X.env.scope.names.lookup x = some .local := by rfl) (hy : X.env.scope.names.lookup y = some .local := by rfl) (hw : swappedStores [.Tuple [.Name x px, .Name y py] kt pt] (.Tuple [a, b] k2 pt2) X.env = pure (some [x, y]) := by rfl)
    (hs : swapsWithSole [.Tuple [.Name x px, .Name y py] kt pt] (.Tuple [a, b] k2 pt2) pos.line X.env = pure false := by rfl) (hc : X.calm = true := by rfl)
    (hsa : starEach [a, b] X.env = (false, eval a X.env) :: starEach [b] X.env := by rfl) (hsb : starEach [b] X.env = (false, eval b X.env) :: starEach [] X.env := by rfl) :
    WS X (.Assign [.Tuple [.Name x px, .Name y py] kt pt] (.Tuple [a, b] k2 pt2) pos) D σ H := by
  refine ws_of (ps_par hc hN hi hj hij hx hy (pa_cons we_self (pa_cons we_self pa_nil hsb) hsa) hw hs) ?_
  refine h1.go fun v H1 e1 p1 => ?_
  refine h2 H1 e1 _ fun w' H2 e2 p2 => ?_
  exact ⟨v, w', rfl, h v w' H2 (e1.trans e2) (Stb.mono e2 p1) p2⟩
/-- == of two ratios -/
theorem dp_q {K : PySem.W.Frag} {H : Hp} {v : V} {q : Rat} (h : vQ K q v H) : Dp K H v (.tuple [.int q.num, .int (q.den : Int)]) := by
  obtain ⟨p, rfl, hp⟩ := h
  exact .tup hp (.cons (.int _) (.cons (.int _) .nil))
theorem eqv_q (a b : Rat) : PyData.eqv (.tuple [.int a.num, .int (a.den : Int)]) (.tuple [.int b.num, .int (b.den : Int)]) = decide (a = b) := by
  show (a.num == b.num && ((a.den : Int) == (b.den : Int) && true)) = decide (a = b)
  rw [Bool.and_true, Bool.eq_iff_iff, Bool.and_eq_true, beq_iff_eq, beq_iff_eq, decide_eq_true_eq]
  exact ⟨fun h => Rat.ext h.1 (by have := h.2; omega), fun h => by rw [h]; exact ⟨rfl, rfl⟩⟩
theorem et_eqQ {qa qb : Rat} (hu : X.A.units + 64 < cLine) (ha : EV X a σ H (vQ X.K qa)) (hb : EV X b σ H (vQ X.K qb)) : ET X (.Compare a [.Eq] [b] pos) σ H (decide (qa = qb)) :=
  et_cmp (op_eqD hu) ha hb fun x y H1 _ p1 p2 Q q => ⟨_, _, dp_q p1, dp_q p2, by rfl, by rfl, by rw [eqv_q]; exact q⟩
end
theorem Small.mult {m n : Nat} {c : Nat → Rat} {t : Tab} (h : Small m n c t) {k : Nat} (hk : k ≤ n + m) : Sz L (mult m c t k) := by
  have := sz_S (b := bC + bE) (n := m) (f := fun i => c (t.B i) * t.e i k) (fun i hi => (h.c _ (h.B i hi)).mul (h.e i hi k hk)) m (Nat.le_refl _)
  refine this.mono ?_
  have h1 := h.m17
  have h2 : m * (bC + bE + 1) ≤ 17 * (bC + bE + 1) := Nat.mul_le_mul_right _ h1
  have e : 17 * (bC + bE + 1) + 1 ≤ L := by decide
  omega
section
variable {P : Program} {w : World} {K : PySem.W.Frag} {mg : Str → Option Value} {base : Heap} {C : Addr}
/-- the first column that would raise the sum -/
def Rise (m cols : Nat) (c : Nat → Rat) (t : Tab) : Option Nat → Prop
  | none => ∀ k, k < cols → ¬ mult m c t k < c k
  | some s => s < cols ∧ mult m c t s < c s ∧ ∀ k, k < s → ¬ mult m c t k < c k
def oV : Option Nat → V
  | none => .non
  | some s => .int (s : Int)
def spRise (K : PySem.W.Frag) (C : Addr) : Sp := fun vs H Q _ => ∃ (a : Ad) (m n cols : Nat) (sg c : Nat → Rat) (t : Tab) (cl : Addr), vs = [.ref a.p, .ref cl, .int (cols : Int)] ∧ Prg K C m n sg a t H ∧ CostAt K a.l (n + m) c cl H ∧ cols ≤ n ∧ Small m n c t ∧ ∀ o H', Same H H' → Rise m cols c t o → Q (oV o) H'
abbrev sRise : Stmt := inClass (top 29) 3
abbrev nRise : List Str := ["self", "costs", "columns", "k"]
theorem scRise : FnScope nRise ["self", "costs", "columns"] (defScope sRise) := ⟨rfl, rfl, rfl, by decide +kernel, rfl, by decide +kernel, by decide +kernel⟩
theorem ok_rise {f : Addr} {fd : FuncData} (F : Fun K "rising" "Program.rising" sRise f fd) (T : TxP K mg C) (hQ : HasQ P w K mg base) (hM : HasM P w K mg base CX0 C "multiplier" 4 ["self", "costs", "k"] (spMult K C)) : FnOk P w K mg base CX0 5 f fd ["self", "costs", "columns"] (spRise K C) := by
  refine F.ok scRise (fun vs H Q E h => ?_) (fun cdv A outer s H vs Q E hr h => ⟨_, wss_self, ?_⟩)
  · obtain ⟨a, m, n, cols, sg, c, t, cl, rfl, _⟩ := h; rfl
  obtain ⟨a, m, n, cols, sg, c, t, cl, rfl, hP, hC, hcols, hS0, kk⟩ := h
  have nd := scRise.nd
  have n40 := hS0.n40
  refine ss_cons (s_for PassesOwn.never (ei_R1 (n := cols) T.rng (ev_v 2 (P := vI (cols : Int)) rfl) (by omega)) (pg_name (i := 3) nd rfl (Or.inl rfl))
    (fun i σ' H' => ∃ o, σ' = [some (.ref a.p), some (.ref cl), some (.int (cols : Int)), o] ∧ Same H H' ∧ ∀ k, k < i → ¬ mult m c t k < c k)
    (fun H1 e1 => ⟨none, rfl, e1, fun k hk => absurd hk (by omega)⟩) (fun _ _ _ _ _ => trivial) ?_ ?_)
  · rintro i x σ' H3 H4 hi ⟨o, rfl, e, hno⟩ ⟨rfl, rfl⟩
    refine ⟨_, gt_name, ?_⟩
    have hP3 := hP.mono e
    have hC3 := hC.mono e
    refine ss_one (s_if (k := decide (mult m c t i < c i)) (et_val (ev_less hQ (hr.mono (by decide)) (ev_meth (P := vQ K (mult m c t i)) hM T.cl hr (ev_v 0 (P := vE (.ref a.p)) rfl) hP3.obj (by rfl) (ea_two (ev_v 1 (P := vE (.ref cl)) rfl) (ev_v 3 (P := vI (i : Int)) rfl)) fun vs H5 e5 ⟨v, w', ev, e6, e7⟩ Q k => ⟨a, m, n, i, sg, c, t, cl, by rw [ev, e6, e7], hP3.mono e5, hC3.mono e5, by omega, hS0, k⟩)
      (ev_ixQ (ev_v 1 hC3.v) (ev_v 3 (P := vI (i : Int)) rfl) (by omega)) ⟨hS0.mult (by omega), (hS0.c i (by omega)).mono (by decide)⟩)) (fun hb H5 e5 => ?_) (fun hb H5 e5 => ?_))
    · exact ss_one (s_ret (ev_v 3 (P := vI (i : Int)) rfl) fun v H6 e6 ev => by
        cases ev
        exact kk (some i) H6 ((e.trans e5).trans e6) ⟨hi, of_decide_eq_true hb, hno⟩)
    · exact ss_nil ⟨_, rfl, e.trans e5, fun k hk => by
        by_cases q : k = i
        · rw [q]; exact of_decide_eq_false hb
        · exact hno k (by omega)⟩
  · rintro σ' H3 ⟨o, rfl, e, hno⟩
    exact ss_one (s_ret ev_n fun v H4 e4 ev => by
      cases ev
      exact kk none H4 (e.trans e4) hno)
end
end Dw
set_option Elab.async false
set_option linter.all false
set_option maxRecDepth 100000
set_option maxHeartbeats 4000000
/-! climb -/
namespace Dw
open PySem PySem.Spec PyProof.Rows L2 RZ
/-- the equations' sizes -/
structure Sys (m n : Nat) (A : Nat → Nat → Rat) (r : Nat → Rat) : Prop where
  M : ∃ M, (∀ q, q < m → ∀ k, k ≤ n + m → isI M (r q * A q k)) ∧ dbound M m < 2 ^ bE
  m17 : m ≤ 17
  n40 : n ≤ 40
theorem frac_size {q : Rat} {d z : Int} {N : Nat} (hd : d ≠ 0) (hd2 : d.natAbs < 2 ^ N) (hz : z.natAbs < 2 ^ N) (e : q * (d : Rat) = (z : Rat)) : Sz N q := by
  have h0 : (d : Rat) ≠ 0 := fun h => hd (Rat.intCast_eq_zero_iff.mp h)
  have e2 : q = Rat.divInt z d := by
    rw [Rat.divInt_eq_div, ← e, Rat.mul_div_cancel h0]
  rw [e2]
  obtain ⟨x, y⟩ := divInt_size z d hd
  exact ⟨by omega, by omega⟩
theorem Sys.size {m n : Nat} {A : Nat → Nat → Rat} {r : Nat → Rat} {t : Tab} (S : Sys m n A r) (G : Good m n A r t) : ∀ i, i < m → ∀ k, k ≤ n + m → Sz bE (t.e i k) := by
  obtain ⟨M, hM, hb⟩ := S.M
  obtain ⟨d, d0, d1, d2⟩ := good_frac G hM
  intro i hi k hk
  obtain ⟨z, z1, z2⟩ := d2 i hi k hk
  exact frac_size d0 (by omega) (by omega) z2
theorem Sys.small {m n : Nat} {A : Nat → Nat → Rat} {r c : Nat → Rat} {t : Tab} (S : Sys m n A r) (G : Good m n A r t) (hc : ∀ k, k < n + m → Sz bC (c k)) : Small m n c t := ⟨S.size G, hc, G.bN, S.m17, S.n40⟩
theorem ev_neg {X : Cx} {a : Expr} {σ : L2.St} {H : Hp} {pos : Pos} {i : Int} (ha : EV X a σ H (vI i)) : EV X (.UnaryOp .USub a pos) σ H (vI (-i)) :=
  ev_of (pe_un un_neg we_self) fun H1 e1 Q q => ha H1 e1 _ fun x H2 e2 ex => ⟨i, ex, q _ H2 e2 rfl⟩
theorem num_pos_iff (q : Rat) : 0 < q.num ↔ 0 < q := by
  have h1 := @Rat.num_nonneg q
  have h2 := @Rat.num_eq_zero q
  constructor
  · intro h
    have : 0 ≤ q := h1.mp (by omega)
    have : q ≠ 0 := fun z => by have := h2.mpr z; omega
    grind
  · intro h
    have : 0 ≤ q.num := h1.mpr (by grind)
    have : q.num ≠ 0 := fun z => by have := h2.mp z; grind
    omega
def vP (p : V → Prop) : V → Hp → Prop := fun v _ => p v
instance {p : V → Prop} : Stb (vP p) := ⟨fun _ h => h⟩
/-- the row that leaves, among the first i -/
def Best (m n k i : Nat) (t : Tab) : Option Nat → Prop
  | none => ∀ r, r < i → ¬ 0 < t.e r k
  | some j => j < i ∧ 0 < t.e j k ∧ ∀ r, r < i → 0 < t.e r k → t.e j (n + m) / t.e j k < t.e r (n + m) / t.e r k ∨ (t.e j (n + m) / t.e j k = t.e r (n + m) / t.e r k ∧ t.B j ≤ t.B r)
theorem best_skip {m n k i : Nat} {t : Tab} {o : Option Nat} (h : Best m n k i t o) (hi : ¬ 0 < t.e i k) : Best m n k (i + 1) t o := by
  cases o with
  | none =>
    intro r hr
    by_cases q : r = i
    · rw [q]; exact hi
    · exact h r (by omega)
  | some j =>
    refine ⟨by have := h.1; omega, h.2.1, fun r hr hp => ?_⟩
    by_cases q : r = i
    · rw [q] at hp; exact absurd hp hi
    · exact h.2.2 r (by omega) hp
theorem best_first {m n k i : Nat} {t : Tab} (h : Best m n k i t none) (hi : 0 < t.e i k) : Best m n k (i + 1) t (some i) := ⟨by omega, hi, fun r hr hp => by
  by_cases q : r = i
  · rw [q]; exact .inr ⟨rfl, Nat.le_refl _⟩
  · exact absurd hp (h r (by omega))⟩
theorem best_new {m n k i j : Nat} {t : Tab} (h : Best m n k i t (some j)) (hi : 0 < t.e i k) (hb : t.e i (n + m) / t.e i k < t.e j (n + m) / t.e j k ∨ (t.e i (n + m) / t.e i k = t.e j (n + m) / t.e j k ∧ t.B i < t.B j)) : Best m n k (i + 1) t (some i) := ⟨by omega, hi, fun r hr hp => by
  by_cases q : r = i
  · rw [q]; exact .inr ⟨rfl, Nat.le_refl _⟩
  · have h1 := h.2.2 r (by omega) hp
    rcases hb with hb | ⟨hb, hb2⟩
    · rcases h1 with h1 | ⟨h1, h2⟩
      · exact .inl (by grind)
      · exact .inl (by grind)
    · rcases h1 with h1 | ⟨h1, h2⟩
      · exact .inl (by grind)
      · exact .inr ⟨by grind, by omega⟩⟩
theorem best_old {m n k i j : Nat} {t : Tab} (h : Best m n k i t (some j)) (hb : ¬ (t.e i (n + m) / t.e i k < t.e j (n + m) / t.e j k ∨ (t.e i (n + m) / t.e i k = t.e j (n + m) / t.e j k ∧ t.B i < t.B j))) : Best m n k (i + 1) t (some j) := ⟨by have := h.1; omega, h.2.1, fun r hr hp => by
  by_cases q : r = i
  · rw [q]
    by_cases q1 : t.e j (n + m) / t.e j k < t.e i (n + m) / t.e i k
    · exact .inl q1
    · have : ¬ t.e i (n + m) / t.e i k < t.e j (n + m) / t.e j k := fun z => hb (.inl z)
      have e : t.e i (n + m) / t.e i k = t.e j (n + m) / t.e j k := by grind
      refine .inr ⟨e.symm, ?_⟩
      have : ¬ t.B i < t.B j := fun z => hb (.inr ⟨e, z⟩)
      omega
  · exact h.2.2 r (by omega) hp⟩
theorem atI_end {xs : List V} {w : Nat} {x : V} (hl : xs.length = w + 1) (hx : xs[w]? = some x) : atI xs (-1) = some x := by
  unfold atI ixN
  rw [hl, if_neg (by decide), if_pos (by omega)]
  have : (((w + 1 : Nat) : Int) + -1).toNat = w := by omega
  first
    | (rw [show ((-1 : Int) + ((w + 1 : Nat) : Int)).toNat = w by omega]; exact hx)
    | (simp only [Option.bind_some]; have h2 : (-1 + ((w + 1 : Nat) : Int)).toNat = w := by omega
       rw [h2]; exact hx)
    | (simp; exact hx)
theorem ev_lastQ {X : Cx} {e b : Expr} {σ : L2.St} {H : Hp} {pos : Pos} {w : Nat} {f : Nat → Rat} {a : Addr} {xs : List V} (ha : H a = some (.lst xs)) (hx : vsQ X.K H xs (w + 1) f) (he : EV X e σ H (vE (.ref a))) (hb : EV X b σ H (vI (-1))) (hs : PlainIx b := by exact fun _ _ => rfl) : EV X (.Subscript e b pos) σ H (vQ X.K (f w)) := by
  obtain ⟨x, q1, q2⟩ := hx.2 w (by omega)
  exact (ev_ixL (he.imp (P1 := vL X.K xs) fun v H' e ev => ⟨a, ev, SqL.of (e _ _ ha)⟩) hb (atI_end hx.1 q1) hs).imp fun v H' e ev => by rw [ev]; exact Stb.mono e q2
theorem hu_of64 {A : Around} {k : Nat} (hr : Room k A) : A.units + 64 < cLine := by have := hr.un; omega
section
variable {P : Program} {w : World} {K : PySem.W.Frag} {mg : Str → Option Value} {base : Heap} {C : Addr}
def spClimb (K : PySem.W.Frag) (C : Addr) : Sp := fun vs H Q _ => ∃ (a : Ad) (m n : Nat) (sg c r : Nat → Rat) (A : Nat → Nat → Rat) (t : Tab) (cl : Addr), vs = [.ref a.p, .ref cl, .int (n : Int)] ∧ Prg K C m n sg a t H ∧ CostAt K a.l (n + m) c cl H ∧ Sys m n A r ∧ (∀ k, k < n + m → Sz bC (c k)) ∧ Good m n A r t ∧ Feas m n t ∧
  ∀ (b : Bool) (t' : Tab) (H' : Hp), Good m n A r t' → Feas m n t' → ((∀ i, i < m → t.B i < n) → ∀ i, i < m → t'.B i < n) → (b = true → ∀ k, k < n → ¬ mult m c t' k < c k) → (b = false → ∃ s, s < n ∧ mult m c t' s < c s ∧ ∀ i, i < m → ¬ 0 < t'.e i s) → SameB a.l H H' → Prg K C m n sg a t' H' → Q (.bl b) H'
abbrev sClimb : Stmt := inClass (top 29) 4
abbrev nClimb : List Str := ["self", "costs", "columns", "k", "best", "j", "row", "here"]
theorem scClimb : FnScope nClimb ["self", "costs", "columns"] (defScope sClimb) := ⟨rfl, rfl, rfl, by decide +kernel, rfl, by decide +kernel, by decide +kernel⟩
/-- best: None, or the pair of the ratio and the row -/
def BestV (K : PySem.W.Frag) (m n k : Nat) (t : Tab) : Option Nat → V → Hp → Prop
  | none => vE .non
  | some j => fun v H => ∃ x, vT K [x, .int (j : Int)] v H ∧ vQ K (t.e j (n + m) / t.e j k) x H
theorem BestV.mono {m n k : Nat} {t : Tab} {o : Option Nat} {v : V} {H H' : Hp} (e : Same H H') (h : BestV K m n k t o v H) : BestV K m n k t o v H' := by
  cases o with
  | none => exact h
  | some j => obtain ⟨x, h1, h2⟩ := h; exact ⟨x, Stb.mono e h1, Stb.mono e h2⟩
theorem ok_climb {f : Addr} {fd : FuncData} (F : Fun K "climb" "Program.climb" sClimb f fd) (T : TxP K mg C) (hQ : HasQ P w K mg base) (hR : HasM P w K mg base CX0 C "rising" 5 ["self", "costs", "columns"] (spRise K C)) (hT : HasM P w K mg base CX0 C "turn" 3 ["self", "j", "k"] (spTurn K C)) : FnOk P w K mg base CX0 6 f fd ["self", "costs", "columns"] (spClimb K C) := by
  refine F.ok scClimb (fun vs H Q E h => ?_) (fun cdv A0 outer s H vs Q E hr h => ⟨_, wss_self, ?_⟩)
  · obtain ⟨a, m, n, sg, c, r, A, t, cl, rfl, _⟩ := h; rfl
  obtain ⟨a, m, n, sg, c, r, A, t, cl, rfl, hP, hC, hS, hc, hG, hF, kk⟩ := h
  have nd := scClimb.nd
  have hm := hS.m17
  have hn := hS.n40
  refine ss_one (s_while PassesOwn.never (fun μ σ' H' => ∃ (o3 o4 o5 o6 o7 : Option V) (t' : Tab) (cnt : Nat), σ' = [some (.ref a.p), some (.ref cl), some (.int (n : Int)), o3, o4, o5, o6, o7] ∧ SameB a.l H H' ∧ Prg K C m n sg a t' H' ∧ Beh m n n A r c cnt t' ∧ μ = (n + m) ^ m - cnt ∧ ((∀ i, i < m → t.B i < n) → ∀ i, i < m → t'.B i < n)) ((n + m) ^ m) ⟨none, none, none, none, none, t, 0, rfl, SameB.refl _ _, hP, .zero hG hF, rfl, fun h => h⟩ ?_)
  rintro μ σ' H1 ⟨o3, o4, o5, o6, o7, t', cnt, rfl, sb, hP1, hB, rfl, hk⟩
  obtain ⟨hG1, hF1⟩ := hB.good (by omega)
  have hsm := hS.small hG1 hc
  have hC1 := hC.sb sb hP.ls
  refine ⟨true, et_val ev_b, fun _ H2 e2 => ?_, fun z => (nomatch z)⟩
  -- k, best = self.rising(costs, columns), None
  refine ss_cons (s_par (i := 3) (j := 4) (P1 := vP fun v => ∃ o, v = oV o ∧ Rise m n c t' o) (ev_meth hR T.cl hr (ev_v 0 (P := vE (.ref a.p)) rfl) (e2 _ _ hP1.obj) (by rfl) (ea_two (ev_v 1 (P := vE (.ref cl)) rfl) (ev_v 2 (P := vI (n : Int)) rfl)) fun vs H5 e5 ⟨v, w', ev, e6, e7⟩ Q k => ⟨a, m, n, n, sg, c, t', cl, by rw [ev, e6, e7], (hP1.mono e2).mono e5, (hC1.mono e2).mono e5, Nat.le_refl _, hsm, fun o H6 e8 ho => k _ H6 e8 ⟨o, rfl, ho⟩⟩) ev_n (fun v w' H3 e3 ⟨o, ev, ho⟩ ew => ?_) nd)
  cases ew
  subst ev
  have e23 := e2.trans e3
  have hP3 := hP1.mono e23
  have hC3 := hC1.mono e23
  have sb3 : SameB a.l H H3 := sb.trans (sb_of e23)
  cases o with
  | none =>
    refine ss_cons (s_if (k := true) ((et_isN (ev_v 3 (P := vE .non) rfl) ev_n)) (fun _ H4 e4 => ?_) fun z => (nomatch z))
    exact ss_one (s_ret ev_b fun v H5 e5 ev => by
      cases ev
      exact kk true t' H5 hG1 hF1 hk (fun _ => ho) (fun z => nomatch z) (sb3.trans (sb_of (e4.trans e5))) (hP3.mono (e4.trans e5)))
  | some s0 =>
    obtain ⟨hs0, hup, hfst⟩ := ho
    refine ss_cons (s_if (k := false) ((et_isN (ev_v 3 (P := vE (.int (s0 : Int))) rfl) ev_n)) (fun z => (nomatch z)) fun _ H4 e4 => ss_nil ?_)
    have hP4 := hP3.mono e4
    have hC4 := hC3.mono e4
    obtain ⟨rs, hrl, hrs, hrow⟩ := id hP4.rows
    subst hrs
    -- the row that leaves
    refine ss_cons (s_for PassesOwn.never (ei_E T.enu (ev_fld (ev_v 0 (P := vE (.ref a.p)) rfl) hP4.obj T.cl T.nR pf_rows) (SqL.of hrl)) (pg_tup rfl (pgs_cons (pg_name (i := 5) nd rfl (Or.inl rfl)) (pgs_cons (pg_name (i := 6) nd rfl (Or.inl rfl)) pgs_nil)))
      (fun i σ' H' => ∃ (vb : V) (o5 o6 o7 : Option V) (o : Option Nat), σ' = [some (.ref a.p), some (.ref cl), some (.int (n : Int)), some (.int (s0 : Int)), some vb, o5, o6, o7] ∧ Same H4 H' ∧ BestV K rs.length n s0 t' o vb H' ∧ Best rs.length n s0 i t' o)
      (fun H5 e5 => ⟨.non, o5, o6, o7, none, rfl, e5, rfl, fun r hr => absurd hr (by omega)⟩) (fun i σ' H' _ ⟨_, _, _, _, _, _, e, _⟩ => SqL.of (e _ _ hrl)) ?_ ?_)
    · rintro i x σ' H5 H6 hi ⟨vb, p5, p6, p7, o, rfl, e5, hbv, hb⟩ hy
      obtain ⟨T', x1, y, rfl, h1, h2, hs, hT', _⟩ := ypair_same hy
      cases h1
      obtain ⟨v, hv, hra⟩ := hrow i hi
      have h2 : rs[i]? = some y := h2
      obtain rfl : v = y := Option.some.inj (hv.symm.trans h2)
      have e6 : Same H4 H6 := e5.trans hs
      have hra6 := hra.mono e6
      have hP6 := hP4.mono e6
      have hbv6 := hbv.mono hs
      refine ⟨_, gt_two (SqT.of hT'), ?_⟩
      refine ss_one (s_if (k := decide (0 < t'.e i s0)) ((et_gt (ev_num (ev_rowQ hra6 (ev_v 6 (P := vE v) rfl) (ev_v 3 (P := vI (s0 : Int)) rfl) (by omega))) ev_i).is (by rw [decide_eq_decide]; exact num_pos_iff _)) (fun hpos H7 e7 => ?_) (fun hpos H7 e7 => ?_))
      · have hpos : 0 < t'.e i s0 := of_decide_eq_true hpos
        have e47 := e6.trans e7
        have hra7 := hra6.mono e7
        obtain ⟨ai, xi, rfl, nai, hai, hxi⟩ := id hra7
        obtain ⟨xl, q1, q2⟩ := hxi.2 (n + rs.length) (by omega)
        have z0 : t'.e i s0 ≠ 0 := by grind
        have hsz := hsm.e i hi
        -- here
        refine ss_cons (s_set (i := 7) (P := vQ K (t'.e i (n + rs.length) / t'.e i s0)) (ev_over hQ (hr.mono (by decide)) (ev_lastQ hai hxi (ev_v 6 (P := vE (.ref ai)) rfl) (ev_neg ev_i)) (ev_rowQ hra7 (ev_v 6 (P := vE (.ref ai)) rfl) (ev_v 3 (P := vI (s0 : Int)) rfl) (by omega)) ⟨(hsz _ (by omega)).mono (by decide), (hsz _ (by omega)).mono (by decide), z0⟩) fun vh H8 e8 hh => ?_)
        have hP8 := hP6.mono (e7.trans e8)
        have hbv8 := hbv6.mono (e7.trans e8)
        cases o with
        | none =>
          cases hbv8
          refine ss_one (s_if (k := true) (EW.et (ew_or (k := true) (l := true) (et_isN (ev_v 4 (P := vE .non) rfl) ev_n) (ew_more_or (k := true) (l := true) (fun z => nomatch z) (ew_last_or fun z => nomatch z.1)))) (fun _ H9 e9 => ?_) fun z => nomatch z)
          refine ss_one (s_set (i := 4) (P := fun v H => vT K [vh, .int (i : Int)] v H) ((ev_tup (n := 2) (ea_two (ev_v 7 (P := vE vh) rfl) (ev_v 5 (P := vI (i : Int)) rfl)) (fun vs H ⟨v, w, e, _⟩ => by rw [e]; exact Nat.le_refl 2)).imp fun v' H' _ ⟨p, vs, H1', e1, e2', _, v1, w1, e3, p1, p2⟩ => ⟨p, e1, SqT.of (by rw [e2', e3, p1, p2])⟩) fun v9 H10 e10 h9 => ?_)
          exact ⟨v9, _, _, _, some i, rfl, ((e6.trans e7).trans e8).trans (e9.trans e10), ⟨vh, h9, Stb.mono (e9.trans e10) hh⟩, best_first hb hpos⟩
        | some j0 =>
          obtain ⟨xb, hb1, hb2⟩ := hbv8
          have hj0 : j0 < rs.length := by have := hb.1; omega
          have hszj := hsm.e j0 hj0
          have zj : t'.e j0 s0 ≠ 0 := by have := hb.2.1; grind
          have hvb : ∃ pb, vb = .ref pb := let ⟨p, e, _⟩ := hb1; ⟨p, e⟩
          obtain ⟨pb, rfl⟩ := hvb
          have hx0 : EV (cxOf CX0 P w K mg base nClimb "Program.climb" (defScope sClimb) f cdv A0 outer s H E).nox (.Name "best" ⟨0, 0, 0, 0⟩) [some (.ref a.p), some (.ref cl), some (.int (n : Int)), some (.int (s0 : Int)), some (.ref pb), some (.int (i : Int)), some (.ref ai), some vh] H8 (vT K [xb, .int (j0 : Int)]) := ev_v 4 hb1
          refine ss_one (s_if (k := decide (t'.e i (n + rs.length) / t'.e i s0 < t'.e j0 (n + rs.length) / t'.e j0 s0) || (decide (t'.e i (n + rs.length) / t'.e i s0 = t'.e j0 (n + rs.length) / t'.e j0 s0) && decide (t'.B i < t'.B j0)))
            ((EW.et (ew_or (k := false) (et_isN (ev_v 4 (P := vE (.ref pb)) rfl) ev_n)
              (ew_more_or (fun _ => et_val (ev_less hQ (hr.mono (by decide)) (ev_v 7 hh) ((ev_ixT (ev_v 4 hb1) ev_i rfl).imp fun v' H' e ev => by rw [ev]; exact Stb.mono e hb2) ⟨((hsz _ (by omega)).div (hsz _ (by omega)) z0).mono (by decide), ((hszj _ (by omega)).div (hszj _ (by omega)) zj).mono (by decide)⟩))
                (ew_last_or fun _ => EW.et (ew_and (et_eqQ (hu_of64 hr) (ev_v 7 hh) ((ev_ixT (ev_v 4 hb1) ev_i rfl).imp fun v' H' e ev => by rw [ev]; exact Stb.mono e hb2))
                  (ew_last_and fun _ => (et_lt (ev_basis T hP8 (ev_v 0 (P := vE (.ref a.p)) rfl) (ev_v 5 (P := vI (i : Int)) rfl) hi) (ev_basis T hP8 (ev_v 0 (P := vE (.ref a.p)) rfl) (ev_ixT (ev_v 4 hb1) ev_i rfl) hj0)).is (by rw [decide_eq_decide]; omega))))))).is (Bool.false_or _))
            (fun hk2 H9 e9 => ?_) (fun hk2 H9 e9 => ?_))
          · refine ss_one (s_set (i := 4) (P := fun v H => vT K [vh, .int (i : Int)] v H) ((ev_tup (n := 2) (ea_two (ev_v 7 (P := vE vh) rfl) (ev_v 5 (P := vI (i : Int)) rfl)) (fun vs H ⟨v, w, e, _⟩ => by rw [e]; exact Nat.le_refl 2)).imp fun v' H' _ ⟨p, vs, H1', e1, e2', _, v1, w1, e3, p1, p2⟩ => ⟨p, e1, SqT.of (by rw [e2', e3, p1, p2])⟩) fun v9 H10 e10 h9 => ?_)
            refine ⟨v9, _, _, _, some i, rfl, ((e6.trans e7).trans e8).trans (e9.trans e10), ⟨vh, h9, Stb.mono (e9.trans e10) hh⟩, best_new hb hpos ?_⟩
            simpa only [Bool.or_eq_true, Bool.and_eq_true, decide_eq_true_eq] using hk2
          · refine ss_nil ⟨_, _, _, _, some j0, rfl, ((e6.trans e7).trans e8).trans e9, ⟨xb, Stb.mono e9 hb1, Stb.mono e9 hb2⟩, best_old hb fun z => ?_⟩
            have z' : (decide (t'.e i (n + rs.length) / t'.e i s0 < t'.e j0 (n + rs.length) / t'.e j0 s0) || (decide (t'.e i (n + rs.length) / t'.e i s0 = t'.e j0 (n + rs.length) / t'.e j0 s0) && decide (t'.B i < t'.B j0))) = true := by
              simp only [Bool.or_eq_true, Bool.and_eq_true, decide_eq_true_eq]; exact z
            rw [hk2] at z'; cases z'
      · exact ss_nil ⟨vb, _, _, _, o, rfl, e6.trans e7, hbv6.mono e7, best_skip hb (of_decide_eq_false hpos)⟩
    · rintro σ' H5 ⟨vb, p5, p6, p7, o, rfl, e5, hbv, hb⟩
      have hP5 := hP4.mono e5
      have sb5 : SameB a.l H H5 := sb3.trans (sb_of (e4.trans e5))
      cases o with
      | none =>
        cases hbv
        refine ss_cons (s_if (k := true) ((et_isN (ev_v 4 (P := vE .non) rfl) ev_n)) (fun _ H6 e6 => ?_) fun z => (nomatch z))
        exact ss_one (s_ret ev_b fun v H7 e7 ev => by
          cases ev
          exact kk false t' H7 hG1 hF1 hk (fun z => nomatch z) (fun _ => ⟨s0, hs0, hup, hb⟩) (sb5.trans (sb_of (e6.trans e7))) (hP5.mono (e6.trans e7)))
      | some j0 =>
        obtain ⟨xb, hb1, hb2⟩ := hbv
        obtain ⟨pb, rfl, hpb⟩ := id hb1
        refine ss_cons (s_if (k := false) ((et_isN (ev_v 4 (P := vE (.ref pb)) rfl) ev_n)) (fun z => (nomatch z)) fun _ H6 e6 => ss_nil ?_)
        have hP6 := hP5.mono e6
        have pv : Piv rs.length n n c t' j0 s0 := ⟨hs0, hup, hfst, hb.1, hb.2.1, hb.2.2⟩
        have hG2 := good_turn hG1 pv.jN (by omega) pv.ne0
        refine ss_one (ws_of (ps_expr we_self (by rfl)) (we_meth hT T.cl (hr.mono (by decide)) (ev_v 0 (P := vE (.ref a.p)) rfl) hP6.obj (by rfl) (ea_two (ev_ixT (ev_v 4 (Stb.mono e6 hb1)) ev_i rfl) (ev_v 3 (P := vI (s0 : Int)) rfl)) fun vs H7 e7 ⟨v, w', ev, e8, e9⟩ => ?_))
        refine ⟨a, rs.length, n, j0, s0, sg, t', by rw [ev, e8, e9], hP6.mono e7, hb.1, by omega, hm, hn, pv.ne0, hsm.e, fun l hl => hS.size hG2 j0 hb.1 l hl, fun H8 sb8 hP8 => ?_⟩
        have sB := hB.succ pv
        have hlt := sB.short (by omega)
        refine ⟨(n + rs.length) ^ rs.length - (cnt + 1), by omega, _, _, _, _, _, _, cnt + 1, rfl, (sb5.trans (sb_of (e6.trans e7))).trans sb8, hP8, sB, rfl, fun h i hi => ?_⟩
        by_cases q : i = j0
        · rw [q, turn_B_same]; exact hs0
        · rw [turn_B_ne q]; exact hk h i hi
end
end Dw
set_option Elab.async false
set_option linter.all false
set_option maxRecDepth 100000
set_option maxHeartbeats 4000000
/-! leave_help, amounts, prices -/
namespace Dw
open PySem PySem.Spec PyProof.Rows L2 RZ
section
variable {X : Cx} {e : Expr} {σ : L2.St} {H : Hp}
theorem et_truthL {xs : List V} (h : EV X e σ H (vL X.K xs)) (he : ∀ whole, isTrue e X.env whole = (do let v ← whole; standAt e.pos; holding [v] (truthy v)) := by intro _; rfl) : ET X e σ H (!xs.isEmpty) :=
  et_of (pt_truth we_self he) fun H1 e1 Q q => h H1 e1 _ fun v H2 e2 ⟨p, ev, hp⟩ => ⟨_, by rw [ev]; exact .inl ⟨xs, hp, rfl⟩, q H2 e2⟩
end
/-- every equation has a column of its own -/
structure Own (m n : Nat) (A : Nat → Nat → Rat) (own : Nat → Nat) : Prop where
  lt : ∀ l, l < m → own l < n
  ne : ∀ l, l < m → A l (own l) ≠ 0
  nul : ∀ l, l < m → ∀ q, q < m → q ≠ l → A q (own l) = 0
theorem help_row {m n : Nat} {A : Nat → Nat → Rat} {r : Nat → Rat} {t : Tab} {own : Nat → Nat} (G : Good m n A r t) (O : Own m n A own) {j l : Nat} (hj : j < m) (hl : l < m) (e : t.B j = n + l) : t.e j (own l) ≠ 0 := by
  rw [G.inv j hj _ (by have := O.lt l hl; omega), S_one (j := l) hl fun q hq hne => by rw [O.nul l hl q hq hne]; grind]
  have h1 := G.one j hj
  rw [e] at h1
  rw [h1]
  have := O.ne l hl
  grind
theorem feas_turn0 {m n : Nat} {t : Tab} {j s : Nat} (hj : j < m) (hz : t.e j (n + m) = 0) (i : Nat) : (turn t j s).e i (n + m) = t.e i (n + m) := by
  have z : (0 : Rat) / t.e j s = 0 := by rw [Rat.div_def]; grind
  by_cases q : i = j
  · rw [q, turn_e_same, hz, z]
  · rw [turn_e_ne q, hz, z]; grind
section
variable {P : Program} {w : World} {K : PySem.W.Frag} {mg : Str → Option Value} {base : Heap} {C : Addr}
def spLeave (K : PySem.W.Frag) (C : Addr) : Sp := fun vs H Q _ => ∃ (a : Ad) (m n : Nat) (sg r : Nat → Rat) (A : Nat → Nat → Rat) (own : Nat → Nat) (t : Tab), vs = [.ref a.p] ∧ Prg K C m n sg a t H ∧ Sys m n A r ∧ Good m n A r t ∧ Feas m n t ∧ Own m n A own ∧ (∀ i, i < m → n ≤ t.B i → t.e i (n + m) = 0) ∧
  ∀ (t' : Tab) (H' : Hp), Good m n A r t' → Feas m n t' → (∀ i, i < m → t'.B i < n) → SameB a.l H H' → Prg K C m n sg a t' H' → Q .non H'
abbrev sLeave : Stmt := inClass (top 29) 5
abbrev nLeave : List Str := ["self", "j", "some", "k"]
theorem scLeave : FnScope nLeave ["self"] (defScope sLeave) := ⟨rfl, rfl, rfl, by decide +kernel, rfl, by decide +kernel, by decide +kernel⟩
theorem ok_leave {f : Addr} {fd : FuncData} (F : Fun K "leave_help" "Program.leave_help" sLeave f fd) (T : TxP K mg C) (hT : HasM P w K mg base CX0 C "turn" 3 ["self", "j", "k"] (spTurn K C)) : FnOk P w K mg base CX0 4 f fd ["self"] (spLeave K C) := by
  refine F.ok scLeave (fun vs H Q E h => ?_) (fun cdv A0 outer s H vs Q E hr h => ⟨_, wss_self, ?_⟩)
  · obtain ⟨a, m, n, sg, r, A, own, t, rfl, _⟩ := h; rfl
  obtain ⟨a, m, n, sg, r, A, own, t, rfl, hP, hS, hG, hF, hO, hz, kk⟩ := h
  have nd := scLeave.nd
  have hm := hS.m17
  have hn := hS.n40
  obtain ⟨rs, hrl, hrs, hrow⟩ := id hP.rows
  have hrg : RgC ((m : Int) - 1) (-1) (-1) m := by
    have := RgC.neg (i := (m : Int) - 1) (j := -1) (by omega) (by omega) (by omega) (by omega)
    have e : ((m : Int) - 1 - -1).toNat = m := by omega
    rw [e] at this; exact this
  refine ss_one (s_for PassesOwn.never (ei_R3 T.rng (ev_sub ((ev_lenL T.len (ev_rowsL T hP hrl (ev_v 0 (P := vE (.ref a.p)) rfl))).imp (P1 := vI (m : Int)) fun v' H' e ev => by rw [hrs] at ev; exact ev) ev_i) (ev_neg ev_i) (ev_neg ev_i) hrg) (pg_name (i := 1) nd rfl (Or.inr rfl))
    (fun i σ' H' => ∃ (o1 o2 : Option V) (t' : Tab), σ' = [some (.ref a.p), o1, o2, none] ∧ SameB a.l H H' ∧ Prg K C m n sg a t' H' ∧ Good m n A r t' ∧ Feas m n t' ∧ (∀ q, q < m → m - i ≤ q → t'.B q < n) ∧ (∀ q, q < m → n ≤ t'.B q → t'.e q (n + m) = 0))
    (fun H1 e1 => ⟨none, none, t, rfl, sb_of e1, hP.mono e1, hG, hF, fun q h1 h2 => by omega, hz⟩) (fun _ _ _ _ _ => trivial) ?_ ?_)
  · rintro i x σ' H1 H2 hi ⟨o1, o2, t1, rfl, sb, hP1, hG1, hF1, hB1, hz1⟩ ⟨rfl, hx⟩
    obtain ⟨j, ej⟩ : ∃ j : Nat, (m : Int) - 1 + (i : Nat) * (-1) = (j : Int) := ⟨m - 1 - i, by omega⟩
    have hj : j < m := by omega
    have hji : j = m - 1 - i := by omega
    have hx : x = V.int ((m : Int) - 1 + (i : Nat) * (-1)) := hx
    rw [ej] at hx
    subst hx
    refine ⟨_, gt_name, ?_⟩
    have hBn := hG1.bN j hj
    refine ss_one (s_if (k := decide ((n : Int) ≤ (t1.B j : Int))) (et_ge (ev_basis T hP1 (ev_v 0 (P := vE (.ref a.p)) rfl) (ev_v 1 (P := vI (j : Int)) rfl) hj) (ev_fld (ev_v 0 (P := vE (.ref a.p)) rfl) hP1.obj T.cl T.nM pf_many)) (fun hb H3 e3 => ?_) (fun hb H3 e3 => ?_))
    · have hb : n ≤ t1.B j := by have := of_decide_eq_true hb; omega
      obtain ⟨l, hl⟩ : ∃ l, t1.B j = n + l := ⟨t1.B j - n, by omega⟩
      have hne := help_row hG1 hO hj (by omega : l < m) hl
      have hol := hO.lt l (by omega)
      have hP3 := hP1.mono e3
      obtain ⟨rs3, hrl3, hrs3, hrow3⟩ := id hP3.rows
      obtain ⟨vj, hvj, hraj⟩ := hrow3 j hj
      -- some
      refine ss_cons (s_lcT (g := gName 3) (i := 2) nd ((ei_R1 (n := n) T.rng (ev_fld (ev_v 0 (P := vE (.ref a.p)) rfl) hP3.obj T.cl T.nM pf_many) (by omega)).es fun _ _ => trivial) (blkOk_by (N := nLeave) (sc := defScope sLeave) (own := [("k", 3)]) (by decide +kernel)) (fun _ _ _ _ _ => pg_name (i := 3) nd rfl (Or.inl rfl)) (by omega) (fun k => !decide (t1.e j k = 0)) (fun k => .int (k : Int)) (fun k x H4 H5 hk e hy => ?_) fun v4 H4 e4 h4 => ?_)
      · obtain ⟨rfl, rfl⟩ := hy
        refine ⟨_, gt_name, Same.refl _, rfl, fun s5 H5' C5 cl5 fp5 => ?_, fun _ s5 H5' C5 cl5 fp5 => ev_v 3 (P := vE _) rfl⟩
        rw [← num_ne_iff]
        exact et_ne (ev_num (ev_rowQ (hraj.mono e) (ev_row T (hP3.mono e) (e _ _ hrl3) hvj (ev_v 0 (P := vE (.ref a.p)) rfl) (ev_v 1 (P := vI (j : Int)) rfl)) (ev_v 3 (P := vI (k : Int)) rfl) (by omega))) ev_i
      · obtain ⟨sp, rfl, sp0, hsp⟩ := h4
        have hP4 := hP3.mono e4
        -- it is not empty
        have hmem : V.int ((own l : Nat) : Int) ∈ passed n (fun k => !decide (t1.e j k = 0)) (fun k => .int (k : Int)) := by
          unfold passed
          rw [List.mem_map]
          exact ⟨own l, by rw [List.mem_filter, List.mem_range]; exact ⟨hol, by simp [hne]⟩, rfl⟩
        obtain ⟨x0, hx0⟩ : ∃ x0, (passed n (fun k => !decide (t1.e j k = 0)) (fun k => V.int (k : Int)))[0]? = some x0 := by
          cases q : passed n (fun k => !decide (t1.e j k = 0)) (fun k => V.int (k : Int)) with
          | nil => rw [q] at hmem; cases hmem
          | cons y ys => exact ⟨y, rfl⟩
        have hemp : (!(passed n (fun k => !decide (t1.e j k = 0)) (fun k => V.int (k : Int))).isEmpty) = true := by
          cases q : passed n (fun k => !decide (t1.e j k = 0)) (fun k => V.int (k : Int)) with
          | nil => rw [q] at hmem; cases hmem
          | cons y ys => rfl
        obtain ⟨k0, _, hk0, hpk, rfl⟩ := passed_get hx0
        have hk0e : t1.e j k0 ≠ 0 := by simpa using hpk
        refine ss_one (s_if (k := true) ((et_truthL (ev_v 2 (P := vL K _) ⟨sp, rfl, SqL.of hsp⟩)).is hemp) (fun _ H5 e5 => ?_) fun z => nomatch z)
        have hP5 := hP4.mono e5
        have hG2 := good_turn hG1 hj (by omega : k0 < n + m) hk0e
        have hz0 := hz1 j hj hb
        refine ss_one (ws_of (ps_expr we_self (by rfl)) (we_meth hT T.cl (hr.mono (by decide)) (ev_v 0 (P := vE (.ref a.p)) rfl) hP5.obj (by rfl) (ea_two (ev_v 1 (P := vI (j : Int)) rfl) (ev_ixL (ev_v 2 (P := vL K _) ⟨sp, rfl, SqL.of (e5 _ _ hsp)⟩) ev_i (atI_nat (j := 0) hx0))) fun vs H6 e6 ⟨v, w', ev, e8, e9⟩ => ?_))
        refine ⟨a, m, n, j, k0, sg, t1, by rw [ev, e8, e9], hP5.mono e6, hj, by omega, hm, hn, hk0e, hS.size hG1, fun l hl => hS.size hG2 j hj l hl, fun H8 sb8 hP8 => ?_⟩
        refine ⟨_, _, turn t1 j k0, rfl, (sb.trans (sb_of (((e3.trans e4).trans e5).trans e6))).trans sb8, hP8, hG2, fun q hq => ?_, fun q h1 h2 => ?_, fun q h1 h2 => ?_⟩
        · rw [feas_turn0 hj hz0]; exact hF1 q hq
        · by_cases qq : q = j
          · rw [qq, turn_B_same]; exact hk0
          · rw [turn_B_ne qq]; exact hB1 q h1 (by omega)
        · rw [feas_turn0 hj hz0]
          by_cases qq : q = j
          · rw [qq]; exact hz0
          · rw [turn_B_ne qq] at h2; exact hz1 q h1 h2
    · have hb : ¬ n ≤ t1.B j := by have := of_decide_eq_false hb; omega
      exact ss_nil ⟨_, _, t1, rfl, sb.trans (sb_of e3), hP1.mono e3, hG1, hF1, fun q h1 h2 => by
        by_cases qq : q = j
        · rw [qq]; omega
        · exact hB1 q h1 (by omega), hz1⟩
  · rintro σ' H1 ⟨o1, o2, t1, rfl, sb, hP1, hG1, hF1, hB1, hz1⟩
    exact kk t1 H1 hG1 hF1 (fun i hi => hB1 i hi (by omega)) sb hP1
end
end Dw
set_option Elab.async false
set_option linter.all false
set_option maxRecDepth 100000
set_option maxHeartbeats 4000000
/-! amounts, prices -/
namespace Dw
open PySem PySem.Spec PyProof.Rows L2 RZ
theorem same_mut {H H' : Hp} {p : Addr} {o : HO} (e : Same H H') (h : H p = none) : Same H (upd H' p o) := fun a u q => by
  rw [upd_ne (ne_of_none q h)]; exact e a u q
theorem vsQ.frm {K : PySem.W.Frag} {H : Hp} {l : Addr} {xs ys zs : List V} {n : Nat} {f : Nat → Rat} (h : vsQ K H zs n f) (hl : H l = some (.lst xs)) : vsQ K (upd H l (.lst ys)) zs n f := ⟨h.1, fun i hi => let ⟨x, q1, q2⟩ := h.2 i hi; ⟨x, q1, Frm.frm hl q2⟩⟩
theorem vsQ.set {K : PySem.W.Frag} {H : Hp} {xs : List V} {n j : Nat} {f g : Nat → Rat} {v : V} (h : vsQ K H xs n f) (hv : vQ K (g j) v H) (e : ∀ i, i < n → i ≠ j → f i = g i) : vsQ K H (xs.set j v) n g := by
  refine ⟨by rw [List.length_set]; exact h.1, fun i hi => ?_⟩
  by_cases q : i = j
  · subst q
    exact ⟨v, by rw [List.getElem?_set_self (by rw [h.1]; exact hi)], hv⟩
  · obtain ⟨x, q1, q2⟩ := h.2 i hi
    exact ⟨x, by rw [List.getElem?_set_ne (Ne.symm q)]; exact q1, by rw [← e i hi q]; exact q2⟩
theorem vsQ.app {K : PySem.W.Frag} {H : Hp} {xs : List V} {n : Nat} {f g : Nat → Rat} {v : V} (h : vsQ K H xs n f) (hv : vQ K (g n) v H) (e : ∀ i, i < n → f i = g i) : vsQ K H (xs ++ [v]) (n + 1) g := by
  refine ⟨by rw [List.length_append, h.1]; rfl, fun i hi => ?_⟩
  by_cases q : i < n
  · obtain ⟨x, q1, q2⟩ := h.2 i q
    exact ⟨x, by rw [List.getElem?_append_left (by rw [h.1]; exact q)]; exact q1, by rw [← e i q]; exact q2⟩
  · have : i = n := by omega
    subst this
    exact ⟨v, by rw [List.getElem?_append_right (by rw [h.1]; exact Nat.le_refl _), h.1]; simp, hv⟩
theorem vsQ.congr {K : PySem.W.Frag} {H : Hp} {xs : List V} {n : Nat} {f g : Nat → Rat} (h : vsQ K H xs n f) (e : ∀ i, i < n → f i = g i) : vsQ K H xs n g := ⟨h.1, fun i hi => let ⟨x, q1, q2⟩ := h.2 i hi; ⟨x, q1, by rw [← e i hi]; exact q2⟩⟩
section
variable {P : Program} {w : World} {K : PySem.W.Frag} {mg : Str → Option Value} {base : Heap} {C : Addr}
def spAmt (K : PySem.W.Frag) (C : Addr) : Sp := fun vs H Q _ => ∃ (a : Ad) (m n : Nat) (sg : Nat → Rat) (t : Tab), vs = [.ref a.p] ∧ Prg K C m n sg a t H ∧ n ≤ 40 ∧ (∀ i, i < m → ∀ j, j < m → t.B i = t.B j → i = j) ∧ ∀ v H', Same H H' → vLQ K n (val m n t) v H' → Q v H'
abbrev sAmt : Stmt := inClass (top 29) 6
abbrev nAmt : List Str := ["self", "found", "j", "row", "k"]
theorem scAmt : FnScope nAmt ["self"] (defScope sAmt) := ⟨rfl, rfl, rfl, by decide +kernel, rfl, by decide +kernel, by decide +kernel⟩
theorem ok_amt {f : Addr} {fd : FuncData} (F : Fun K "amounts" "Program.amounts" sAmt f fd) (T : TxP K mg C) : FnOk P w K mg base CX0 1 f fd ["self"] (spAmt K C) := by
  refine F.ok scAmt (fun vs H Q E h => ?_) (fun cdv A0 outer s H vs Q E hr h => ⟨_, wss_self, ?_⟩)
  · obtain ⟨a, m, n, sg, t, rfl, _⟩ := h; rfl
  obtain ⟨a, m, n, sg, t, rfl, hP, hn, hinj, kk⟩ := h
  have nd := scAmt.nd
  obtain ⟨rs, hrl, hrs, hrow⟩ := id hP.rows
  subst hrs
  refine ss_cons (s_lc (g := gName 4) (i := 1) nd ((ei_R1 (n := n) T.rng (ev_fld (ev_v 0 (P := vE (.ref a.p)) rfl) hP.obj T.cl T.nM pf_many) (by omega)).es fun _ _ => trivial) (blkOk_by (N := nAmt) (sc := defScope sAmt) (own := [("k", 4)]) (by decide +kernel)) (fun _ _ _ _ _ => pg_name (i := 4) nd rfl (Or.inl rfl)) (by omega) (fun _ => vQ K 0) (fun k x H4 H5 hk e hy => ?_) fun v1 H1 e1 h1 => ?_)
  · obtain ⟨rfl, rfl⟩ := hy
    exact ⟨_, gt_name, Same.refl _, rfl, fun s5 H5' C5 cl5 fp5 => ev_q (q := 0) ev_i ev_i rfl rfl⟩
  obtain ⟨fl, ys, rfl, hfl0, hfl, hyl, hys⟩ := h1
  refine ss_cons (s_for PassesOwn.never (ei_E T.enu (ev_fld (ev_v 0 (P := vE (.ref a.p)) rfl) (e1 _ _ hP.obj) T.cl T.nR pf_rows) (SqL.of (e1 _ _ hrl))) (pg_tup rfl (pgs_cons (pg_name (i := 2) nd rfl (Or.inl rfl)) (pgs_cons (pg_name (i := 3) nd rfl (Or.inl rfl)) pgs_nil)))
    (fun i σ' H' => ∃ (o2 o3 : Option V) (zs : List V), σ' = [some (.ref a.p), some (.ref fl), o2, o3, none] ∧ Same H H' ∧ H' fl = some (.lst zs) ∧ vsQ K H' zs n (fun k => S i fun r => if t.B r = k then t.e r (n + rs.length) else 0))
    (fun H2 e2 => ⟨none, none, ys, rfl, e1.trans e2, e2 _ _ hfl, hyl, fun k hk => let ⟨y, q1, q2⟩ := hys k hk; ⟨y, q1, Stb.mono e2 q2⟩⟩) (fun i σ' H' _ ⟨_, _, _, _, e, _⟩ => SqL.of (e _ _ hrl)) ?_ ?_)
  · rintro i x σ' H2 H3 hi ⟨o2, o3, zs, rfl, e2, hz, hv⟩ hy
    obtain ⟨T', x1, y, rfl, h1, h2, hs, hT', _⟩ := ypair_same hy
    cases h1
    obtain ⟨v, hvi, hra⟩ := hrow i hi
    obtain rfl : v = y := Option.some.inj (hvi.symm.trans h2)
    have e3 : Same H H3 := e2.trans hs
    have hP3 := hP.mono e3
    obtain ⟨ai, xi, rfl, nai, hai, hxi⟩ := id (hra.mono e3)
    have hv3 := hv.mono hs
    -- the sums behind this turn
    have step : ∀ k, ¬ t.B i = k → (S (i + 1) fun r => if t.B r = k then t.e r (n + rs.length) else 0) = S i fun r => if t.B r = k then t.e r (n + rs.length) else 0 := fun k hk => by
      rw [S_succ, if_neg hk]; grind
    refine ⟨_, gt_two (SqT.of hT'), ?_⟩
    refine ss_one (s_if (k := decide ((t.B i : Int) < (n : Int))) (et_lt (ev_basis T hP3 (ev_v 0 (P := vE (.ref a.p)) rfl) (ev_v 2 (P := vI (i : Int)) rfl) hi) (ev_fld (ev_v 0 (P := vE (.ref a.p)) rfl) hP3.obj T.cl T.nM pf_many)) (fun hb H4 e4 => ?_) (fun hb H4 e4 => ?_))
    · have hb : t.B i < n := by have := of_decide_eq_true hb; omega
      have hfl4 := e4 _ _ (hs _ _ hz)
      refine ss_one (s_setL (l := fl) (j := t.B i) (xs := zs) (P := vQ K (t.e i (n + rs.length))) (ev_lastQ (e4 _ _ hai) (hxi.mono e4) (ev_v 3 (P := vE (.ref ai)) rfl) (ev_neg ev_i)) (ev_v 1 (P := vE (.ref fl)) rfl) (ev_basis T (hP3.mono e4) (ev_v 0 (P := vE (.ref a.p)) rfl) (ev_v 2 (P := vI (i : Int)) rfl) hi) hfl4 (by rw [hv3.1]; exact hb) fun v5 H5 e5 ⟨H6, e6, e7, hv5⟩ => ?_)
      refine ⟨_, _, _, rfl, same_mut ((e3.trans e4).trans e5) hfl0, upd_same, vsQ.frm ?_ (e5 _ _ hfl4)⟩
      refine vsQ.set ((hv3.mono e4).mono e5) ?_ (fun k hk hne => (step k (fun z => hne z.symm)).symm)
      have : (S (i + 1) fun r => if t.B r = t.B i then t.e r (n + rs.length) else 0) = t.e i (n + rs.length) := by
        rw [S_succ, if_pos rfl, S_z fun r hr => if_neg fun z => by have := hinj r (by omega) i hi z; omega]; grind
      show vQ K (S (i + 1) fun r => if t.B r = t.B i then t.e r (n + rs.length) else 0) v5 H5
      rw [this]
      exact Stb.mono e6 hv5
    · have hb : ¬ t.B i < n := by have := of_decide_eq_false hb; omega
      exact ss_nil ⟨_, _, zs, rfl, e3.trans e4, e4 _ _ (hs _ _ hz), (hv3.mono e4).congr fun k hk => (step k (by omega)).symm⟩
  · rintro σ' H2 ⟨o2, o3, zs, rfl, e2, hz, hv⟩
    exact ss_one (s_ret (ev_v 1 (P := vLQ K n (val rs.length n t)) ⟨fl, zs, rfl, SqL.of hz, hv⟩) fun v H3 e3 h3 => kk v H3 (e2.trans e3) h3)
def spPri (K : PySem.W.Frag) (C : Addr) : Sp := fun vs H Q _ => ∃ (a : Ad) (m n : Nat) (sg c : Nat → Rat) (t : Tab) (cl : Addr), vs = [.ref a.p, .ref cl] ∧ Prg K C m n sg a t H ∧ CostAt K a.l (n + m) c cl H ∧ Small m n c t ∧ (∀ j, j < m → Sz L (sg j)) ∧ ∀ v H', Same H H' → vLQ K m (fun j => sg j * mult m c t (n + j)) v H' → Q v H'
abbrev sPri : Stmt := inClass (top 29) 7
abbrev nPri : List Str := ["self", "costs", "j", "sign"]
theorem scPri : FnScope nPri ["self", "costs"] (defScope sPri) := ⟨rfl, rfl, rfl, by decide +kernel, rfl, by decide +kernel, by decide +kernel⟩
theorem ok_pri {f : Addr} {fd : FuncData} (F : Fun K "prices" "Program.prices" sPri f fd) (T : TxP K mg C) (hQ : HasQ P w K mg base) (hM : HasM P w K mg base CX0 C "multiplier" 4 ["self", "costs", "k"] (spMult K C)) : FnOk P w K mg base CX0 5 f fd ["self", "costs"] (spPri K C) := by
  refine F.ok scPri (fun vs H Q E h => ?_) (fun cdv A0 outer s H vs Q E hr h => ⟨_, wss_self, ?_⟩)
  · obtain ⟨a, m, n, sg, c, t, cl, rfl, _⟩ := h; rfl
  obtain ⟨a, m, n, sg, c, t, cl, rfl, hP, hC, hS0, hsg, kk⟩ := h
  have nd := scPri.nd
  obtain ⟨ss, hsl, hss⟩ := id hP.signs
  have hm := hS0.m17
  have hlen := hss.1
  refine ss_one (s_ret (P := vNL H ss.length (fun j => vQ K (sg j * mult m c t (n + j)))) (ev_lc (g := g2 K 2 3) nd ((ei_E T.enu (ev_fld (ev_v 0 (P := vE (.ref a.p)) rfl) hP.obj T.cl T.nS pf_signs) (SqL.of hsl)).es fun H1 e => SqL.of (e _ _ hsl)) (blkOk_by (N := nPri) (sc := defScope sPri) (own := [("j", 2), ("sign", 3)]) (by decide +kernel))
    (fun _ _ _ _ _ => pg_tup rfl (pgs_cons (pg_name (i := 2) nd rfl (Or.inl rfl) (Or.inr rfl)) (pgs_cons (pg_name (i := 3) nd rfl (Or.inl rfl) (Or.inr rfl)) pgs_nil))) (by omega) (fun j => vQ K (sg j * mult m c t (n + j))) (fun j x H7 H8 hj e hy => ?_)) fun v H2 e2 h2 => ?_)
  · obtain ⟨T', x1, y, rfl, h1, h2, hs, hT, _⟩ := ypair_same hy
    cases h1
    have hj : j < m := by omega
    obtain ⟨y', q1, q2⟩ := hss.2 j hj
    obtain rfl : y' = y := Option.some.inj (q1.symm.trans h2)
    have e8 := e.trans hs
    refine ⟨_, gt_two (SqT.of hT), hs, rfl, fun s5 H5' C5 cl5 fp5 => ?_⟩
    have hP8 := hP.mono e8
    exact ev_by hQ (hr.mono (by decide)) (ev_v 3 (Stb.mono e8 q2)) (ev_meth (P := vQ K (mult m c t (n + j))) hM T.cl hr (ev_v 0 (P := vE (.ref a.p)) rfl) hP8.obj (by rfl) (ea_two (ev_v 1 (P := vE (.ref cl)) rfl) (ev_add (ev_fld (ev_v 0 (P := vE (.ref a.p)) rfl) hP8.obj T.cl T.nM pf_many) (ev_v 2 (P := vI (j : Int)) rfl))) fun vs H5 e5 ⟨v, w', ev, e6, e7⟩ Q k =>
      ⟨a, m, n, n + j, sg, c, t, cl, by rw [ev, e6, e7]; rfl, hP8.mono e5, (hC.mono e8).mono e5, by omega, hS0, k⟩) ⟨hsg j hj, hS0.mult (by omega)⟩
  · rw [hlen] at h2
    exact kk v H2 e2 h2.vLQ
end
end Dw
set_option Elab.async false
set_option linter.all false
set_option maxRecDepth 100000
set_option maxHeartbeats 4000000
/-! __init__ -/
namespace Dw
open PySem PySem.Spec PyProof.Rows L2 RZ
/-! ### an instance changes -/
section
variable {K : PySem.W.Frag} {H H' : Hp} {p a C dx : Addr} {fs : List (Str × V)} {xs : List V}
theorem sbLi (e : SameB [p] H H') (hp : H p = some (.ins C dx fs)) (h : SqL K H a xs) : SqL K H' a xs := by
  have n : ∀ o, H a = some o → (∀ C dx fs, o ≠ .ins C dx fs) → a ∉ [p] := fun o h1 h2 z => by
    have z : a = p := by simpa using z
    rw [z, hp] at h1; exact h2 _ _ _ (Option.some.inj h1).symm
  rcases h with (h | ⟨o, h⟩) | h
  · exact .inl (.inl (e _ _ (n _ h (by intro _ _ _ z; cases z)) h))
  · exact .inl (.inr ⟨o, e _ _ (n _ h (by intro _ _ _ z; cases z)) h⟩)
  · exact .inr h
theorem sbTi (e : SameB [p] H H') (hp : H p = some (.ins C dx fs)) (h : SqT K H a xs) : SqT K H' a xs := by
  have n : ∀ o, H a = some o → (∀ C dx fs, o ≠ .ins C dx fs) → a ∉ [p] := fun o h1 h2 z => by
    have z : a = p := by simpa using z
    rw [z, hp] at h1; exact h2 _ _ _ (Option.some.inj h1).symm
  rcases h with (h | ⟨o, h⟩) | h
  · exact .inl (.inl (e _ _ (n _ h (by intro _ _ _ z; cases z)) h))
  · exact .inl (.inr ⟨o, e _ _ (n _ h (by intro _ _ _ z; cases z)) h⟩)
  · exact .inr h
theorem sbQi {q : Rat} {v : V} (e : SameB [p] H H') (hp : H p = some (.ins C dx fs)) (h : vQ K q v H) : vQ K q v H' := let ⟨b, h1, h2⟩ := h; ⟨b, h1, sbTi e hp h2⟩
theorem sbVi {n : Nat} {f : Nat → Rat} (e : SameB [p] H H') (hp : H p = some (.ins C dx fs)) (h : vsQ K H xs n f) : vsQ K H' xs n f := ⟨h.1, fun i hi => let ⟨x, q1, q2⟩ := h.2 i hi; ⟨x, q1, sbQi e hp q2⟩⟩
theorem sbLQi {n : Nat} {f : Nat → Rat} {v : V} (e : SameB [p] H H') (hp : H p = some (.ins C dx fs)) (h : vLQ K n f v H) : vLQ K n f v H' := let ⟨b, xs, h1, h2, h3⟩ := h; ⟨b, xs, h1, sbLi e hp h2, sbVi e hp h3⟩
end
section
variable {X : Cx} {o a b value : Expr} {σ : L2.St} {H : Hp} {pos pos' : Pos} {P : V → Hp → Prop} {D : Ends}
theorem s_fld {f : Str} {p C dx : Addr} {fs : List (Str × V)} (hv : EV X value σ H P) (ho : EV X o σ H (vE (.ref p))) (hp : H p = some (.ins C dx fs)) (hc : Cls X.K C) (hn : NoAttr X.K C f) (hl : fs.length < 1000) (h : ∀ v H', Same H H' → (∃ H1, Same H1 H' ∧ Same H H1 ∧ P v H1) → D.nx σ (upd H' p (.ins C dx (putF f v fs))))
    (hs : swapsWith value (some (.Attribute o f pos')) pos.line X.env = pure false := by rfl) : WS X (.Assign [.Attribute o f pos'] value pos) D σ H := by
  refine ws_of (ps_fld we_self we_self hs) (hv.go fun y H1 e1 py => ho H1 e1 _ fun x H2 e2 ex => ?_)
  exact ⟨p, C, dx, fs, ex, e2 _ _ (e1 _ _ hp), hc, hn, hl, h y H2 (e1.trans e2) ⟨H1, e2, e1, py⟩⟩
/-- a list of ratios that stands as such -/
def vMQ (K : PySem.W.Frag) (n : Nat) (f : Nat → Rat) : V → Hp → Prop := fun v H => ∃ p xs, v = .ref p ∧ H p = some (.lst xs) ∧ vsQ K H xs n f
/-- .. a new one -/
def vFQ (K : PySem.W.Frag) (H : Hp) (n : Nat) (f : Nat → Rat) : V → Hp → Prop := fun v H' => ∃ p xs, v = .ref p ∧ H p = none ∧ H' p = some (.lst xs) ∧ vsQ K H' xs n f
instance {K : PySem.W.Frag} {n : Nat} {f : Nat → Rat} : Stb (vMQ K n f) := ⟨fun e ⟨p, xs, h1, h2, h3⟩ => ⟨p, xs, h1, e _ _ h2, h3.mono e⟩⟩
instance {K : PySem.W.Frag} {H : Hp} {n : Nat} {f : Nat → Rat} : Stb (vFQ K H n f) := ⟨fun e ⟨p, xs, h1, h0, h2, h3⟩ => ⟨p, xs, h1, h0, e _ _ h2, h3.mono e⟩⟩
theorem vFQ.m {K : PySem.W.Frag} {H H' : Hp} {n : Nat} {f : Nat → Rat} {v : V} (h : vFQ K H n f v H') : vMQ K n f v H' := let ⟨p, xs, h1, _, h2, h3⟩ := h; ⟨p, xs, h1, h2, h3⟩
theorem vNL.m {K : PySem.W.Frag} {H H' : Hp} {n : Nat} {f : Nat → Rat} {v : V} (h : vNL H n (fun j => vQ K (f j)) v H') : vMQ K n f v H' := let ⟨p, ys, h1, _, h3, h4, h5⟩ := h; ⟨p, ys, h1, h3, h4, h5⟩
theorem vNL.f {K : PySem.W.Frag} {H H' : Hp} {n : Nat} {f : Nat → Rat} {v : V} (h : vNL H n (fun j => vQ K (f j)) v H') : vFQ K H n f v H' := let ⟨p, ys, h1, h0, h3, h4, h5⟩ := h; ⟨p, ys, h1, h0, h3, h4, h5⟩
theorem vFQ.congr {K : PySem.W.Frag} {H H' : Hp} {n : Nat} {f g : Nat → Rat} {v : V} (h : vFQ K H n f v H') (e : ∀ i, i < n → f i = g i) : vFQ K H n g v H' := let ⟨p, xs, h1, h0, h2, h3⟩ := h; ⟨p, xs, h1, h0, h2, h3.congr e⟩
theorem vsQ.cat {K : PySem.W.Frag} {H : Hp} {xs ys : List V} {n m : Nat} {f g : Nat → Rat} (h : vsQ K H xs n f) (h2 : vsQ K H ys m g) : vsQ K H (xs ++ ys) (n + m) (fun i => if i < n then f i else g (i - n)) := by
  refine ⟨by rw [List.length_append, h.1, h2.1], fun i hi => ?_⟩
  by_cases q : i < n
  · obtain ⟨x, q1, q2⟩ := h.2 i q
    exact ⟨x, by rw [List.getElem?_append_left (by rw [h.1]; exact q)]; exact q1, by simp only [q, if_true]; exact q2⟩
  · obtain ⟨x, q1, q2⟩ := h2.2 (i - n) (by omega)
    exact ⟨x, by rw [List.getElem?_append_right (by rw [h.1]; omega), h.1]; exact q1, by simp only [q, if_false]; exact q2⟩
theorem ev_cat {n m : Nat} {f g : Nat → Rat} (ha : EV X a σ H (vMQ X.K n f)) (hb : EV X b σ H (vMQ X.K m g)) (hz : n + m ≤ 1000) : EV X (.BinOp a .Add b pos) σ H (vFQ X.K H (n + m) (fun i => if i < n then f i else g (i - n))) := by
  refine ev_of (pe_op op_cat we_self we_self) fun H1 e1 Q q => ha H1 e1 _ fun x H2 e2 ⟨l, xs, ex, hl, hx⟩ => hb H2 (e1.trans e2) _ fun y H3 e3 ⟨r, ys, ey, hr, hy⟩ => ?_
  refine ⟨l, r, xs, ys, ex, ey, e3 _ _ hl, hr, Nat.le_trans (by have := hx.1; have := hy.1; omega : xs.length + ys.length ≤ 1000) (by decide), fun p hp => ?_⟩
  exact q _ _ ((e2.trans e3).trans (same_new hp)) ⟨p, _, rfl, ((e1.trans e2).trans e3).free hp, upd_same, ((hx.mono e3).mono (same_new hp)).cat (hy.mono (same_new hp))⟩
theorem ev_oneQ {q : Rat} (h : EV X a σ H (vQ X.K q)) (hs : starEach [a] X.env = (false, eval a X.env) :: starEach [] X.env := by rfl) : EV X (.List [a] pos) σ H (vMQ X.K 1 fun _ => q) := by
  refine (ev_lst (n := 1) (ea_one h hs) fun vs H ⟨v, e, _⟩ => by rw [e]; exact Nat.le_refl 1).imp ?_
  intro v H' _ ⟨p, vs, H1, e1, _, e2, e3, v', e4, hv⟩
  refine ⟨p, vs, e1, e2, by rw [e4]; rfl, fun i hi => ?_⟩
  have : i = 0 := by omega
  subst this
  exact ⟨v', by rw [e4]; rfl, Stb.mono e3 hv⟩
end
/-! ### the first table -/
theorem sz_sgn (g : Nat → Rat) (j : Nat) : Sz 2 (sgn g j) := by
  unfold sgn
  split
  · exact ⟨by decide, by decide⟩
  · exact ⟨by decide, by decide⟩
section
variable {P : Program} {w : World} {K : PySem.W.Frag} {mg : Str → Option Value} {base : Heap} {C : Addr}
/-- the rows and goals handed in -/
structure Rows (K : PySem.W.Frag) (m n : Nat) (a : Nat → Nat → Rat) (g : Nat → Rat) (R G : Addr) (H : Hp) : Prop where
  rows : ∃ rs, SqL K H R rs ∧ rs.length = m ∧ ∀ j, j < m → ∃ v, rs[j]? = some v ∧ vLQ K n (a j) v H
  goals : ∃ gs, SqL K H G gs ∧ vsQ K H gs m g
theorem Rows.sbi {m n : Nat} {a : Nat → Nat → Rat} {g : Nat → Rat} {R G p C dx : Addr} {fs : List (Str × V)} {H H' : Hp} (h : Rows K m n a g R G H) (e : SameB [p] H H') (hp : H p = some (.ins C dx fs)) : Rows K m n a g R G H' where
  rows := let ⟨rs, h1, h2, h3⟩ := h.rows; ⟨rs, sbLi e hp h1, h2, fun j hj => let ⟨v, q1, q2⟩ := h3 j hj; ⟨v, q1, sbLQi e hp q2⟩⟩
  goals := let ⟨gs, h1, h2⟩ := h.goals; ⟨gs, sbLi e hp h1, sbVi e hp h2⟩
def spInit (K : PySem.W.Frag) (C : Addr) : Sp := fun vs H Q _ => ∃ (p dx R G : Addr) (m n : Nat) (a : Nat → Nat → Rat) (g : Nat → Rat), vs = [.ref p, .ref R, .ref G] ∧ H p = some (.ins C dx []) ∧ Rows K m n a g R G H ∧ 1 ≤ m ∧ m ≤ 17 ∧ n ≤ 40 ∧ (∀ j, j < m → ∀ k, k < n → Sz L (a j k)) ∧ (∀ j, j < m → Sz L (g j)) ∧
  ∀ (ad : Ad) (H' : Hp), ad.p = p → H ad.rl = none → H ad.bl = none → SameB [p] H H' → Prg K C m n (sgn g) ad (first n (tab0 m n a g)) H' → Q .non H'
abbrev sInit : Stmt := inClass (top 29) 0
abbrev nInit : List Str := ["self", "rows", "goals", "j", "row", "helping", "goal", "k", "one"]
theorem scInit : FnScope nInit ["self", "rows", "goals"] (defScope sInit) := ⟨rfl, rfl, rfl, by decide +kernel, rfl, by decide +kernel, by decide +kernel⟩
theorem ok_init {f : Addr} {fd : FuncData} (F : Fun K "__init__" "Program.__init__" sInit f fd) (T : TxP K mg C) (hQ : HasQ P w K mg base) : FnOk P w K mg base CX0 3 f fd ["self", "rows", "goals"] (spInit K C) := by
  refine F.ok scInit (fun vs H Q E h => ?_) (fun cdv A0 outer s H vs Q E hr h => ⟨_, wss_self, ?_⟩)
  · obtain ⟨p, dx, R, G, m, n, a, g, rfl, _⟩ := h; rfl
  obtain ⟨p, dx, R, G, m, n, a, g, rfl, hp, hRG, hm1, hm, hn, hza, hzg, kk⟩ := h
  have nd := scInit.nd
  obtain ⟨rs, hR, hrs, hrow⟩ := hRG.rows
  obtain ⟨gs, hG, hgs⟩ := hRG.goals
  subst hrs
  obtain ⟨v0, hv0, p0, xs0, rfl, hp0, hx0⟩ := hrow 0 (by omega)
  -- many
  refine ss_cons (s_fld (f := "many") (P := vI (n : Int)) ((ev_lenL T.len ((ev_ixL (ev_v 1 (P := vL K rs) ⟨R, rfl, hR⟩) ev_i (atI_nat (j := 0) hv0)).imp (P1 := vL K xs0) fun v H' e ev => ⟨p0, ev, e.seq hp0⟩)).imp (P1 := vI (n : Int)) fun v H' e ev => by rw [hx0.1] at ev; exact ev) (ev_v 0 (P := vE (.ref p)) rfl) hp T.cl T.nM (by decide) fun v1 H1 e1 ⟨_, _, _, ev1⟩ => ?_)
  cases ev1
  have s1 : SameB [p] H (upd H1 p (.ins C dx (putF "many" (.int (n : Int)) []))) := (sb_of e1).trans (sameB_upd (by simp))
  generalize hH1 : upd H1 p (.ins C dx (putF "many" (.int (n : Int)) [])) = Ha at s1
  have hpa : Ha p = some (.ins C dx (putF "many" (.int (n : Int)) [])) := by rw [← hH1]; exact upd_same
  -- signs
  refine ss_cons (s_fld (f := "signs") (P := vNL Ha gs.length fun j => vQ K (sgn g j)) (ev_lc (g := gName 6) nd ((ei_L (ev_v 2 (P := vE (.ref G)) rfl) (sbLi s1 hp hG)).es fun H1 e => e.seq (sbLi s1 hp hG)) (blkOk_by (N := nInit) (sc := defScope sInit) (own := [("goal", 6)]) (by decide +kernel)) (fun _ _ _ _ _ => pg_name (i := 6) nd rfl (Or.inl rfl)) (by have := hgs.1; omega) (fun j => vQ K (sgn g j)) (fun j x H2 H3 hj e hy => ?_)) (ev_v 0 (P := vE (.ref p)) rfl) hpa T.cl T.nS (by show 1 < 1000; decide) fun v2 H2 e2 ⟨H2', e2a, e2b, hv2⟩ => ?_)
  · obtain ⟨rfl, hx⟩ := hy
    obtain ⟨x', q1, q2⟩ := hgs.2 j (by have := hgs.1; omega)
    obtain rfl : x' = x := Option.some.inj (q1.symm.trans hx)
    have q3 := Stb.mono e (sbQi s1 hp q2)
    refine ⟨_, gt_name, Same.refl _, rfl, fun s5 H5' C5 cl5 fp5 => ?_⟩
    refine ev_if (k := decide (g j < 0)) ((et_lt (ev_num (ev_v 6 q3)) ev_i).is (by
      rw [decide_eq_decide]
      have := num_pos_iff (- g j)
      rw [Rat.neg_num] at this
      constructor
      · intro h; have := this.mp (by omega); grind
      · intro h; have := this.mpr (by grind); omega)) (fun hk => ?_) (fun hk => ?_)
    · have : sgn g j = -1 := if_pos (of_decide_eq_true hk)
      rw [this]; exact ev_q (q := -1) (ev_neg ev_i) ev_i rfl rfl
    · have : sgn g j = 1 := if_neg (of_decide_eq_false hk)
      rw [this]; exact ev_q (q := 1) ev_i ev_i rfl rfl
  obtain ⟨sl, ss, rfl, hsl0, hsl, hssl, hss⟩ := hv2
  have npsl : sl ≠ p := fun z => by rw [z, hpa] at hsl0; cases hsl0
  have s2 : SameB [p] H (upd H2 p (.ins C dx (putF "signs" (.ref sl) (putF "many" (.int (n : Int)) [])))) := (s1.trans (sb_of e2)).trans (sameB_upd (by simp))
  have hsl2 : upd H2 p (.ins C dx (putF "signs" (.ref sl) (putF "many" (.int (n : Int)) []))) sl = some (.lst ss) := by rw [upd_ne npsl]; exact e2a _ _ hsl
  have hss2 : vsQ K (upd H2 p (.ins C dx (putF "signs" (.ref sl) (putF "many" (.int (n : Int)) [])))) ss rs.length (sgn g) := sbVi (sameB_upd (by simp)) (e2 _ _ hpa) ⟨by rw [hssl, hgs.1], fun i hi => let ⟨y, q1, q2⟩ := hss i (by rw [hgs.1]; exact hi); ⟨y, q1, Stb.mono e2a q2⟩⟩
  generalize hH2 : upd H2 p (.ins C dx (putF "signs" (.ref sl) (putF "many" (.int (n : Int)) []))) = Hb at s2 hsl2 hss2
  have hpb : Hb p = some (.ins C dx (putF "signs" (.ref sl) (putF "many" (.int (n : Int)) []))) := by rw [← hH2]; exact upd_same
  -- rows, basis
  refine ss_cons (s_fld (f := "rows") (P := fun v H' => ∃ p, v = .ref p ∧ Hb p = none ∧ H' p = some (.lst [])) ((ev_lst (n := 0) ea_nil fun vs H e => by rw [e]; exact Nat.le_refl 0).imp fun v H' _ ⟨q, vs, H1, e1, h0, e2, e3, e4⟩ => ⟨q, e1, h0, by rw [e2, e4]⟩) (ev_v 0 (P := vE (.ref p)) rfl) hpb T.cl T.nR (by show 2 < 1000; decide) fun v3 H3 e3 ⟨H3', e3a, e3b, rl, ev3, hrl0, hrl⟩ => ?_)
  subst ev3
  have hrl3 := e3a _ _ hrl
  have nprl : rl ≠ p := fun z => by rw [z, hpb] at hrl0; cases hrl0
  have nslrl : sl ≠ rl := fun z => by rw [← z, hsl2] at hrl0; cases hrl0
  have s3 : SameB [p] H (upd H3 p (.ins C dx (putF "rows" (.ref rl) (putF "signs" (.ref sl) (putF "many" (.int (n : Int)) []))))) := (s2.trans (sb_of e3)).trans (sameB_upd (by simp))
  have hrlc : upd H3 p (.ins C dx (putF "rows" (.ref rl) (putF "signs" (.ref sl) (putF "many" (.int (n : Int)) [])))) rl = some (.lst []) := by rw [upd_ne nprl]; exact hrl3
  have hslc : upd H3 p (.ins C dx (putF "rows" (.ref rl) (putF "signs" (.ref sl) (putF "many" (.int (n : Int)) [])))) sl = some (.lst ss) := by rw [upd_ne npsl]; exact e3 _ _ hsl2
  have hssc := sbVi (H' := upd H3 p (.ins C dx (putF "rows" (.ref rl) (putF "signs" (.ref sl) (putF "many" (.int (n : Int)) []))))) (sameB_upd (by simp)) (e3 _ _ hpb) (hss2.mono e3)
  have hrl00 : H rl = none := by
    cases q : H rl with
    | none => rfl
    | some o => have := s2 rl o (by simpa using nprl) q; rw [hrl0] at this; cases this
  generalize hH3 : upd H3 p (.ins C dx (putF "rows" (.ref rl) (putF "signs" (.ref sl) (putF "many" (.int (n : Int)) [])))) = Hc at s3 hrlc hslc hssc
  have hpc : Hc p = some (.ins C dx (putF "rows" (.ref rl) (putF "signs" (.ref sl) (putF "many" (.int (n : Int)) [])))) := by rw [← hH3]; exact upd_same
  refine ss_cons (s_fld (f := "basis") (P := fun v H' => ∃ p, v = .ref p ∧ Hc p = none ∧ H' p = some (.lst [])) ((ev_lst (n := 0) ea_nil fun vs H e => by rw [e]; exact Nat.le_refl 0).imp fun v H' _ ⟨q, vs, H1, e1, h0, e2, e3, e4⟩ => ⟨q, e1, h0, by rw [e2, e4]⟩) (ev_v 0 (P := vE (.ref p)) rfl) hpc T.cl T.nB (by show 3 < 1000; decide) fun v4 H4 e4 ⟨H4', e4a, e4b, bl, ev4, hbl0, hbl⟩ => ?_)
  subst ev4
  have hbl4 := e4a _ _ hbl
  have npbl : bl ≠ p := fun z => by rw [z, hpc] at hbl0; cases hbl0
  have nslbl : sl ≠ bl := fun z => by rw [← z, hslc] at hbl0; cases hbl0
  have nrlbl : rl ≠ bl := fun z => by rw [← z, hrlc] at hbl0; cases hbl0
  have s4 : SameB [p] H (upd H4 p (.ins C dx (pf n sl rl bl))) := (s3.trans (sb_of e4)).trans (sameB_upd (by simp))
  have hbld : upd H4 p (.ins C dx (pf n sl rl bl)) bl = some (.lst []) := by rw [upd_ne npbl]; exact hbl4
  have hrld : upd H4 p (.ins C dx (pf n sl rl bl)) rl = some (.lst []) := by rw [upd_ne nprl]; exact e4 _ _ hrlc
  have hsld : upd H4 p (.ins C dx (pf n sl rl bl)) sl = some (.lst ss) := by rw [upd_ne npsl]; exact e4 _ _ hslc
  have hssd := sbVi (H' := upd H4 p (.ins C dx (pf n sl rl bl))) (sameB_upd (by simp)) (e4 _ _ hpc) (hssc.mono e4)
  have hbl00 : H bl = none := by
    cases q : H bl with
    | none => rfl
    | some o => have := s3 bl o (by simpa using npbl) q; rw [hbl0] at this; cases this
  show WSs _ _ _ _ (upd H4 p (.ins C dx (pf n sl rl bl)))
  generalize hH4 : upd H4 p (.ins C dx (pf n sl rl bl)) = Hd at s4 hbld hrld hsld hssd
  have hpd : Hd p = some (.ins C dx (pf n sl rl bl)) := by rw [← hH4]; exact upd_same
  -- the rows
  let ad : Ad := ⟨p, dx, sl, rl, bl⟩
  refine ss_one (s_for PassesOwn.never (ei_E T.enu (ev_v 1 (P := vE (.ref R)) rfl) (sbLi s4 hp hR)) (pg_tup rfl (pgs_cons (pg_name (i := 3) nd rfl (Or.inr rfl)) (pgs_cons (pg_name (i := 4) nd rfl (Or.inl rfl)) pgs_nil)))
    (fun i σ' H' => ∃ (o3 o4 o5 : Option V) (ws : List V), σ' = [some (.ref p), some (.ref R), some (.ref G), o3, o4, o5, none, none, none] ∧ SameB [p] H H' ∧ H' p = some (.ins C dx (pf n sl rl bl)) ∧ H' sl = some (.lst ss) ∧ vsQ K H' ss rs.length (sgn g) ∧ H' rl = some (.lst ws) ∧ ws.length = i ∧ (∀ r, r < i → ∃ v, ws[r]? = some v ∧ RowAt K ad.l (n + rs.length + 1) (tab0 rs.length n a g r) v H') ∧ H' bl = some (.lst ((List.range i).map fun r => V.int ((n + r : Nat) : Int))))
    (fun H5 e5 => ⟨none, none, none, [], rfl, s4.trans (sb_of e5), e5 _ _ hpd, e5 _ _ hsld, hssd.mono e5, e5 _ _ hrld, rfl, fun r hr => absurd hr (by omega), e5 _ _ hbld⟩) (fun i σ' H' _ ⟨_, _, _, _, _, sb, _⟩ => sbLi sb hp hR) ?_ ?_)
  · rintro j x σ' H5 H6 hj ⟨o3, o4, o5, ws, rfl, sb, hp5, hsl5, hss5, hrl5, hwl, hws, hbl5⟩ hy
    obtain ⟨T', x1, y, rfl, h1, h2, hs, hT', _⟩ := ypair_same hy
    cases h1
    obtain ⟨v, hv, hra⟩ := hrow j hj
    obtain rfl : v = y := Option.some.inj (hv.symm.trans h2)
    have sb6 : SameB [p] H H6 := sb.trans (sb_of hs)
    have hra6 := sbLQi sb6 hp hra
    have hp6 := hs _ _ hp5
    have hG6 := sbLi sb6 hp hG
    have hgs6 := sbVi sb6 hp hgs
    have hR6 := sbLi sb6 hp hR
    have hsl6 := hs _ _ hsl5
    have hss6 := hss5.mono hs
    refine ⟨_, gt_two (SqT.of hT'), ?_⟩
    -- helping
    refine ss_cons (s_lc (g := gName 7) (i := 5) nd ((ei_R1 (n := rs.length) T.rng (ev_lenL T.len (ev_v 1 (P := vL K rs) ⟨R, rfl, hR6⟩)) (by omega)).es fun _ _ => trivial) (blkOk_by (N := nInit) (sc := defScope sInit) (own := [("k", 7)]) (by decide +kernel)) (fun _ _ _ _ _ => pg_name (i := 7) nd rfl (Or.inl rfl)) (by omega) (fun k => vQ K (if k = j then 1 else 0)) (fun k x H4 H5 hk e hy => ?_) fun vh H7 e7 h7 => ?_)
    · obtain ⟨rfl, rfl⟩ := hy
      refine ⟨_, gt_name, Same.refl _, rfl, fun s5 H5' C5 cl5 fp5 => ?_⟩
      refine ev_if (k := decide (k = j)) ((et_eq (ev_v 7 (P := vI (k : Int)) rfl) (ev_v 3 (P := vI (j : Int)) rfl)).is (by rw [decide_eq_decide]; exact ⟨fun h => by injection h with h; omega, fun h => by rw [h]⟩)) (fun hk => ?_) (fun hk => ?_)
      · have : k = j := of_decide_eq_true hk
        rw [if_pos this]; exact ev_q (q := 1) ev_i ev_i rfl rfl
      · have : ¬ k = j := of_decide_eq_false hk
        rw [if_neg this]; exact ev_q (q := 0) ev_i ev_i rfl rfl
    -- self.rows.append(..)
    have sb7 : SameB [p] H H7 := sb6.trans (sb_of e7)
    have hra7 := (Stb.mono (P := vLQ K n (a j)) e7 hra6)
    obtain ⟨pr, xr, rfl, hpr, hxr⟩ := id hra7
    have hp7 := e7 _ _ hp6
    have hsl7 := e7 _ _ hsl6
    have hss7 := hss6.mono e7
    have hsgn : ∀ {X : Cx} {o b : Expr} {σ : L2.St} {H' : Hp} {p1 p2 : Pos}, X.K = K → Same H7 H' → EV X o σ H' (vE (.ref p)) → EV X b σ H' (vI (j : Int)) → attributeBase o "signs" X.env (eval o X.env) = eval o X.env → PlainIx b → EV X (.Subscript (.Attribute o "signs" p1) b p2) σ H' (vQ X.K (sgn g j)) := fun {X o b σ H' p1 p2} hK e ho hb hba hs => by
      subst hK
      exact ev_ixQ ((ev_fld ho (e _ _ hp7) T.cl T.nS pf_signs hba).imp (P1 := vLQ X.K rs.length (sgn g)) fun v' H'' e' ev => ⟨sl, ss, ev, SqL.of (e' _ _ (e _ _ hsl7)), (hss7.mono e).mono e'⟩) hb hj hs
    refine ss_cons (s_app (l := rl) (xs := ws) (P := vFQ K H7 (n + rs.length + 1) (tab0 rs.length n a g j)) (ev_fld (ev_v 0 (P := vE (.ref p)) rfl) hp7 T.cl T.nR pf_rows) (e7 _ _ (hs _ _ hrl5)) (by omega)
      ((ev_cat (n := n + rs.length) (m := 1) (f := fun i => if i < n then a j i * sgn g j else (if i - n = j then 1 else 0)) (g := fun _ => g j * sgn g j) ((ev_cat (n := n) (m := rs.length) (f := fun k => a j k * sgn g j) (g := fun k => if k = j then 1 else 0)
        ((ev_lc (g := gName 8) nd ((ei_L (ev_v 4 (P := vE (.ref pr)) rfl) hpr).es fun H8 e => e.seq hpr) (blkOk_by (N := nInit) (sc := defScope sInit) (own := [("one", 8)]) (by decide +kernel)) (fun _ _ _ _ _ => pg_name (i := 8) nd rfl (Or.inl rfl)) (by have := hxr.1; omega) (fun k => vQ K (a j k * sgn g j)) (fun k x H8 H9 hk e hy => ?_)).imp fun v H' _ h => by have := h.m; rw [hxr.1] at this; exact this)
        (ev_v 5 h7.m) (by omega)).imp fun v H' _ h => h.m) (ev_oneQ (ev_by hQ (hr.mono (by decide)) (ev_ixQ (ev_v 2 (P := vLQ K rs.length g) ⟨G, gs, rfl, e7.seq hG6, hgs6.mono e7⟩) (ev_v 3 (P := vI (j : Int)) rfl) hj) (hsgn rfl (Same.refl _) (ev_v 0 (P := vE (.ref p)) rfl) (ev_v 3 (P := vI (j : Int)) rfl) rfl (fun _ _ => rfl)) ⟨hzg j hj, (sz_sgn g j).mono (by decide)⟩)) (by omega)).imp fun v H' _ h => h.congr fun i hi => ?_) fun v8 H8 e8 h8 => ?_)
    · obtain ⟨rfl, hx⟩ := hy
      obtain ⟨x', q1, q2⟩ := hxr.2 k (by have := hxr.1; omega)
      obtain rfl : x' = x := Option.some.inj (q1.symm.trans hx)
      refine ⟨_, gt_name, Same.refl _, rfl, fun s5 H5' C5 cl5 fp5 => ?_⟩
      exact ev_by hQ (hr.mono (by decide)) (ev_v 8 (Stb.mono e q2)) (hsgn rfl e (ev_v 0 (P := vE (.ref p)) rfl) (ev_v 3 (P := vI (j : Int)) rfl) rfl (fun _ _ => rfl)) ⟨hza j hj k (by have := hxr.1; omega), (sz_sgn g j).mono (by decide)⟩
    · show (if i < n + rs.length then (if i < n then a j i * sgn g j else (if i - n = j then 1 else 0)) else g j * sgn g j) = (if i < n then a j i * sgn g j else if i < n + rs.length then (if i - n = j then 1 else 0) else g j * sgn g j)
      by_cases q1 : i < n
      · rw [if_pos (by omega), if_pos q1, if_pos q1]
      · rw [if_neg q1, if_neg q1]
    · -- self.basis.append(self.many + j)
      have e58 : Same H5 H8 := (hs.trans e7).trans e8
      have hp8 := e58 _ _ hp5
      have hrl8 := e58 _ _ hrl5
      have hbl8 := e58 _ _ hbl5
      have ls8 : ∀ b ∈ ad.l, ∃ ys, H8 b = some (.lst ys) := fun b hb => by
        rcases List.mem_cons.mp hb with z | z
        · exact ⟨_, by rw [z]; exact hrl8⟩
        · have z : b = bl := by simpa using z
          exact ⟨_, by rw [z]; exact hbl8⟩
      have ls7 : ∀ b ∈ ad.l, ∃ ys, H7 b = some (.lst ys) := fun b hb => by
        rcases List.mem_cons.mp hb with z | z
        · exact ⟨_, by rw [z]; exact (hs.trans e7) _ _ hrl5⟩
        · have z : b = bl := by simpa using z
          exact ⟨_, by rw [z]; exact (hs.trans e7) _ _ hbl5⟩
      -- the new row
      have hnew : RowAt K ad.l (n + rs.length + 1) (tab0 rs.length n a g j) v8 H8 := by
        obtain ⟨q, ys, h1, h0, h2, h3⟩ := h8
        refine ⟨q, ys, h1, fun z => ?_, h2, h3⟩
        obtain ⟨ys, h⟩ := ls7 q z
        rw [h0] at h; cases h
      have sb8 : SameB ad.l H8 (upd H8 rl (.lst (ws ++ [v8]))) := sameB_upd (by simp [Ad.l, ad])
      have hp8' : upd H8 rl (.lst (ws ++ [v8])) p = some (.ins C dx (pf n sl rl bl)) := by rw [upd_ne (Ne.symm nprl)]; exact hp8
      have hbl8' : upd H8 rl (.lst (ws ++ [v8])) bl = some (.lst ((List.range j).map fun r => V.int ((n + r : Nat) : Int))) := by rw [upd_ne (Ne.symm nrlbl)]; exact hbl8
      refine ss_one (s_app (l := bl) (P := vI ((n : Int) + (j : Int))) (ev_fld (ev_v 0 (P := vE (.ref p)) rfl) hp8' T.cl T.nB pf_basis) hbl8' (by simp; omega) (ev_add (ev_fld (ev_v 0 (P := vE (.ref p)) rfl) hp8' T.cl T.nM pf_many) (ev_v 3 (P := vI (j : Int)) rfl)) fun v9 H9 e9 ev9 => ?_)
      cases ev9
      have hrl9 : H9 rl = some (.lst (ws ++ [v8])) := e9 _ _ upd_same
      have hbl9 := e9 _ _ hbl8'
      have sb9 : SameB ad.l H8 (upd H9 bl (.lst ((List.range j).map (fun r => V.int ((n + r : Nat) : Int)) ++ [.int ((n : Int) + (j : Int))]))) := (sb8.trans (sb_of e9)).trans (sameB_upd (by simp [Ad.l, ad]))
      have nn : ∀ {b o}, H b = some o → b ≠ rl ∧ b ≠ bl := fun {b o} h => ⟨fun z => (by rw [z, hrl00] at h; cases h), fun z => (by rw [z, hbl00] at h; cases h)⟩
      refine ⟨_, _, _, _, rfl, fun b o nb h => ?_, ?_, ?_, ?_, by rw [upd_ne nrlbl]; exact hrl9, by rw [List.length_append, hwl]; rfl, fun r hr => ?_, ?_⟩
      · exact sb9 b o (by simp [Ad.l, ad]; exact nn h) (e8 _ _ (sb7 b o nb h))
      · rw [upd_ne (Ne.symm npbl)]; exact e9 _ _ hp8'
      · rw [upd_ne nslbl]; exact e9 _ _ (by rw [upd_ne nslrl]; exact e8 _ _ hsl7)
      · exact sbV sb9 ls8 (hss7.mono e8)
      · by_cases q : r = j
        · subst q
          refine ⟨v8, by rw [List.getElem?_append_right (by omega), hwl]; simp, hnew.sb sb9 ls8⟩
        · obtain ⟨v', q1, q2⟩ := hws r (by omega)
          exact ⟨v', by rw [List.getElem?_append_left (by omega)]; exact q1, (q2.mono e58).sb sb9 ls8⟩
      · rw [upd_same, List.range_succ, List.map_append]; rfl
  · rintro σ' H5 ⟨o3, o4, o5, ws, rfl, sb, hp5, hsl5, hss5, hrl5, hwl, hws, hbl5⟩
    exact kk ad H5 rfl hrl00 hbl00 sb ⟨hp5, ⟨ss, hsl5, hss5⟩, ⟨ws, hrl5, hwl, hws⟩, hbl5, nrlbl, by simp [Ad.l, ad]; exact ⟨nslrl, nslbl⟩⟩
end
end Dw
set_option Elab.async false
set_option linter.all false
set_option maxRecDepth 100000
set_option maxHeartbeats 4000000
/-! solved -/
namespace Dw
open PySem PySem.Spec PyProof.Rows L2 RZ
section
variable {X : Cx} {e a b : Expr} {es : List Expr} {σ : L2.St} {H : Hp} {pos p : Pos} {R : List V → Hp → Prop} {k : Nat} {ps : List Str} {sp : Sp} {x : Str} {C : Addr}
/-- a class that the module's name x holds -/
structure HasC (P : Program) (w : World) (K : PySem.W.Frag) (mg : Str → Option Value) (base : Heap) (C : Addr) (x : Str) (k : Nat) (ps : List Str) (sp : Sp) : Prop where
  ex : ∃ f fd, FnOk P w K mg base CX0 k f fd ps sp ∧ Mk K C f ∧ Binds K fd ps [] ∧ mg x = some (.ref C)
theorem we_make (F : HasC X.prog X.w X.K X.mg X.base C x k ps sp) (hr : Room (k + 1) X.A) (ha : EA X (e :: es) σ H R) {Q : VK}
    (h : ∀ vs H1 a dx, Same H H1 → R vs H1 → H1 a = none → H1 dx = none → dx ≠ a → sp (.ref a :: vs) (upd (upd H1 dx (.own a)) a (.ins C dx [])) (fun v H2 => v = .non ∧ Q (.ref a) H2) E0)
    (hg : Gl X x := by rfl) (hdb : (x == ("__debug__" : Str)) = false := by decide) (he : starEach (e :: es) X.env = (false, eval e X.env) :: starEach es X.env := by rfl) (hpl : (backTo pos (starEach es X.env)).any (·.1) = false := by rfl) : WE X (.Call (.Name x p) (e :: es) [] pos) σ H Q := by
  obtain ⟨f, fd, G, hM, hb, hm⟩ := F.ex
  refine we_of (pe_make hM G hr hg hm hb .nil pass0 wa_self hdb he hpl) ?_
  refine ha H (Same.refl _) _ fun vs H1 e1 r a dx ha hd hne => ?_
  rw [List.append_nil]
  exact h vs H1 a dx e1 r ha hd hne
/-- x = e, whatever e changes -/
theorem s_setW {D : Ends} {i : Nat} {y : Str} {pos' : Pos} (he : WE X e σ H fun v H1 => D.nx (σ.set i (some v)) H1) (hN : X.N.Nodup := by assumption) (hi : X.N[i]? = some y := by rfl) (hx : Loc X.env.scope y := by first | exact Or.inl rfl | exact Or.inr rfl) (hs : swapsWith e (some (.Name y pos')) pos.line X.env = pure false := by rfl) (hf : X.fn y = true ∨ X.env.scope.names.lookup y = some .local := by first | exact .inl rfl | exact .inr rfl) :
    WS X (.Assign [.Name y pos'] e pos) D σ H := ws_of (ps_set hN hi hx we_self hs hf) he
/-- list(a list) -/
theorem ev_listL {xs : List V} (hm : X.mg "list" = none) (ha : EV X a σ H (vL X.K xs)) (hg : Gl X "list" := by rfl) (hs : starEach [a] X.env = (false, eval a X.env) :: starEach [] X.env := by rfl) : EV X (.Call (.Name "list" p) [a] [] pos) σ H (vNE H xs) :=
  ev_ty call_list_of hm (ea_one ha hs) (fun vs H1 e1 ⟨v, ev, q, eq, hq⟩ Q k => ⟨q, xs, by rw [ev, eq], .inl hq, fun l hl => k _ _ (same_new hl) ⟨l, rfl, e1.free hl, upd_same⟩⟩) (by decide +kernel) hg (by decide) (by decide) hs
end
section
variable {P : Program} {w : World} {K : PySem.W.Frag} {mg : Str → Option Value} {base : Heap} {C : Addr}
/-- what the answers are -/
def vNone (K : PySem.W.Frag) : V → Hp → Prop := fun v H => ∃ y, vT K [.str "none", y] v H
def vBest (K : PySem.W.Frag) (m n : Nat) (x y : Nat → Rat) : V → Hp → Prop := fun v H => ∃ xa ya, vT K [.str "best", xa, ya] v H ∧ vLQ K n x xa H ∧ vLQ K m y ya H
/-- what solved() wants of its program -/
structure Lp (m n : Nat) (a : Nat → Nat → Rat) (g c r : Nat → Rat) (own : Nat → Nat) : Prop where
  m1 : 1 ≤ m
  m17 : m ≤ 17
  n40 : n ≤ 40
  za : ∀ j, j < m → ∀ k, k < n → Sz L (a j k)
  zg : ∀ j, j < m → Sz L (g j)
  zc : ∀ k, k < n → Sz bC (c k)
  ic : ∀ k, k < n → isI (2 ^ 12) (c k)
  sys : Sys m n (tab0 m n a g) r
  rz : ∀ i, i < m → r i ≠ 0
  own : Own m n (tab0 m n a g) own
  lpb : LPB m n a c
def spSolved (K : PySem.W.Frag) : Sp := fun vs H Q _ => ∃ (R G cl : Addr) (m n : Nat) (a : Nat → Nat → Rat) (g c r : Nat → Rat) (own : Nat → Nat), vs = [.ref R, .ref G, .ref cl] ∧ Rows K m n a g R G H ∧ vLQ K n c (.ref cl) H ∧ Lp m n a g c r own ∧
  (∀ v H', (∀ x, ¬ LPF m n a g x) → Same H H' → vNone K v H' → Q v H') ∧
  (∀ x y v H', LPF m n a g x → LPD m n a c y → (S n fun k => c k * x k) = (S m fun j => y j * g j) → Fine m n x y → Same H H' → vBest K m n x y v H' → Q v H')
abbrev sSolved : Stmt := top 30
abbrev nSolved : List Str := ["rows", "goals", "costs", "program", "helping", "all_costs", "k", "row"]
theorem scSolved : FnScope nSolved ["rows", "goals", "costs"] (defScope sSolved) := ⟨rfl, rfl, rfl, by decide +kernel, rfl, by decide +kernel, by decide +kernel⟩
/-- the methods -/
structure HasPr (P : Program) (w : World) (K : PySem.W.Frag) (mg : Str → Option Value) (base : Heap) (C : Addr) : Prop where
  init : HasC P w K mg base C "Program" 3 ["self", "rows", "goals"] (spInit K C)
  mult : HasM P w K mg base CX0 C "multiplier" 4 ["self", "costs", "k"] (spMult K C)
  climb : HasM P w K mg base CX0 C "climb" 6 ["self", "costs", "columns"] (spClimb K C)
  leave : HasM P w K mg base CX0 C "leave_help" 4 ["self"] (spLeave K C)
  amts : HasM P w K mg base CX0 C "amounts" 1 ["self"] (spAmt K C)
  pris : HasM P w K mg base CX0 C "prices" 5 ["self", "costs"] (spPri K C)
theorem Rows.same {m n : Nat} {a : Nat → Nat → Rat} {g : Nat → Rat} {R G : Addr} {H H' : Hp} (h : Rows K m n a g R G H) (e : Same H H') : Rows K m n a g R G H' where
  rows := let ⟨rs, h1, h2, h3⟩ := h.rows; ⟨rs, e.seq h1, h2, fun j hj => let ⟨v, q1, q2⟩ := h3 j hj; ⟨v, q1, Stb.mono e q2⟩⟩
  goals := let ⟨gs, h1, h2⟩ := h.goals; ⟨gs, e.seq h1, h2.mono e⟩
/-- behind changes of new addresses what was before is still there -/
theorem sb_new {l : List Addr} {H0 H H' : Hp} (e0 : Same H0 H) (e : SameB l H H') (n : ∀ b ∈ l, H0 b = none) : Same H0 H' := fun b o h => e b o (fun z => by rw [n b z] at h; cases h) (e0 b o h)
theorem vMQ.sb {l : List Addr} {H H' : Hp} {n : Nat} {f : Nat → Rat} {p : Addr} (e : SameB l H H') (hl : ∀ b ∈ l, ∃ ys, H b = some (.lst ys)) (hp : p ∉ l) (h : vMQ K n f (.ref p) H) : vMQ K n f (.ref p) H' := by
  obtain ⟨q, xs, h1, h2, h3⟩ := h
  cases h1
  exact ⟨p, xs, rfl, e _ _ hp h2, sbV e hl h3⟩
theorem sz_hcost (n k : Nat) : Sz bC (hcost n k) := by
  unfold hcost
  split
  · exact ⟨by decide, by decide⟩
  · exact ⟨by decide, by decide⟩
theorem ok_solved {f : Addr} {fd : FuncData} (F : Fun K "solved" "solved" sSolved f fd) (T : TxP K mg C) (hP : HasPr P w K mg base C) : FnOk P w K mg base CX0 7 f fd ["rows", "goals", "costs"] (spSolved K) := by
  refine F.ok scSolved (fun vs H Q E h => ?_) (fun cdv A0 outer s H vs Q E hr h => ⟨_, wss_self, ?_⟩)
  · obtain ⟨R, G, cl, m, n, a, g, c, r, own, rfl, _⟩ := h; rfl
  obtain ⟨R, G, cl, m, n, a, g, c, r, own, rfl, hRG, hc, hL, kN, kB⟩ := h
  have nd := scSolved.nd
  have hm := hL.m17
  have hn := hL.n40
  -- program = Program(rows, goals)
  refine ss_cons (s_setW (i := 3) (we_make hP.init (hr.mono (by decide)) (ea_two (ev_v 0 (P := vE (.ref R)) rfl) (ev_v 1 (P := vE (.ref G)) rfl)) fun vs H1 p dx e1 ⟨v, w', ev, e2, e3⟩ h1 h2 hne => ?_))
  have e12 : Same H1 (upd (upd H1 dx (.own p)) p (.ins C dx [])) := (same_new h2).trans (same_new (by rw [upd_ne (Ne.symm hne)]; exact h1))
  refine ⟨p, dx, R, G, m, n, a, g, by rw [ev, e2, e3], upd_same, (hRG.same e1).same e12, hL.m1, hm, hn, hL.za, hL.zg, fun ad H2 ead hrl hbl sb2 hP2 => ⟨rfl, ?_⟩⟩
  subst ead
  have e2 : Same H H2 := fun b o h => sb2 b o (by
    intro z
    have z : b = ad.p := by simpa using z
    rw [z, e1.free h1] at h; cases h) (e12 _ _ (e1 _ _ h))
  have nl : ∀ b ∈ ad.l, H b = none := fun b hb => by
    rcases List.mem_cons.mp hb with z | z
    · rw [z]; exact (e1.trans e12).free hrl
    · have z : b = ad.bl := by simpa using z
      rw [z]; exact (e1.trans e12).free hbl
  have hG0 : Good m n (tab0 m n a g) r (first n (tab0 m n a g)) := good0 hL.rz
  have hF0 : Feas m n (first n (tab0 m n a g)) := feas0
  generalize first n (tab0 m n a g) = t0 at hG0 hF0 hP2
  -- helping
  obtain ⟨rs, hR0, hrs, _⟩ := hRG.rows
  obtain ⟨cp, cs, ecl, hcl0, hcs⟩ := hc
  cases ecl
  have hlc : cs.length = n := hcs.1
  refine ss_cons (s_set (i := 4) (P := vFQ K H2 (n + m) (hcost n)) ((ev_cat (n := n) (m := m) (f := fun _ => 0) (g := fun _ => -1)
    ((ev_lc (g := gName 6) nd ((ei_L (ev_v 2 (P := vE (.ref cl)) rfl) (e2.seq hcl0)).es fun H3 e => e.seq (e2.seq hcl0)) (blkOk_by (N := nSolved) (sc := defScope sSolved) (own := [("k", 6)]) (by decide +kernel)) (fun _ _ _ _ _ => pg_name (i := 6) nd rfl (Or.inl rfl)) (by omega) (fun _ => vQ K 0) (fun j x H3 H4 hj e hy => ?_)).imp fun v H' _ h => by have := h.m; rw [hlc] at this; exact this)
    ((ev_lc (g := gName 7) nd ((ei_L (ev_v 0 (P := vE (.ref R)) rfl) (e2.seq hR0)).es fun H3 e => e.seq (e2.seq hR0)) (blkOk_by (N := nSolved) (sc := defScope sSolved) (own := [("row", 7)]) (by decide +kernel)) (fun _ _ _ _ _ => pg_name (i := 7) nd rfl (Or.inl rfl)) (by omega) (fun _ => vQ K (-1)) (fun j x H3 H4 hj e hy => ?_)).imp fun v H' _ h => by have := h.m; rw [hrs] at this; exact this) (by omega)).imp fun v H' _ h => h) fun vh H3 e3 hh => ?_)
  · obtain ⟨rfl, hx⟩ := hy
    exact ⟨_, gt_name, Same.refl _, rfl, fun s5 H5' C5 cl5 fp5 => ev_q (q := 0) ev_i ev_i rfl rfl⟩
  · obtain ⟨rfl, hx⟩ := hy
    exact ⟨_, gt_name, Same.refl _, rfl, fun s5 H5' C5 cl5 fp5 => ev_q (q := -1) (ev_neg ev_i) ev_i rfl rfl⟩
  obtain ⟨hp, hs, rfl, hh0, hh1, hh2⟩ := hh
  have hnh : hp ∉ ad.l := fun z => by
    obtain ⟨ys, h⟩ := hP2.ls hp z
    rw [hh0] at h; cases h
  have hP3 := hP2.mono e3
  have hC3 : CostAt K ad.l (n + m) (hcost n) hp H3 := ⟨hnh, hs, SqL.of hh1, hh2⟩
  have hP3m : vMQ K (n + m) (hcost n) (.ref hp) H3 := ⟨hp, hs, rfl, hh1, hh2⟩
  have e03 := e2.trans e3
  -- program.climb(helping, program.many)
  refine ss_cons (ws_of (ps_expr we_self (by rfl)) (we_meth hP.climb T.cl (hr.mono (by decide)) (ev_v 3 (P := vE (.ref ad.p)) rfl) hP3.obj (by rfl) (ea_two (ev_v 4 (P := vE (.ref hp)) rfl) (ev_fld (ev_v 3 (P := vE (.ref ad.p)) rfl) hP3.obj T.cl T.nM pf_many)) fun vs H4 e4 ⟨v, w', ev, e5, e6⟩ => ?_))
  refine ⟨ad, m, n, sgn g, hcost n, r, tab0 m n a g, t0, hp, by rw [ev, e5, e6], hP3.mono e4, hC3.mono e4, hL.sys, fun k _ => sz_hcost n k, hG0, hF0, fun b t1 H5 hG1 hF1 _ hb1 hb0 sb5 hP5 => ?_⟩
  have hb : b = true := by
    cases b with
    | true => rfl
    | false => exact (ph1_fall (hb0 rfl)).elim
  have hd1 := hb1 hb
  have e05 : Same H H5 := sb_new (e03.trans e4) sb5 nl
  have hM5 : vMQ K (n + m) (hcost n) (.ref hp) H5 := vMQ.sb sb5 (hP3.mono e4).ls hnh (Stb.mono e4 hP3m)
  have hC5 : CostAt K ad.l (n + m) (hcost n) hp H5 := by
    obtain ⟨q, xs, h1, h2, h3⟩ := hM5
    cases h1
    exact ⟨hnh, xs, SqL.of h2, h3⟩
  have sm1 := hL.sys.small hG1 (fun k _ => sz_hcost n k : ∀ k, k < n + m → Sz bC (hcost n k))
  -- if program.multiplier(..)[0] < 0
  refine ss_cons (s_if (k := decide (mult m (hcost n) t1 (n + m) < 0)) ((et_lt (ev_num (ev_meth (P := vQ K (mult m (hcost n) t1 (n + m))) hP.mult T.cl (hr.mono (by decide)) (ev_v 3 (P := vE (.ref ad.p)) rfl) hP5.obj (by rfl) (ea_two (ev_v 4 (P := vE (.ref hp)) rfl) (ev_add (ev_fld (ev_v 3 (P := vE (.ref ad.p)) rfl) hP5.obj T.cl T.nM pf_many) ((ev_lenL T.len (ev_v 0 (P := vL K rs) ⟨R, rfl, e05.seq hR0⟩)).imp (P1 := vI (m : Int)) fun v' H' e ev => by rw [hrs] at ev; exact ev))) fun vs H6 e6 ⟨v, w', ev, e7, e8⟩ Q k =>
      ⟨ad, m, n, n + m, sgn g, hcost n, t1, hp, by rw [ev, e7, e8]; rfl, hP5.mono e6, hC5.mono e6, Nat.le_refl _, sm1, k⟩)) ev_i).is (by
      rw [decide_eq_decide]
      have := num_pos_iff (- mult m (hcost n) t1 (n + m))
      rw [Rat.neg_num] at this
      constructor
      · intro h; have := this.mp (by omega); grind
      · intro h; have := this.mpr (by grind); omega)) (fun hk H6 e6 => ?_) (fun hk H6 e6 => ss_nil ?_))
  · have hk : mult m (hcost n) t1 (n + m) < 0 := of_decide_eq_true hk
    refine ss_one (s_ret (P := vNone K) ((ev_tup (n := 2) (ea_two (P2 := fun _ _ => True) (ev_s (x := "none")) ((ev_meth (P := vLQ K m (fun j => sgn g j * mult m (hcost n) t1 (n + j))) hP.pris T.cl (hr.mono (by decide)) (ev_v 3 (P := vE (.ref ad.p)) rfl) (e6 _ _ hP5.obj) (by rfl) (ea_one (ev_v 4 (P := vE (.ref hp)) rfl)) fun vs H7 e7 ⟨v, ev, e8⟩ Q k =>
      ⟨ad, m, n, sgn g, hcost n, t1, hp, by rw [ev, e8], (hP5.mono e6).mono e7, (hC5.mono e6).mono e7, sm1, fun j _ => (sz_sgn g j).mono (by decide), k⟩).imp fun _ _ _ _ => trivial)) (fun vs H ⟨v, w, e, _⟩ => by rw [e]; exact Nat.le_refl 2)).imp fun v' H' _ ⟨p, vs, H1', e1', e2', _, v1, w1, e3', p1, p2⟩ => ⟨w1, p, e1', SqT.of (by rw [e2', e3', p1])⟩) fun v H7 e7 h7 => ?_)
    exact kN v H7 (fun x hx => ph1_none hG1 hd1 hk x hx) ((e05.trans e6).trans e7) h7
  have hk : ¬ mult m (hcost n) t1 (n + m) < 0 := of_decide_eq_false hk
  have hz1 := ph1_some hF1 hk
  have hP6 := hP5.mono e6
  -- program.leave_help()
  refine ss_cons (ws_of (ps_expr we_self (by rfl)) (we_meth0 hP.leave T.cl (hr.mono (by decide)) (ev_v 3 (P := vE (.ref ad.p)) rfl) hP6.obj (by rfl) fun H7 e7 => ?_))
  refine ⟨ad, m, n, sgn g, r, tab0 m n a g, own, t1, rfl, hP6.mono e7, hL.sys, hG1, hF1, hL.own, hz1, fun t2 H8 hG2 hF2 hB2 sb8 hP8 => ?_⟩
  have e08 : Same H H8 := sb_new ((e05.trans e6).trans e7) sb8 nl
  -- all_costs
  let fc : Nat → Rat := fun i => if i < n then c i else 0
  refine ss_cons (s_set (i := 5) (P := vFQ K H8 (n + m) fc) ((ev_cat (n := n) (m := m) (f := c) (g := fun _ => 0)
    ((ev_listL T.lst (ev_v 2 (P := vL K cs) ⟨cl, rfl, e08.seq hcl0⟩)).imp fun v H' e ⟨q, h1, h2, h3⟩ => ⟨q, cs, h1, h3, (hcs.mono e08).mono e⟩)
    ((ev_lc (g := gName 7) nd ((ei_L (ev_v 0 (P := vE (.ref R)) rfl) (e08.seq hR0)).es fun H3 e => e.seq (e08.seq hR0)) (blkOk_by (N := nSolved) (sc := defScope sSolved) (own := [("row", 7)]) (by decide +kernel)) (fun _ _ _ _ _ => pg_name (i := 7) nd rfl (Or.inl rfl)) (by omega) (fun _ => vQ K 0) (fun j x H3 H4 hj e hy => ?_)).imp fun v H' _ h => by have := h.m; rw [hrs] at this; exact this) (by omega)).imp fun v H' _ h => h) fun va H9 e9 ha => ?_)
  · obtain ⟨rfl, hx⟩ := hy
    exact ⟨_, gt_name, Same.refl _, rfl, fun s5 H5' C5 cl5 fp5 => ev_q (q := 0) ev_i ev_i rfl rfl⟩
  obtain ⟨ap, as, rfl, ha0, ha1, ha2⟩ := ha
  have hna : ap ∉ ad.l := fun z => by
    obtain ⟨ys, h⟩ := hP8.ls ap z
    rw [ha0] at h; cases h
  have hP9 := hP8.mono e9
  have hC9 : CostAt K ad.l (n + m) fc ap H9 := ⟨hna, as, SqL.of ha1, ha2⟩
  have hzc : ∀ k, k < n + m → Sz bC (fc k) := fun k _ => by
    show Sz bC (if k < n then c k else 0)
    by_cases q : k < n
    · rw [if_pos q]; exact hL.zc k q
    · rw [if_neg q]; exact sz0 (by decide)
  have hfc : ∀ t : Tab, (∀ i, i < m → t.B i < n) → ∀ k, mult m fc t k = mult m c t k := fun t hB k => S_congr fun i hi => by
    show (if t.B i < n then c (t.B i) else 0) * _ = _
    rw [if_pos (hB i hi)]
  -- if not program.climb(all_costs, program.many)
  refine ss_cons (ws_of (ps_if (pt_not (pt_val we_self (fun _ => rfl))) wss_self wss_self) (we_meth hP.climb T.cl (hr.mono (by decide)) (ev_v 3 (P := vE (.ref ad.p)) rfl) hP9.obj (by rfl) (ea_two (ev_v 5 (P := vE (.ref ap)) rfl) (ev_fld (ev_v 3 (P := vE (.ref ad.p)) rfl) hP9.obj T.cl T.nM pf_many)) fun vs H10 e10 ⟨v, w', ev, e5, e6⟩ => ?_))
  refine ⟨ad, m, n, sgn g, fc, r, tab0 m n a g, t2, ap, by rw [ev, e5, e6], hP9.mono e10, hC9.mono e10, hL.sys, hzc, hG2, hF2, fun b t3 H11 hG3 hF3 hB3 hb1 hb0 sb11 hP11 => ?_⟩
  have hB3 := hB3 hB2
  have hb : b = true := by
    cases b with
    | true => rfl
    | false =>
      obtain ⟨s, hs1, hs2, hs3⟩ := hb0 rfl
      have e : fc s = c s := if_pos hs1
      rw [e, hfc t3 hB3] at hs2
      exact (ph2_fall hG3 hB3 hL.lpb ⟨s, hs1, hs2, hs3⟩).elim
  subst hb
  have hd3 : ∀ k, k < n → ¬ mult m c t3 k < c k := fun k hk => by
    have := hb1 rfl k hk
    have e : fc k = c k := if_pos hk
    rw [e, hfc t3 hB3] at this; exact this
  have e011 : Same H H11 := sb_new ((e08.trans e9).trans e10) sb11 nl
  refine ⟨true, rfl, ss_nil ?_⟩
  obtain ⟨q1, q2, q3⟩ := ph2_top hG3 hF3 hB3 hd3
  have hC11 : CostAt K ad.l (n + m) fc ap H11 := by
    have := vMQ.sb (K := K) sb11 (hP9.mono e10).ls hna (Stb.mono e10 (⟨ap, as, rfl, ha1, ha2⟩ : vMQ K (n + m) fc (.ref ap) H9))
    obtain ⟨q, xs, h1, h2, h3⟩ := this
    cases h1
    exact ⟨hna, xs, SqL.of h2, h3⟩
  have sm3 := hL.sys.small hG3 hzc
  refine ss_one (s_ret (P := vBest K m n (val m n t3) fun j => sgn g j * mult m fc t3 (n + j)) ((ev_tup (n := 3) (ea_cons (P := vE (.str "best")) (ev_s (x := "best")) (ea_two (P1 := vLQ K n (val m n t3)) (P2 := vLQ K m (fun j => sgn g j * mult m fc t3 (n + j)))
    (fun H12 e12 Q k => we_meth0 hP.amts T.cl (hr.mono (by decide)) ((ev_v 3 (P := vE (.ref ad.p)) rfl).mono e12) (e12 _ _ hP11.obj) (by rfl) fun H13 e13 => ⟨ad, m, n, sgn g, t3, rfl, (hP11.mono e12).mono e13, hn, fun i hi j hj e => B_inj hG3 hi hj e, fun v H14 e14 hv => k v H14 (e13.trans e14) hv⟩)
    (ev_meth hP.pris T.cl (hr.mono (by decide)) (ev_v 3 (P := vE (.ref ad.p)) rfl) hP11.obj (by rfl) (ea_one (ev_v 5 (P := vE (.ref ap)) rfl)) fun vs H7 e7 ⟨v, ev, e8⟩ Q k =>
      ⟨ad, m, n, sgn g, fc, t3, ap, by rw [ev, e8], hP11.mono e7, hC11.mono e7, sm3, fun j _ => (sz_sgn g j).mono (by decide), k⟩))) (fun vs H ⟨v, w, e, _, v2, w2, e2, _⟩ => by rw [e, e2]; exact Nat.le_refl 3)).imp fun v' H' _ ⟨p, vs, H1', e1', e2', e4', v1, w1, e3', p1, v2, w2, e5', p2, p3⟩ => ⟨v2, w2, ⟨p, e1', SqT.of (by rw [e2', e3', p1, e5'])⟩, Stb.mono e4' p2, Stb.mono e4' p3⟩) fun v H12 e12 h12 => ?_)
  have ey : (fun j => sgn g j * mult m fc t3 (n + j)) = fun j => sgn g j * mult m c t3 (n + j) := funext fun j => by rw [hfc t3 hB3]
  rw [ey] at h12
  have hfine : Fine m n (val m n t3) (fun j => sgn g j * mult m fc t3 (n + j)) := by
    obtain ⟨M, hM, hb⟩ := hL.sys.M
    refine fine_of hG3 hM hb hm fun k _ => ?_
    show isI (2 ^ 12) (if k < n then c k else 0)
    by_cases q : k < n
    · rw [if_pos q]; exact hL.ic k q
    · rw [if_neg q]; exact ⟨0, rfl, by decide⟩
  rw [ey] at hfine
  exact kB _ _ v H12 q1 q2 q3 hfine (e011.trans e12) h12
end
end Dw
set_option Elab.async false
set_option linter.all false
set_option maxRecDepth 100000
set_option maxHeartbeats 4000000
/-! dicts, other targets, what is raised -/
namespace Dw
open PySem PySem.Spec PyProof.Rows L2 RZ
section
variable {X : Cx} {tg e o a b c d i k value : Expr} {es : List Expr} {σ : L2.St} {H H' : Hp} {pos pos' p : Pos} {P P1 P2 P3 : V → Hp → Prop} {R R1 : List V → Hp → Prop} {D : Ends} {g : TG}
/-! ### target = e -/
theorem s_asg (he : EV X e σ H P) (hg : PG X tg g) (h : ∀ v H', Same H H' → P v H' → ∃ σ2, GT g v σ H' σ2 ∧ D.nx σ2 H') (hs : swapsWithSole [tg] e pos.line X.env = pure false := by rfl) (hw : swappedStores [tg] e X.env = pure none := by rfl)
    (h1 : (assignEach [tg] X.env).map (·.2) = [assign tg X.env] := by rfl) : WS X (.Assign [tg] e pos) D σ H :=
  ws_of (ps_asg we_self hg hs hw h1) (he.go fun v H' e' p => let ⟨_, q1, q2⟩ := h v H' e' p; q1 _ q2)
/-- the same, whatever e changes -/
theorem s_asgW (he : WE X e σ H fun v H' => ∃ σ2, GT g v σ H' σ2 ∧ D.nx σ2 H') (hg : PG X tg g) (hs : swapsWithSole [tg] e pos.line X.env = pure false := by rfl) (hw : swappedStores [tg] e X.env = pure none := by rfl)
    (h1 : (assignEach [tg] X.env).map (·.2) = [assign tg X.env] := by rfl) : WS X (.Assign [tg] e pos) D σ H := by
  refine ws_of (ps_asg (te := WE X e) we_self hg hs hw h1) ?_
  have : ∀ {Q Q' : VK}, (∀ v H, Q v H → Q' v H) → WE X e σ H Q → WE X e σ H Q' := fun {Q Q'} f w pins s I =>
    wpAny_mono (w pins s I) (fun v s' ⟨x, H', I', r, q⟩ => ⟨x, H', I', r, f x H' q⟩) fun _ _ h => h
  exact this (fun v H' ⟨_, q1, q2⟩ => q1 _ q2) he
abbrev g3 (K : PySem.W.Frag) (i j k : Nat) : TG := gTup K 3 (gCons (gName i) (gCons (gName j) (gCons (gName k) gNil)))
abbrev g4 (K : PySem.W.Frag) (i j k l : Nat) : TG := gTup K 4 (gCons (gName i) (gCons (gName j) (gCons (gName k) (gCons (gName l) gNil))))
theorem gt_three {K : PySem.W.Frag} {i j k : Nat} {a : Addr} {x y z : V} (h : SqT K H a [x, y, z]) : GT (g3 K i j k) (.ref a) σ H (((σ.set i (some x)).set j (some y)).set k (some z)) :=
  fun _ q => ⟨a, [x, y, z], rfl, h, rfl, x, [y, z], rfl, y, [z], rfl, z, [], rfl, rfl, q⟩
theorem gt_four {K : PySem.W.Frag} {i j k l : Nat} {a : Addr} {x y z u : V} (h : SqT K H a [x, y, z, u]) : GT (g4 K i j k l) (.ref a) σ H ((((σ.set i (some x)).set j (some y)).set k (some z)).set l (some u)) :=
  fun _ q => ⟨a, [x, y, z, u], rfl, h, rfl, x, [y, z, u], rfl, y, [z, u], rfl, z, [u], rfl, u, [], rfl, rfl, q⟩
theorem pg_3 {K : PySem.W.Frag} {x y z : Expr} {pos : Pos} {kk : Nat} {g1 g2 g3' : TG} (h1 : PG X x g1) (h2 : PG X y g2) (h3 : PG X z g3') (hK : X.K = K) (h : PG X (.Tuple [x, y, z] kk pos) (gTup X.K 3 (gCons g1 (gCons g2 (gCons g3' gNil))))) : PG X (.Tuple [x, y, z] kk pos) (gTup K 3 (gCons g1 (gCons g2 (gCons g3' gNil)))) := hK ▸ h
/-- the later ones may look at the heap that the first left -/
theorem ea_dep {Rd : V → Hp → List V → Hp → Prop} (ha : EV X a σ H P) (hr : ∀ v H1, Same H H1 → P v H1 → EA X es σ H1 (Rd v H1)) (hs : starEach (a :: es) X.env = (false, eval a X.env) :: starEach es X.env := by rfl) : EA X (a :: es) σ H (fun vs H' => ∃ v r H1, vs = v :: r ∧ P v H1 ∧ Same H H1 ∧ Same H1 H' ∧ Rd v H1 r H') :=
  fun H1 e1 Q q => wa_of (pa_cons we_self wa_self hs) (ha H1 e1 _ fun v H2 e2 p => hr v H2 (e1.trans e2) p H2 (Same.refl _) _ fun r H3 e3 p2 => q _ H3 (e2.trans e3) ⟨v, r, H2, rfl, p, e1.trans e2, e3, p2⟩)
theorem ws_imp {st : Stmt} {M N : L2.St → Hp → Prop} (h : WS X st { D with nx := M } σ H) (f : ∀ σ' H', M σ' H' → N σ' H') : WS X st { D with nx := N } σ H := fun pins s I =>
  wpAny_mono (h pins s I) (fun r s' q => by
    cases r with
    | next => obtain ⟨σ', H', I', q⟩ := q; exact ⟨σ', H', I', f σ' H' q⟩
    | brk => exact q
    | cont => exact q
    | ret u => exact q) fun _ _ h => h
/-- a statement, then what follows from what holds behind it -/
theorem ss_mid {st : Stmt} {rest : List Stmt} (M : L2.St → Hp → Prop) (h1 : WS X st { D with nx := M } σ H) (h2 : ∀ σ' H', M σ' H' → WSs X rest D σ' H') : WSs X (st :: rest) D σ H := ss_cons (ws_imp h1 h2)
/-! ### dicts -/
/-- a list or a dict stands there -/
def IsM (H : Hp) (a : Addr) : Prop := (∃ xs, H a = some (.lst xs)) ∨ ∃ kvs, H a = some (.dK kvs)
theorem IsM.mono {a : Addr} (h : IsM H a) (e : Same H H') : IsM H' a := by
  rcases h with ⟨xs, h⟩ | ⟨xs, h⟩
  · exact .inl ⟨xs, e _ _ h⟩
  · exact .inr ⟨xs, e _ _ h⟩
theorem IsM.upd {a b : Addr} {o : HO} (h : IsM H a) (ho : (∃ xs, o = .lst xs) ∨ ∃ kvs, o = .dK kvs) : IsM (upd H b o) a := by
  by_cases q : a = b
  · subst q
    rcases ho with ⟨xs, rfl⟩ | ⟨xs, rfl⟩
    · exact .inl ⟨xs, upd_same⟩
    · exact .inr ⟨xs, upd_same⟩
  · rcases h with ⟨xs, h⟩ | ⟨xs, h⟩
    · exact .inl ⟨xs, by rw [upd_ne q]; exact h⟩
    · exact .inr ⟨xs, by rw [upd_ne q]; exact h⟩
theorem mutT {K : PySem.W.Frag} {a D : Addr} {o : HO} {zs : List V} (h : IsM H D) (q : SqT K H a zs) : SqT K (upd H D o) a zs := by
  have n : ∀ u, H a = some u → (∀ ys, u ≠ .lst ys) → (∀ ys, u ≠ .dK ys) → a ≠ D := fun u h1 h2 h3 z => by
    rw [z] at h1
    rcases h with ⟨xs, h⟩ | ⟨xs, h⟩
    · rw [h] at h1; exact h2 _ (Option.some.inj h1).symm
    · rw [h] at h1; exact h3 _ (Option.some.inj h1).symm
  rcases q with (q | ⟨u, q⟩) | q
  · exact .inl (.inl (by rw [upd_ne (n _ q (by intro _ z; cases z) (by intro _ z; cases z))]; exact q))
  · exact .inl (.inr ⟨u, by rw [upd_ne (n _ q (by intro _ z; cases z) (by intro _ z; cases z))]; exact q⟩)
  · exact .inr q
theorem mutQ {K : PySem.W.Frag} {D : Addr} {o : HO} {q : Rat} {v : V} (h : IsM H D) (x : vQ K q v H) : vQ K q v (upd H D o) := let ⟨p, h1, h2⟩ := x; ⟨p, h1, mutT h h2⟩
theorem mutV {K : PySem.W.Frag} {D : Addr} {o : HO} {n : Nat} {f : Nat → Rat} {xs : List V} (h : IsM H D) (x : vsQ K H xs n f) : vsQ K (upd H D o) xs n f := ⟨x.1, fun i hi => let ⟨y, h1, h2⟩ := x.2 i hi; ⟨y, h1, mutQ h h2⟩⟩
def RepD (K : PySem.W.Frag) (H : Hp) (kvs : List (Key × V)) (f : Nat → Rat) : Prop := ∀ k : Nat, (∃ v, valV kvs (.inl (k : Int)) = some v ∧ vQ K (f k) v H) ∨ (valV kvs (.inl (k : Int)) = none ∧ f k = 0)
theorem RepD.mono {K : PySem.W.Frag} {kvs : List (Key × V)} {f : Nat → Rat} (h : RepD K H kvs f) (e : Same H H') : RepD K H' kvs f := fun k => by
  rcases h k with ⟨v, h1, h2⟩ | h1
  · exact .inl ⟨v, h1, Stb.mono e h2⟩
  · exact .inr h1
theorem RepD.mut {K : PySem.W.Frag} {kvs : List (Key × V)} {f : Nat → Rat} {D : Addr} {o : HO} (h : RepD K H kvs f) (m : IsM H D) : RepD K (upd H D o) kvs f := fun k => by
  rcases h k with ⟨v, h1, h2⟩ | h1
  · exact .inl ⟨v, h1, mutQ m h2⟩
  · exact .inr h1
theorem RepD.nil {K : PySem.W.Frag} : RepD K H [] (fun _ => 0) := fun k => .inr ⟨rfl, rfl⟩
theorem RepD.put {K : PySem.W.Frag} {kvs : List (Key × V)} {f : Nat → Rat} {i : Nat} {v : V} {q : Rat} (h : RepD K H kvs f) (hv : vQ K q v H) : RepD K H (putK kvs (.inl (i : Int)) v) (fset f i q) := fun k => by
  rw [valV_put]
  by_cases c : k = i
  · subst c
    rw [if_pos rfl, fset_same]
    exact .inl ⟨v, rfl, hv⟩
  · rw [if_neg (fun z => c (by injection z with z; omega)), fset_ne c]
    exact h k
theorem RepD.congr {K : PySem.W.Frag} {kvs : List (Key × V)} {f g : Nat → Rat} (h : RepD K H kvs f) (e : ∀ k, f k = g k) : RepD K H kvs g := fun k => by rw [← e k]; exact h k
/-- a dict that stands for f -/
def vD (K : PySem.W.Frag) (f : Nat → Rat) : V → Hp → Prop := fun v H => ∃ a kvs, v = .ref a ∧ H a = some (.dK kvs) ∧ RepD K H kvs f
/-- .. a new one -/
def vDN (K : PySem.W.Frag) (H : Hp) (n : Nat) (f : Nat → Rat) : V → Hp → Prop := fun v H' => ∃ a kvs, v = .ref a ∧ H a = none ∧ H' a = some (.dK kvs) ∧ RepD K H' kvs f ∧ kvs.length ≤ n
instance {K : PySem.W.Frag} {f : Nat → Rat} : Stb (vD K f) := ⟨fun e ⟨a, kvs, h1, h2, h3⟩ => ⟨a, kvs, h1, e _ _ h2, h3.mono e⟩⟩
instance {K : PySem.W.Frag} {n : Nat} {f : Nat → Rat} : Stb (vDN K H n f) := ⟨fun e ⟨a, kvs, h1, h0, h2, h3, h4⟩ => ⟨a, kvs, h1, h0, e _ _ h2, h3.mono e, h4⟩⟩
theorem ev_dget {q : Rat} {f : Nat → Rat} {j : Nat} {apos : Pos} (hu : X.A.units + 1 < cLine) (ho : EV X o σ H (vD X.K f)) (he : EV X a σ H (vI (j : Int))) (hb : EV X b σ H (vQ X.K 0)) (m : M2 X o "get" apos a b pos := by exact ⟨by rfl, by rfl, rfl, rfl⟩) :
    EV X (.Call (.Attribute o "get" apos) [a, b] [] pos) σ H (vQ X.K (f j)) := by
  refine ev_of (pe_dget2 hu we_self we_self we_self m) fun H1 e1 Q q => ho H1 e1 _ fun x H2 e2 ⟨ad, kvs, ex, h1, h2⟩ => ⟨ad, ex, .inl ⟨kvs, .inl h1⟩, he H2 (e1.trans e2) _ fun y H3 e3 ey => hb H3 ((e1.trans e2).trans e3) _ fun z H4 e4 hz => ?_⟩
  have ey : y = kV (.inl (j : Int)) := ey
  subst ey
  refine ⟨_, DGet.k (e4 _ _ (e3 _ _ h1)), ?_⟩
  rcases h2 j with ⟨v, q1, q2⟩ | ⟨q1, q2⟩
  · rw [q1]; exact q _ H4 ((e2.trans e3).trans e4) (Stb.mono (e3.trans e4) q2)
  · rw [q1]; refine q _ H4 ((e2.trans e3).trans e4) ?_; rw [q2]; exact hz
/-- o[i] = e -/
theorem s_dput {ad : Addr} {j : Int} {kvs : List (Key × V)} (hu : X.A.units + 1 < cLine) (he : EV X value σ H P) (ho : EV X o σ H (vE (.ref ad))) (hi : EV X i σ H (vI j)) (hd : H ad = some (.dK kvs)) (hz : kvs.length ≤ 1000) (h : ∀ v H', Same H H' → (∃ H1, Same H H1 ∧ Same H1 H' ∧ P v H1) → D.nx σ (upd H' ad (.dK (putK kvs (.inl j) v))))
    (hs : swapsWith value (some (.Subscript o i pos')) pos.line X.env = pure false := by rfl) : WS X (.Assign [.Subscript o i pos'] value pos) D σ H := by
  refine ws_of (ps_dput hu we_self we_self we_self hs) (he.go fun v H1 e1 p1 => ho H1 e1 _ fun x H2 e2 ex => hi H2 (e1.trans e2) _ fun y H3 e3 ey => ⟨ad, _, ex, ?_, h v H3 ((e1.trans e2).trans e3) ⟨H1, e1, e2.trans e3, p1⟩⟩)
  have ey : y = kV (.inl j) := ey
  subst ey
  exact DPut.k (((e1.trans e2).trans e3) _ _ hd) (Nat.lt_of_le_of_lt hz (by decide))
/-- {i: q, k: r} -/
theorem ev_disp2 {i1 i2 : Nat} {q1 q2 : Rat} {ka kb va vb : Expr} (h1 : EV X ka σ H (vI (i1 : Int))) (h2 : EV X va σ H (vQ X.K q1)) (h3 : EV X kb σ H (vI (i2 : Int))) (h4 : EV X vb σ H (vQ X.K q2)) :
    EV X (.Dict [some ka, some kb] [va, vb] pos) σ H (vDN X.K H 2 (fset (fset (fun _ => 0) i1 q1) i2 q2)) := by
  refine ev_of (pe_disp (pps_cons we_self we_self (pps_cons we_self we_self pps_nil)) rfl rfl (by simp) (by simp)) fun H1 e1 Q q ad had => ?_
  have e2 : Same H1 (upd H1 ad (.dK [])) := same_new had
  refine h1 _ (e1.trans e2) _ fun x1 H2 e3 p1 => h2 H2 ((e1.trans e2).trans e3) _ fun x2 H3 e4 p2 => h3 H3 (((e1.trans e2).trans e3).trans e4) _ fun x3 H4 e5 p3 => h4 H4 ((((e1.trans e2).trans e3).trans e4).trans e5) _ fun x4 H5 e6 p4 => ?_
  cases p1
  cases p3
  have hD : H5 ad = some (.dK []) := e6 _ _ (e5 _ _ (e4 _ _ (e3 _ _ upd_same)))
  have s5 : Same H1 H5 := (((e2.trans e3).trans e4).trans e5).trans e6
  have hm : IsM H5 ad := .inr ⟨_, hD⟩
  refine ⟨hD, [(.inl (i1 : Int), x2), (.inl (i2 : Int), x4)], rfl, by simp, q _ _ (fun b u hb => ?_) ⟨ad, _, rfl, e1.free had, upd_same, ?_, ?_⟩⟩
  · rw [upd_ne (ne_of_none hb had)]; exact s5 b u hb
  · exact ((RepD.nil (K := X.K) (H := _)).put (mutQ hm (Stb.mono ((e5.trans e6)) p2))).put (mutQ hm p4)
  · exact length_mergeK _ _
/-- {} -/
theorem ev_dnew : EV X (.Dict [] [] pos) σ H (fun v H' => ∃ a, v = .ref a ∧ H a = none ∧ H' a = some (.dK [])) :=
  ev_of pe_dnewK fun H1 e1 Q q => fun ad had => q _ _ (same_new had) ⟨ad, rfl, e1.free had, upd_same⟩
end
section
variable {X : Cx}
theorem ps_setDc {i : Nat} {y : Str} {py : Pos} {kx vx tg iter : Expr} {ifs : List Expr} {scope : Scope} {own : List (Str × Nat)} {pos spos : Pos} {wi : TI} {g : TG} {tt : TT} {tk tv : TE} (hc : X.calm = true) (hN : X.N.Nodup) (hy : X.N[i]? = some y) (hyl : X.env.scope.names.lookup y = some .local)
    (hsw : swapsWith (.DictComp kx vx [⟨tg, iter, ifs, 0⟩] scope pos) (some (.Name y py)) spos.line X.env = pure true) (hi : PI X tg iter wi) (ok : BlkOk X.N X.env.scope scope own)
    (hg : ∀ (s : Shared) (H : Hp) (C : Addr) (cl : List (Str × Addr)) (fp : List Addr), PG (X.blk s H scope (compEnvC scope cl C X.env) fp) tg g) (ht : ∀ (s : Shared) (H : Hp) (C : Addr) (cl : List (Str × Addr)) (fp : List Addr), PTs (X.blk s H scope (compEnvC scope cl C X.env) fp) ifs tt)
    (hk : ∀ (s : Shared) (H : Hp) (C : Addr) (cl : List (Str × Addr)) (fp : List Addr), PE (X.blk s H scope (compEnvC scope cl C X.env) fp) kx tk)
    (he : ∀ (s : Shared) (H : Hp) (C : Addr) (cl : List (Str × Addr)) (fp : List Addr), PE (X.blk s H scope (compEnvC scope cl C X.env) fp) vx tv) (hs : ∀ x, foldedSetIterable iter X.env x = pure x := by intro _; rfl) :
    PS X (.Assign [.Name y py] (.DictComp kx vx [⟨tg, iter, ifs, 0⟩] scope pos) spos) (tAsg (tDc wi g tt tk tv (own.map (·.2))) (gName i)) := by
  refine ⟨fun pins s σ H D I h => ?_⟩
  rw [exec_Assign_Name_used _ _ _ _ hsw]
  refine wpAny_bind (wpAny_standAt (wpAny_bind ?_))
  show wpAny _ X.A (do let _ ← comprehension (.DictComp kx vx [⟨tg, iter, ifs, 0⟩] scope pos) scope X.env (firstIterPos [⟨tg, iter, ifs, 0⟩] pos) newDict false (eval iter X.env) (some (assign (.Name y py) X.env))) _ _ s
  have h : tDc wi g tt tk tv (own.map (·.2)) σ H (fun x H1 => gName i x σ H1 D.nx) := h
  refine wpAny_bind (thn (dc_core (Qf := fun _ s' => SP X pins D .next s') hc hN I hi ok hg ht hk he hs h fun L C s' m H' I' q hn f => ?_) fun _ s' hq => wpAny_pure (wpAny_pure hq))
  show wpAny _ _ (assign (.Name y py) X.env (.ref L)) _ _ _
  refine wpAny_assign_Name (store_ok2 (v := V.ref L) I' hN hy (.inl hyl) rfl (fun s2 I2 ⟨a, sb, ha⟩ => ?_) (.inr hyl))
  obtain ⟨f0, f1, f2, f3, f4, f5⟩ := f
  have haC : C ≠ a := by
    rcases ha with z | z
    · rw [z]; exact f1
    · exact fun e => f4 y a z e.symm
  refine ⟨m, hn.sameBut sb haC, fun h3 sb3 => ?_⟩
  exact ⟨_, H', I2.turned (t' := s2.toks) (fun b o hb e => (sb3.2 b hb).trans e) f0 f1 f3 f4 f5, q⟩
theorem sw_trueD {kx vx : Expr} {gs : List Comprehension} {scope : Scope} {pos py : Pos} {y : Str} {l : Nat} {env : Env} (hk : env.scope.kind = .function) (hy : env.scope.names.lookup y = some .local) (hl : (py.line == pos.line) = true)
    (ha : (scope.names.any fun (n, k) => n == y && (k == .local || k == .cell)) = false) : swapsWith (.DictComp kx vx gs scope pos) (some (.Name y py)) l env = pure true := by
  have ky : env.kindOf y = some .local := hy
  have hb : env.blockKind = .function := by unfold Env.blockKind; rw [hk]; rfl
  unfold swapsWith
  simp only [hb, ky, ha, Expr.pos, hl]
  rfl
end
/-- what is put by turns -/
def dcf (key : Nat → Nat) (q : Nat → Rat) : Nat → Nat → Rat
  | 0 => fun _ => 0
  | i + 1 => fset (dcf key q i) (key i) (q i)
theorem dcf_seg {s : Nat} : ∀ (l k : Nat), dcf (fun i => s + i) (fun _ => -1) l k = segf s l k
  | 0, k => by
    show (0 : Rat) = segf s 0 k
    have : segf s 0 k = 0 := if_neg (by omega)
    rw [this]
  | l + 1, k => by
    show fset (dcf _ _ l) (s + l) (-1) k = _
    by_cases q : k = s + l
    · rw [q, fset_same]
      have : segf s (l + 1) (s + l) = -1 := if_pos (by omega)
      rw [this]
    · rw [fset_ne q, dcf_seg l k]
      unfold segf
      by_cases c : s ≤ k ∧ k < s + l
      · rw [if_pos c, if_pos (by omega)]
      · rw [if_neg c, if_neg (by omega)]
section
variable {X : Cx} {tg iter kx vx : Expr} {σ : L2.St} {H : Hp} {pos spos : Pos} {D : Ends} {n : Nat} {Y : Nat → Hp → V → Hp → Prop} {g : TG} {scope : Scope} {own : List (Str × Nat)}
/-- name = {k: v for ..} on one line -/
theorem s_dc {i : Nat} {y : Str} {py : Pos} (key : Nat → Nat) (qv : Nat → Rat) (hN : X.N.Nodup) (hI : ES X tg iter σ H n Y) (ok : BlkOk X.N X.env.scope scope own) (hg : ∀ s H C cl fp, PG (CB X scope s H C cl fp) tg g) (hz : n ≤ 1000)
    (hel : ∀ j x H1 H', j < n → Same H H1 → Y j H1 x H' → ∃ σ2, GT g x (wipe σ (own.map (·.2))) H' σ2 ∧ Same H1 H' ∧ wipe σ2 (own.map (·.2)) = wipe σ (own.map (·.2)) ∧ (∀ s H C cl fp, EV (CB X scope s H C cl fp) kx σ2 H' (vI (key j : Int))) ∧ ∀ s H C cl fp, EV (CB X scope s H C cl fp) vx σ2 H' (vQ X.K (qv j)))
    (h : ∀ v H', Same H H' → vDN X.K H n (dcf key qv n) v H' → D.nx (σ.set i (some v)) H') (hy : X.N[i]? = some y := by rfl) (hyl : X.env.scope.names.lookup y = some .local := by rfl)
    (hsw : swapsWith (.DictComp kx vx [⟨tg, iter, [], 0⟩] scope pos) (some (.Name y py)) spos.line X.env = pure true := by exact sw_trueD rfl rfl rfl (by decide +kernel)) (hc : X.calm = true := by rfl) (hs : ∀ x, foldedSetIterable iter X.env x = pure x := by intro _; rfl) :
    WS X (.Assign [.Name y py] (.DictComp kx vx [⟨tg, iter, [], 0⟩] scope pos) spos) D σ H := by
  obtain ⟨wi, p, f⟩ := hI
  refine ws_of (ps_setDc hc hN hy hyl hsw p ok hg (fun _ _ _ _ _ => pts_nil) (tk := fun σ H' Q => ∀ s H C cl fp, WE (CB X scope s H C cl fp) kx σ H' Q) (tv := fun σ H' Q => ∀ s H C cl fp, WE (CB X scope s H C cl fp) vx σ H' Q) (fun s H C cl fp => ⟨fun pins s' σ H' Q I h => h s H C cl fp pins s' I⟩) (fun s H C cl fp => ⟨fun pins s' σ H' Q I h => h s H C cl fp pins s' I⟩) hs) ?_
  refine f H (Same.refl _) _ fun J G H2 e2 wk hG Dd hD => ?_
  have keep : ∀ {H' : Hp} {zs : List (Key × V)}, Same H2 H' → Same H2 (upd H' Dd (.dK zs)) := fun {H' zs} e b o h => by
    rw [upd_ne (ne_of_none h hD)]; exact e b o h
  refine ⟨fun i m H' => m = n - i ∧ i ≤ n ∧ Same H2 H' ∧ ∃ kvs, H' Dd = some (.dK kvs) ∧ RepD X.K H' kvs (dcf key qv i) ∧ kvs.length ≤ i, ⟨n, by simp, Nat.zero_le _, same_new hD, [], upd_same, RepD.nil, Nat.le_refl _⟩, ?_⟩
  rintro j m H3 ⟨rfl, hj, p1, kvs, p3, p4, p5⟩
  by_cases hlt : j < n
  · refine .inr ⟨wk.goes j H3 hlt (hG H3 p1), fun H' => Same H2 H' ∧ ∃ kvs, H' Dd = some (.dK kvs) ∧ RepD X.K H' kvs (dcf key qv (j + 1)) ∧ kvs.length ≤ j + 1, fun H' p' => ⟨n - (j + 1), by omega, rfl, hlt, p'⟩, fun x H4 y => ?_⟩
    obtain ⟨σ2, gt, s4, hw, hk, hv⟩ := hel j x H3 H4 hlt (e2.trans p1) (wk.yields j H3 x H4 hlt (hG H3 p1) y)
    refine gt _ ⟨hw, ?_⟩
    show ∀ s H C cl fp, WE (CB X scope s H C cl fp) kx σ2 H4 _
    intro s5 H5 C cl fp
    refine EV.go (e := kx) (hk s5 H5 C cl fp) fun yk H6 e6 ek => ?_
    cases ek
    show ∀ s H C cl fp, WE (CB X scope s H C cl fp) vx σ2 H6 _
    intro s7 H7 C' cl' fp'
    refine EV.go (e := vx) ((hv s7 H7 C' cl' fp').mono e6) fun z H8 e8 hz' => ?_
    have hD8 : H8 Dd = some (.dK kvs) := e8 _ _ (e6 _ _ (s4 _ _ p3))
    have hm : IsM H8 Dd := .inr ⟨_, hD8⟩
    refine ⟨kvs, .inl (key j : Int), rfl, hD8, Nat.lt_of_lt_of_le (by omega : kvs.length < 1001) (by decide), keep (((p1.trans s4).trans e6).trans e8), _, upd_same, ?_, Nat.le_trans (length_putK _ _ _) (by omega)⟩
    exact (((p4.mono ((s4.trans e6).trans e8)).mut hm).put (mutQ hm hz'))
  · have e : j = n := by omega
    subst e
    exact .inl ⟨wk.stops H3 (hG H3 p1), h _ _ (e2.trans p1) ⟨Dd, kvs, rfl, e2.free hD, p3, p4, p5⟩⟩
/-- a comprehension without tests, its items told with the new list's own place -/
theorem ev_lcD {elt : Expr} (hN : X.N.Nodup) (hI : ES X tg iter σ H n Y) (ok : BlkOk X.N X.env.scope scope own) (hg : ∀ s H C cl fp, PG (CB X scope s H C cl fp) tg g) (hz : n ≤ 100000) (R : Addr → Nat → V → Hp → Prop)
    (hm : ∀ D j v H H', Same H H' → R D j v H → R D j v H') (hf : ∀ D j v H xs ys, H D = some (.lst xs) → R D j v H → R D j v (upd H D (.lst ys)))
    (hel : ∀ D j x H1 H', j < n → Same H H1 → H D = none → (∃ xs, H1 D = some (.lst xs)) → Y j H1 x H' → ∃ σ2, GT g x (wipe σ (own.map (·.2))) H' σ2 ∧ Same H1 H' ∧ wipe σ2 (own.map (·.2)) = wipe σ (own.map (·.2)) ∧ ∀ s H C cl fp, EV (CB X scope s H C cl fp) elt σ2 H' (R D j))
    (hc : X.calm = true := by rfl) (hs : ∀ x, foldedSetIterable iter X.env x = pure x := by intro _; rfl) :
    EV X (.ListComp elt [⟨tg, iter, [], 0⟩] scope pos) σ H (fun v H' => ∃ D ys, v = .ref D ∧ H D = none ∧ H' D = some (.lst ys) ∧ ys.length = n ∧ ∀ j, j < n → ∃ y, ys[j]? = some y ∧ R D j y H') := by
  obtain ⟨wi, p, f⟩ := hI
  exact ev_of (pe_lcW hN p ok hg hc hs) fun H1 e1 Q q => lc_read f hz R hm hf hel e1 fun D ys H2 e2 hD hD2 hl hr => q _ H2 e2 ⟨D, ys, rfl, e1.free hD, hD2, hl, hr⟩
/-- .. on one line -/
theorem s_lcD {elt : Expr} {i : Nat} {y : Str} {py : Pos} (hN : X.N.Nodup) (hI : ES X tg iter σ H n Y) (ok : BlkOk X.N X.env.scope scope own) (hg : ∀ s H C cl fp, PG (CB X scope s H C cl fp) tg g) (hz : n ≤ 100000) (R : Addr → Nat → V → Hp → Prop)
    (hm : ∀ D j v H H', Same H H' → R D j v H → R D j v H') (hf : ∀ D j v H xs ys, H D = some (.lst xs) → R D j v H → R D j v (upd H D (.lst ys)))
    (hel : ∀ D j x H1 H', j < n → Same H H1 → H D = none → (∃ xs, H1 D = some (.lst xs)) → Y j H1 x H' → ∃ σ2, GT g x (wipe σ (own.map (·.2))) H' σ2 ∧ Same H1 H' ∧ wipe σ2 (own.map (·.2)) = wipe σ (own.map (·.2)) ∧ ∀ s H C cl fp, EV (CB X scope s H C cl fp) elt σ2 H' (R D j))
    (h : ∀ D' ys H', Same H H' → H D' = none → H' D' = some (.lst ys) → ys.length = n → (∀ j, j < n → ∃ y, ys[j]? = some y ∧ R D' j y H') → D.nx (σ.set i (some (.ref D'))) H') (hy : X.N[i]? = some y := by rfl) (hyl : X.env.scope.names.lookup y = some .local := by rfl)
    (hsw : swapsWith (.ListComp elt [⟨tg, iter, [], 0⟩] scope pos) (some (.Name y py)) spos.line X.env = pure true := by exact sw_true rfl rfl rfl (by decide +kernel)) (hc : X.calm = true := by rfl) (hs : ∀ x, foldedSetIterable iter X.env x = pure x := by intro _; rfl) :
    WS X (.Assign [.Name y py] (.ListComp elt [⟨tg, iter, [], 0⟩] scope pos) spos) D σ H := by
  obtain ⟨wi, p, f⟩ := hI
  refine ws_of (ps_setLc hc hN hy hyl hsw p ok hg (fun _ _ _ _ _ => pts_nil) (te := fun σ H' Q => ∀ s H C cl fp, WE (CB X scope s H C cl fp) elt σ H' Q) (fun s H C cl fp => ⟨fun pins s' σ H' Q I h => h s H C cl fp pins s' I⟩) hs) ?_
  exact lc_read f hz R hm hf hel (Same.refl _) fun D' ys H2 e2 hD hD2 hl hr => h D' ys H2 e2 hD hD2 hl hr
end
/-! ### what is raised -/
section
variable {X : Cx} {e : Expr} {es : List Expr} {σ : L2.St} {H : Hp} {pos p : Pos} {R : List V → Hp → Prop} {k : Nat} {ps : List Str} {sp : Sp} {x : Str} {D : Ends} {W : WX}
/-- X(), X an own exception class without own __init__ -/
theorem pmk_own0 {C : Addr} {bmB : List Value} {B newId initId : String} (F : ExcBaseFacts B newId initId bmB) (q : PySem.W.excIn X.K C bmB newId = true) (gC : X.mg x = some (.ref C))
    (kC : PySem.W.keepIn X.K (.ref C) = true) (r : Raises X (.ref C)) (hg : Gl X x) (hdb : (x == ("__debug__" : Str)) = false := by decide) : PMk X (.Call (.Name x p) [] [] pos) (fun _ H Q => Q (.ref C) none H) := by
  intro pins s σ H Q I h
  refine wpAny_Call_Name_kw (ld_glob I hg gC ?_ hdb)
  refine PySem.W.callWith_K0 I.kIn kC ?_
  show wpAny _ _ (call (.ref C) []) _ _ _
  obtain ⟨bm, N, nm, qn, bs, hdct, sn, sub, ab, col, dd, k0, k1, k2, k3, k5, mN, hC, hN, hni, T⟩ := exc_obj I.kIn q
  refine wpAny_call_exc_subT F T hC hN hni (fun h' e hm => ?_) (Nat.zero_le _)
  exact mk_of I hm r h (I.hok.gone hm.new)
/-- a call, whatever the answers are -/
theorem we_call (F : Has X.prog X.w X.K X.mg X.base CX0 x k ps sp) (hr : Room k X.A) (ha : EA X (e :: es) σ H R) {Q : VK} (h : ∀ vs H1, Same H H1 → R vs H1 → sp vs H1 Q E0)
    (hg : Gl X x := by rfl) (hdb : (x == ("__debug__" : Str)) = false := by decide) (he : starEach (e :: es) X.env = (false, eval e X.env) :: starEach es X.env := by rfl) (hpl : (backTo pos (starEach es X.env)).any (·.1) = false := by rfl) : WE X (.Call (.Name x p) (e :: es) [] pos) σ H Q := by
  obtain ⟨f, fd, G, hm, hk, hb⟩ := F.ex
  refine we_of (pe_call G hr hg hm hk hb .nil pass0 wa_self hdb he hpl) ?_
  refine ha H (Same.refl _) _ fun vs H1 e1 r => ?_
  rw [List.append_nil]
  exact h vs H1 e1 r
/-- raise X() -/
theorem s_raise0 {C : Addr} {bmB : List Value} {B newId initId : String} {pos2 : Pos} (tk : Takes X W) (F : ExcBaseFacts B newId initId bmB) (q : PySem.W.excIn X.K C bmB newId = true) (gC : X.mg x = some (.ref C)) (kC : PySem.W.keepIn X.K (.ref C) = true) (r : Raises X (.ref C)) (h : W (.ref C) none σ H) (hg : Gl X x := by rfl) (hdb : (x == ("__debug__" : Str)) = false := by decide) (hc : X.calm = true := by rfl) :
    WS X (.Raise (some (.Call (.Name x p) [] [] pos)) none pos2) D σ H := ws_of (ps_raise hc tk (pmk_own0 F q gC kC r hg hdb)) h
/-- a def that may raise -/
structure HasX (P : Program) (w : World) (K : PySem.W.Frag) (mg : Str → Option Value) (base : Heap) (x : Str) (k : Nat) (ps : List Str) (sp : Sp) : Prop where
  ex : ∃ f fd, FnOk P w K mg base (L2.CX P w) k f fd ps sp ∧ mg x = some (.ref f) ∧ PySem.W.keepIn K (.ref f) = true ∧ Binds K fd ps []
theorem we_callX (F : HasX X.prog X.w X.K X.mg X.base x k ps sp) (tk : Takes X W) (hr : Room k X.A) (ha : EA X (e :: es) σ H R) {Q : VK} (h : ∀ vs H1, Same H H1 → R vs H1 → sp vs H1 Q (fun cls d H => ∀ σ, W cls d σ H))
    (hg : Gl X x := by rfl) (hdb : (x == ("__debug__" : Str)) = false := by decide) (he : starEach (e :: es) X.env = (false, eval e X.env) :: starEach es X.env := by rfl) (hpl : (backTo pos (starEach es X.env)).any (·.1) = false := by rfl) : WE X (.Call (.Name x p) (e :: es) [] pos) σ H Q := by
  obtain ⟨f, fd, G, hm, hk, hb⟩ := F.ex
  refine we_of (pe_call G hr hg hm hk hb .nil (fun pins σ' H' s e' s' I c => passes_call tk (E := fun cls d H => ∀ σ, W cls d σ H) (fun cls d σ H h => h σ) pins σ' H' s e' s' I c) wa_self hdb he hpl) ?_
  refine ha H (Same.refl _) _ fun vs H1 e1 r => ?_
  rw [List.append_nil]
  exact h vs H1 e1 r
end
end Dw
set_option Elab.async false
set_option linter.all false
set_option maxRecDepth 100000
set_option maxHeartbeats 4000000
/-! the dam's numbers, and what solved() wants of them -/
namespace Dw
open PySem PySem.Spec PyProof.Rows L2 RZ
structure Lw where
  cap : Nat
  st : Nat
  en : Nat
  inf : List Nat
  loss : Rat
  w : List (List (Nat × Nat))
structure Lw.Ok (l : Lw) : Prop where
  M0 : 0 < l.inf.length
  M4 : l.inf.length ≤ 4
  wl : l.w.length = l.inf.length
  cap : l.cap ≤ 24
  st : l.st ≤ l.cap
  en : l.en ≤ l.cap
  inf : ∀ x ∈ l.inf, x ≤ 11
  loss0 : 0 ≤ l.loss
  loss1 : l.loss < 1
  ld : l.loss.den ≤ 10
  w2 : ∀ p ∈ l.w, p.length ≤ 2
  w9 : ∀ p ∈ l.w, ∀ a ∈ p, 1 ≤ a.1 ∧ a.1 ≤ 9 ∧ 1 ≤ a.2 ∧ a.2 ≤ 9
  desc : ∀ p ∈ l.w, p.Pairwise fun a b => b.2 < a.2
def Lw.ps (l : Lw) (j : Nat) : List (Nat × Nat) := l.w.getD j []
def Lw.d (l : Lw) : Dt where
  M := l.inf.length
  len := fun j => (l.ps j).length
  am := fun q => ((l.w.flatten.getD q (0, 0)).1 : Nat)
  pr := fun q => ((l.w.flatten.getD q (0, 0)).2 : Nat)
  cap := (l.cap : Nat)
  en := (l.en : Nat)
  str := (l.st : Nat)
  kept := 1 - l.loss
  inf := fun j => (l.inf.getD j 0 : Nat)
variable {l : Lw}
theorem getD_of {α : Type} {xs : List α} {i : Nat} {d : α} (h : i < xs.length) : xs[i]? = some (xs.getD i d) := by
  rw [List.getD_eq_getElem?_getD, List.getElem?_eq_getElem h]; rfl
theorem getD_mem {α : Type} {xs : List α} {i : Nat} {d : α} (h : i < xs.length) : xs.getD i d ∈ xs := by
  have := getD_of (d := d) h
  exact List.mem_of_getElem? this
theorem mul_den (q : Rat) : q * (q.den : Rat) = (q.num : Rat) := by
  have e : q = (q.num : Rat) / (((q.den : Nat) : Int) : Rat) := by
    have := Rat.num_divInt_den q
    rw [Rat.divInt_eq_div] at this
    exact this.symm
  have h0 : (((q.den : Nat) : Int) : Rat) ≠ 0 := fun z => den_ne (a := q) (Rat.intCast_eq_zero_iff.mp z)
  have e2 : q * (((q.den : Nat) : Int) : Rat) = (q.num : Rat) := by
    conv => lhs; lhs; rw [e]
    exact Rat.div_mul_cancel h0
  exact e2
namespace Lw
theorem st_flat : ∀ j, j ≤ l.w.length → l.d.st j = (l.w.take j).flatten.length
  | 0, _ => by rw [List.take_zero]; rfl
  | j + 1, h => by
    have e : l.d.st (j + 1) = l.d.st j + (l.ps j).length := rfl
    have h2 : l.w.take (j + 1) = l.w.take j ++ [l.ps j] := by
      rw [List.take_add_one, getD_of (d := []) (by omega : j < l.w.length)]; rfl
    rw [e, st_flat j (by omega), h2, List.flatten_append, List.length_append]
    simp
theorem flat_get {j k : Nat} (hj : j < l.w.length) (hk : k < (l.ps j).length) : l.w.flatten.getD (l.d.st j + k) (0, 0) = (l.ps j).getD k (0, 0) := by
  have h2 : l.w = l.w.take j ++ (l.ps j :: l.w.drop (j + 1)) := by
    have h3 : l.w.drop j = l.ps j :: l.w.drop (j + 1) := by
      rw [List.drop_eq_getElem_cons hj]
      congr 1
      have := getD_of (d := []) hj
      rw [List.getElem?_eq_getElem hj] at this
      exact Option.some.inj this
    rw [← h3, List.take_append_drop]
  have h4 : l.w.flatten = (l.w.take j).flatten ++ (l.ps j ++ (l.w.drop (j + 1)).flatten) := by
    conv => lhs; rw [h2]
    rw [List.flatten_append, List.flatten_cons]
  rw [List.getD_eq_getElem?_getD, List.getD_eq_getElem?_getD, h4, List.getElem?_append_right (by rw [st_flat j (by omega)]; omega), st_flat j (by omega)]
  have : (l.w.take j).flatten.length + k - (l.w.take j).flatten.length = k := by omega
  rw [this, List.getElem?_append_left hk]
theorem am_at {j k : Nat} (hj : j < l.w.length) (hk : k < (l.ps j).length) : l.d.am (l.d.st j + k) = (((l.ps j).getD k (0, 0)).1 : Nat) := by
  show (((l.w.flatten.getD (l.d.st j + k) (0, 0)).1 : Nat) : Rat) = _
  rw [flat_get hj hk]
theorem pr_at {j k : Nat} (hj : j < l.w.length) (hk : k < (l.ps j).length) : l.d.pr (l.d.st j + k) = (((l.ps j).getD k (0, 0)).2 : Nat) := by
  show (((l.w.flatten.getD (l.d.st j + k) (0, 0)).2 : Nat) : Rat) = _
  rw [flat_get hj hk]
theorem nn {n : Nat} : (0 : Rat) ≤ (n : Rat) := by exact_mod_cast Nat.zero_le n
theorem isI_nat {n N : Nat} (h : n ≤ N) : isI N (n : Rat) := ⟨(n : Int), rfl, by simpa using h⟩
theorem isI_int {n : Int} {N : Nat} (h : n.natAbs ≤ N) : isI N (n : Rat) := ⟨n, rfl, h⟩
theorem isI_mono {q : Rat} {N M : Nat} (h : isI N q) (l : N ≤ M) : isI M q := let ⟨z, h1, h2⟩ := h; ⟨z, h1, by omega⟩
theorem sz_of {N : Nat} {q : Rat} {r : Int} (h0 : r ≠ 0) (h1 : r.natAbs ≤ 10) (h : isI N ((r : Rat) * q)) (hN : N < 2 ^ 10) : Sz 10 q := by
  obtain ⟨z, z1, z2⟩ := h
  exact frac_size (z := z) h0 (by omega) (by omega) (by rw [Rat.mul_comm]; exact z1)
theorem isI_sgn {g : Nat → Rat} {j : Nat} : isI 1 (sgn g j) := by
  unfold sgn
  split
  · exact ⟨-1, rfl, by decide⟩
  · exact ⟨1, rfl, by decide⟩
theorem sgn_ne {g : Nat → Rat} {j : Nat} : sgn g j ≠ 0 := by unfold sgn; split <;> grind
section
variable (O : l.Ok)
include O
theorem ps_mem {j : Nat} (hj : j < l.d.M) : l.ps j ∈ l.w := getD_mem (by have := O.wl; show j < l.w.length; rw [this]; exact hj)
theorem kept0 : 0 < l.d.kept := by
  show 0 < 1 - l.loss
  have := O.loss1
  grind
theorem loss_num : 0 ≤ l.loss.num ∧ l.loss.num ≤ (l.loss.den : Int) := by
  have h0 := Rat.num_nonneg.mpr O.loss0
  refine ⟨h0, ?_⟩
  have h1 := O.loss1
  have : l.loss < (1 : Int) := h1
  have h2 : l.loss.num < 1 * (l.loss.den : Int) := by
    have := (Rat.lt_iff l.loss 1).mp h1
    simpa using this
  omega
theorem kept_size : l.d.kept.num.natAbs ≤ 10 ∧ l.d.kept.den ≤ 10 := by
  show (1 - l.loss).num.natAbs ≤ 10 ∧ (1 - l.loss).den ≤ 10
  obtain ⟨n0, n1⟩ := loss_num O
  have hd := O.ld
  have e : (1 - l.loss : Rat) = Rat.divInt ((l.loss.den : Int) - l.loss.num) (l.loss.den : Int) := by
    have := sub_divInt 1 l.loss
    rw [this]
    have e1 : (1 : Rat).num = 1 := rfl
    have e2 : ((1 : Rat).den : Int) = 1 := rfl
    rw [e1, e2]
    simp
  rw [e]
  obtain ⟨x, y⟩ := divInt_size ((l.loss.den : Int) - l.loss.num) (l.loss.den : Int) den_ne
  omega
theorem dok : Dt.Ok l.d where
  M0 := O.M0
  cap0 := nn
  en0 := nn
  str0 := nn
  kept0 := kept0 O
  am0 := fun _ _ _ _ => nn
  pr0 := fun _ _ _ _ => nn
  inf0 := fun _ _ => nn
  desc := fun j hj i k hik hk => by
    have hj' : j < l.w.length := by rw [O.wl]; exact hj
    have hk : k < (l.ps j).length := hk
    rw [pr_at hj' hk, pr_at hj' (by omega)]
    by_cases q : i = k
    · rw [q]; exact Rat.le_refl
    · have := O.desc _ (ps_mem O hj)
      have h := List.pairwise_iff_getElem.mp this i k (by omega) hk (by omega)
      have e1 : (l.ps j).getD k (0, 0) = (l.ps j)[k] := by rw [List.getD_eq_getElem?_getD, List.getElem?_eq_getElem hk]; rfl
      have e2 : (l.ps j).getD i (0, 0) = (l.ps j)[i] := by rw [List.getD_eq_getElem?_getD, List.getElem?_eq_getElem (by omega)]; rfl
      rw [e1, e2]
      exact_mod_cast Nat.le_of_lt h
theorem st_le2 : ∀ j, j ≤ l.d.M → l.d.st j ≤ 2 * j
  | 0, _ => Nat.le_refl _
  | j + 1, h => by
    have e : l.d.st (j + 1) = l.d.st j + (l.ps j).length := rfl
    have := O.w2 _ (ps_mem O (j := j) (by omega))
    have := st_le2 j (by omega)
    omega
theorem cnt8 : l.d.cnt ≤ 8 := by
  have := st_le2 O l.d.M (Nat.le_refl _)
  have h4 : l.d.M ≤ 4 := O.M4
  show l.d.st l.d.M ≤ 8
  omega
theorem e1 : l.d.e ≤ 1 := by unfold Dt.e; split <;> omega
theorem rows17 : l.d.rows ≤ 17 := by
  have := cnt8 O
  have h4 : l.d.M ≤ 4 := O.M4
  have := e1 O
  unfold Dt.rows; omega
theorem cols29 : l.d.cols ≤ 29 := by
  have := cnt8 O
  have h4 : l.d.M ≤ 4 := O.M4
  have := e1 O
  unfold Dt.cols; omega
theorem A_val (j k : Nat) : l.d.A j k = 0 ∨ l.d.A j k = 1 ∨ l.d.A j k = -1 ∨ (j < l.d.M ∧ l.d.A j k = l.d.kept) := by
  have tw : ∀ (i q k : Nat) (v : Rat), v = 1 ∨ v = -1 → two i q v k = 0 ∨ two i q v k = 1 ∨ two i q v k = -1 := fun i q k v hv => by
    unfold two fset
    split
    · rcases hv with h | h
      · exact .inr (.inl h)
      · exact .inr (.inr h)
    · split
      · exact .inr (.inl rfl)
      · exact .inl rfl
  unfold Dt.A
  split
  · rename_i h
    have r2 : l.d.row2 j k = 0 ∨ l.d.row2 j k = -1 := by
      unfold Dt.row2 fset segf
      split
      · exact .inr rfl
      · split
        · exact .inr rfl
        · split
          · exact .inr rfl
          · exact .inl rfl
    unfold Dt.rowM
    split
    · unfold fset
      split
      · exact .inr (.inr (.inr ⟨h, rfl⟩))
      · rcases r2 with r | r
        · exact .inl r
        · exact .inr (.inr (.inl r))
    · rcases r2 with r | r
      · exact .inl r
      · exact .inr (.inr (.inl r))
  · split
    · rcases tw (l.d.mcf l.d.M (j - l.d.M)) (l.d.cnt + l.d.M + j) k 1 (.inl rfl) with h | h | h
      · exact .inl h
      · exact .inr (.inl h)
      · exact .inr (.inr (.inl h))
    · rcases tw (l.d.cnt + 2 * l.d.M - 1) (l.d.cnt + l.d.M + j) k (-1) (.inr rfl) with h | h | h
      · exact .inl h
      · exact .inr (.inl h)
      · exact .inr (.inr (.inl h))
/-- what makes the rows whole numbers -/
def rr (l : Lw) (j : Nat) : Int := if j < l.d.M then (l.d.kept.den : Int) else if j < l.d.M + (l.d.cnt + l.d.M) then 1 else l.d.kept.num
theorem rr_ne (j : Nat) : rr l j ≠ 0 ∧ (rr l j).natAbs ≤ 10 := by
  obtain ⟨h1, h2⟩ := kept_size O
  have h3 : l.d.kept.num ≠ 0 := num_ne (by have := kept0 O; grind)
  have h4 := l.d.kept.den_nz
  unfold rr
  split
  · omega
  · split <;> omega
theorem rA (j k : Nat) : isI 10 ((rr l j : Rat) * l.d.A j k) := by
  obtain ⟨h0, h1⟩ := rr_ne O j
  rcases A_val O j k with h | h | h | ⟨hj, h⟩
  · rw [h, Rat.mul_zero]; exact ⟨0, rfl, by decide⟩
  · rw [h, Rat.mul_one]; exact isI_int h1
  · rw [h]
    refine ⟨- rr l j, by rw [Rat.intCast_neg, Rat.mul_neg, Rat.mul_one], by rw [Int.natAbs_neg]; exact h1⟩
  · have : rr l j = (l.d.kept.den : Int) := if_pos hj
    rw [h, this]
    refine ⟨l.d.kept.num, ?_, (kept_size O).1⟩
    have := mul_den l.d.kept
    rw [Rat.mul_comm]
    exact this
theorem rg {j : Nat} (hj : j < l.d.rows) : isI 350 ((rr l j : Rat) * l.d.g j) := by
  obtain ⟨k1, k2⟩ := kept_size O
  have hcap := O.cap
  rcases Dt.rows_cases hj with h | ⟨i, hi, rfl⟩ | ⟨h, rfl⟩
  · have e : rr l j = (l.d.kept.den : Int) := if_pos h
    rw [Dt.gM h, e]
    have h1 : l.inf.getD j 0 ≤ 11 := O.inf _ (getD_mem h)
    have h2 := O.st
    refine isI_mono (isI_mul (a := 10) (b := 35) (isI_int (by omega)) ?_) (by decide)
    refine ⟨- ((l.inf.getD j 0 : Nat) : Int) - (if j = 0 then ((l.st : Nat) : Int) else 0), ?_, ?_⟩
    · show - ((l.inf.getD j 0 : Nat) : Rat) - (if j = 0 then ((l.st : Nat) : Rat) else 0) = _
      split
      · rw [Rat.intCast_sub, Rat.intCast_neg]; rfl
      · rw [Rat.intCast_sub, Rat.intCast_neg]; rfl
    · split <;> omega
  · have e : rr l (l.d.M + i) = 1 := by
      unfold rr
      rw [if_neg (by omega), if_pos (by omega)]
    rw [Dt.gS hi, e]
    refine isI_mono (isI_mul (a := 1) (b := 24) (isI_int (by decide)) ?_) (by decide)
    rcases Dt.dec (d := l.d) l.d.M i hi with ⟨m, k, h1, h2, h3, h4, h5⟩ | ⟨m, h1, h2, h3, h4⟩
    · have hm : m < l.w.length := by rw [O.wl]; exact h1
      rw [h5, am_at hm h2]
      have := O.w9 _ (ps_mem O h1) _ (getD_mem (d := (0, 0)) h2)
      exact isI_nat (by omega)
    · rw [h4]; exact isI_nat hcap
  · have e : rr l (l.d.M + (l.d.cnt + l.d.M)) = l.d.kept.num := by
      unfold rr
      rw [if_neg (by omega), if_neg (by omega)]
    rw [Dt.gE, e]
    have h2 := O.en
    refine isI_mono (N := 240) ⟨(l.en : Int) * (l.d.kept.den : Int), ?_, ?_⟩ (by decide)
    · have h3 := mul_den l.d.kept
      have h4 : l.d.kept ≠ 0 := by have := kept0 O; grind
      show (l.d.kept.num : Rat) * (((l.en : Nat) : Rat) / l.d.kept) = _
      rw [← h3, Rat.intCast_mul]
      have h5 : l.d.kept * (((l.en : Nat) : Rat) / l.d.kept) = ((l.en : Nat) : Rat) := Dt.mul_div_k (kept0 O)
      have h6 : (((l.d.kept.den : Int)) : Rat) = ((l.d.kept.den : Nat) : Rat) := rfl
      have h7 : (((l.en : Int)) : Rat) = ((l.en : Nat) : Rat) := rfl
      rw [h6, h7]
      calc l.d.kept * (l.d.kept.den : Rat) * ((l.en : Rat) / l.d.kept) = (l.d.kept * ((l.en : Rat) / l.d.kept)) * (l.d.kept.den : Rat) := by grind
        _ = _ := by rw [h5]
    · rw [Int.natAbs_mul, Int.natAbs_natCast, Int.natAbs_natCast]
      have := Nat.mul_le_mul (by omega : l.en ≤ 24) k2
      omega
theorem rt {j k : Nat} (hj : j < l.d.rows) : isI 350 ((rr l j : Rat) * tab0 l.d.rows l.d.cols l.d.A l.d.g j k) := by
  unfold tab0
  split
  · rw [← Rat.mul_assoc]
    exact isI_mono (isI_mul (rA O j k) (isI_sgn)) (by decide)
  · split
    · split
      · rw [Rat.mul_one]; exact isI_mono (isI_int (rr_ne O j).2) (by decide)
      · rw [Rat.mul_zero]; exact ⟨0, rfl, by decide⟩
    · rw [← Rat.mul_assoc]
      exact isI_mono (isI_mul (rg O hj) (isI_sgn)) (by decide)
def own (l : Lw) (j : Nat) : Nat := if j < l.d.M then l.d.cnt + j else l.d.cnt + 2 * l.d.M + (j - l.d.M)
theorem db : ∀ m, m ≤ 17 → dbound 350 m < 2 ^ 236 := by decide +kernel
theorem lp : Lp l.d.rows l.d.cols l.d.A l.d.g l.d.c (fun j => (rr l j : Rat)) (own l) where
  m1 := by have : 0 < l.d.M := O.M0; unfold Dt.rows; omega
  m17 := rows17 O
  n40 := by have := cols29 O; omega
  za := fun j hj k _ => (sz_of (rr_ne O j).1 (rr_ne O j).2 (rA O j k) (by decide)).mono (by decide)
  zg := fun j hj => (sz_of (rr_ne O j).1 (rr_ne O j).2 (rg O hj) (by decide)).mono (by decide)
  zc := fun k _ => by
    show Sz bC (if k < l.d.cnt then l.d.pr k else 0)
    split
    · refine Sz.int (i := ((l.w.flatten.getD k (0, 0)).2 : Int)) ?_ (by decide)
      have h : (l.w.flatten.getD k (0, 0)).2 ≤ 9 := by
        by_cases q : k < l.w.flatten.length
        · obtain ⟨p, hp, ha⟩ := List.mem_flatten.mp (getD_mem (d := (0, 0)) q)
          exact (O.w9 p hp _ ha).2.2.2
        · rw [List.getD_eq_getElem?_getD, List.getElem?_eq_none (by omega)]; exact Nat.zero_le _
      have e : (((l.w.flatten.getD k (0, 0)).2 : Nat) : Int).natAbs = (l.w.flatten.getD k (0, 0)).2 := Int.natAbs_natCast _
      rw [e]
      exact Nat.lt_of_le_of_lt h (by decide)
    · exact sz0 (by decide)
  ic := fun k _ => by
    show isI (2 ^ 12) (if k < l.d.cnt then l.d.pr k else 0)
    split
    · refine isI_nat ?_
      by_cases q : k < l.w.flatten.length
      · obtain ⟨p, hp, ha⟩ := List.mem_flatten.mp (getD_mem (d := (0, 0)) q)
        exact Nat.le_trans (O.w9 p hp _ ha).2.2.2 (by decide)
      · rw [List.getD_eq_getElem?_getD, List.getElem?_eq_none (by omega)]; exact Nat.zero_le _
    · exact ⟨0, rfl, by decide⟩
  sys := ⟨⟨350, fun q hq k _ => rt O hq, db O _ (rows17 O)⟩, rows17 O, by have := cols29 O; omega⟩
  rz := fun j _ => by
    have := (rr_ne O j).1
    intro z
    exact this (Rat.intCast_eq_zero_iff.mp z)
  own := by
    have hlt : ∀ j, j < l.d.rows → own l j < l.d.cols := fun j hj => by
      unfold Dt.rows at hj
      unfold own Dt.cols
      split <;> omega
    refine ⟨hlt, fun j hj => ?_, fun j hj q hq hne => ?_⟩
    · rw [tab0_lo (hlt j hj)]
      have : l.d.A j (own l j) ≠ 0 := by
        unfold own
        by_cases h : j < l.d.M
        · rw [if_pos h, Dt.colW h hj, if_pos rfl]; grind
        · rw [if_neg h]
          have e : j = l.d.M + (j - l.d.M) := by omega
          have := (Dt.colS (d := l.d) (i := j - l.d.M) (by omega) hj).2
          rw [← e] at this; exact this
      intro z
      rcases Rat.mul_eq_zero.mp z with z | z
      · exact this z
      · exact sgn_ne z
    · rw [tab0_lo (hlt j hj)]
      have : l.d.A q (own l j) = 0 := by
        unfold own
        by_cases h : j < l.d.M
        · rw [if_pos h, Dt.colW h hq, if_neg hne]
        · rw [if_neg h]
          exact (Dt.colS (d := l.d) (i := j - l.d.M) (by omega) hq).1 (by omega)
      rw [this, Rat.zero_mul]
  lpb := Dt.lpb O.M0
end
end Lw
end Dw
set_option Elab.async false
set_option linter.all false
set_option maxRecDepth 100000
set_option maxHeartbeats 4000000
set_option pp.maxSteps 300
/-! program_of -/
namespace Dw
open PySem PySem.Spec PyProof.Rows L2 RZ
theorem Lw.szl {l : Lw} (O : l.Ok) : Sz 4 l.loss := by
  have := Lw.loss_num O
  have := O.ld
  exact ⟨by omega, by omega⟩
/-- a tuple of such things -/
def vTl {α : Type} (K : PySem.W.Frag) (R : α → V → Hp → Prop) (xs : List α) : V → Hp → Prop := fun v H => ∃ p vs, v = .ref p ∧ SqT K H p vs ∧ vs.length = xs.length ∧ ∀ (i : Nat) (x : α), xs[i]? = some x → ∃ u, vs[i]? = some u ∧ R x u H
instance {α : Type} {K : PySem.W.Frag} {R : α → V → Hp → Prop} {xs : List α} [∀ x, Stb (R x)] : Stb (vTl K R xs) := ⟨fun e ⟨p, vs, h1, h2, h3, h4⟩ => ⟨p, vs, h1, sameT e h2, h3, fun i x hx => let ⟨u, q1, q2⟩ := h4 i x hx; ⟨u, q1, Stb.mono e q2⟩⟩⟩
abbrev vPr (K : PySem.W.Frag) (a : Nat × Nat) : V → Hp → Prop := vT K [.int (a.1 : Int), .int (a.2 : Int)]
abbrev vPs (K : PySem.W.Frag) (ps : List (Nat × Nat)) : V → Hp → Prop := vTl K (vPr K) ps
abbrev vWs (K : PySem.W.Frag) (w : List (List (Nat × Nat))) : V → Hp → Prop := vTl K (vPs K) w
def vDam (K : PySem.W.Frag) (l : Lw) : V → Hp → Prop := fun v H => ∃ p ip, v = .ref p ∧ SqT K H p [.int (l.cap : Int), .int (l.st : Int), .int (l.en : Int), .ref ip] ∧ SqT K H ip (l.inf.map fun n : Nat => V.int (n : Int))
instance {K : PySem.W.Frag} {l : Lw} : Stb (vDam K l) := ⟨fun e ⟨p, ip, h1, h2, h3⟩ => ⟨p, ip, h1, sameT e h2, sameT e h3⟩⟩
section
variable {X : Cx} {a b : Expr} {σ : L2.St} {H : Hp} {pos p : Pos} {α : Type} {R : α → V → Hp → Prop} {xs : List α}
theorem ev_tl [∀ x, Stb (R x)] {j : Nat} {x : α} (ha : EV X a σ H (vTl X.K R xs)) (hb : EV X b σ H (vI (j : Int))) (hx : xs[j]? = some x) (hs : PlainIx b := by exact fun _ _ => rfl) : EV X (.Subscript a b pos) σ H (R x) :=
  ev_of (pe_ix ix_tup we_self we_self hs) fun H1 e1 Q q => ha H1 e1 _ fun v H2 e2 ⟨p, vs, ev, hp, _, h⟩ => hb H2 (e1.trans e2) _ fun y H3 e3 ey => by
    obtain ⟨u, q1, q2⟩ := h j x hx
    exact ⟨p, vs, j, u, ev, ey, sameT e3 hp, atI_nat q1, q u H3 (e2.trans e3) (Stb.mono e3 q2)⟩
theorem ev_lenTl (hm : X.mg "len" = none) (ha : EV X a σ H (vTl X.K R xs)) (hg : Gl X "len" := by rfl) (hs : starEach [a] X.env = (false, eval a X.env) :: starEach [] X.env := by rfl) : EV X (.Call (.Name "len" p) [a] [] pos) σ H (vI (xs.length : Int)) :=
  ev_bltn call_len_seq hm (ea_one ha hs) (fun vs H1 e1 ⟨v, ev, q, us, eq, hq, hl, _⟩ Q k => ⟨q, us, by rw [ev, eq], .inr hq, k _ H1 (Same.refl _) (by rw [hl]; rfl)⟩) PySem.boot_len hg (by decide) (by decide) hs
end
/-- a new list -/
def vNew (H : Hp) : V → Hp → Prop := fun v H' => ∃ p, v = .ref p ∧ H p = none ∧ H' p = some (.lst [])
instance {H : Hp} : Stb (vNew H) := ⟨fun e ⟨p, h1, h2, h3⟩ => ⟨p, h1, h2, e _ _ h3⟩⟩
theorem ev_new {X : Cx} {σ : L2.St} {H : Hp} {pos : Pos} : EV X (.List [] pos) σ H (vNew H) := (ev_lst (n := 0) ea_nil fun vs H e => by rw [e]; exact Nat.le_refl 0).imp fun v H' _ ⟨q, vs, H1, e1, h0, e2, e3, e4⟩ => ⟨q, e1, h0, by rw [e2, e4]⟩
theorem ev_qi {X : Cx} {σ : L2.St} {H : Hp} {a : Expr} {pos p2 : Pos} {x1 j} {q : Rat} {z : Int} (ha : EV X a σ H (vI z)) (e : q = (z : Rat)) (hs : starEach [a, .Constant (.int 1) j p2] X.env = (false, eval a X.env) :: starEach [.Constant (.int 1) j p2] X.env := by rfl) (hs2 : starEach [.Constant (.int 1) j p2] X.env = (false, eval (.Constant (.int 1) j p2) X.env) :: starEach [] X.env := by rfl) : EV X (.Tuple [a, .Constant (.int 1) j p2] x1 pos) σ H (vQ X.K q) := by
  subst e
  exact ev_q (q := (z : Rat)) ha ev_i rfl rfl hs hs2
section
variable {K : PySem.W.Frag} {l : Lw}
/-- the parts of the program under way -/
structure PSt (K : PySem.W.Frag) (l : Lw) (H : Hp) (sA rA gA cA : Addr) (nr ng nc : Nat) (c : Nat → Rat) (H' : Hp) : Prop where
  same : Same H H'
  fs : H sA = none
  fr : H rA = none
  fg : H gA = none
  fc : H cA = none
  st : H' sA = some (.lst ((List.range l.d.M).map fun j => V.int (l.d.st j : Int)))
  ne1 : sA ≠ rA
  ne2 : sA ≠ gA
  ne3 : rA ≠ gA
  rows : ∃ rs, H' rA = some (.lst rs) ∧ rs.length = nr ∧ ∀ j, j < nr → ∃ a kv, rs[j]? = some (.ref a) ∧ a ≠ cA ∧ H' a = some (.dK kv) ∧ RepD K H' kv (l.d.A j)
  goals : ∃ gs, H' gA = some (.lst gs) ∧ vsQ K H' gs ng l.d.g
  costs : ∃ kv, H' cA = some (.dK kv) ∧ RepD K H' kv c ∧ kv.length ≤ nc
variable {H H' H'' : Hp} {sA rA gA cA : Addr} {nr ng nc : Nat} {c : Nat → Rat}
theorem PSt.mono (h : PSt K l H sA rA gA cA nr ng nc c H') (e : Same H' H'') : PSt K l H sA rA gA cA nr ng nc c H'' where
  same := h.same.trans e
  fs := h.fs
  fr := h.fr
  fg := h.fg
  fc := h.fc
  st := e _ _ h.st
  ne1 := h.ne1
  ne2 := h.ne2
  ne3 := h.ne3
  rows := let ⟨rs, h1, h2, h3⟩ := h.rows; ⟨rs, e _ _ h1, h2, fun j hj => let ⟨a, kv, q1, q2, q3, q4⟩ := h3 j hj; ⟨a, kv, q1, q2, e _ _ q3, q4.mono e⟩⟩
  goals := let ⟨gs, h1, h2⟩ := h.goals; ⟨gs, e _ _ h1, h2.mono e⟩
  costs := let ⟨kv, h1, h2, h3⟩ := h.costs; ⟨kv, e _ _ h1, h2.mono e, h3⟩
theorem upd_new {a : Addr} {o : HO} (e : Same H H') (h : H a = none) : Same H (upd H' a o) := fun b u hb => by
  rw [upd_ne (ne_of_none hb h)]; exact e b u hb
theorem ld_ne {a b : Addr} {xs : List V} {kv : List (Key × V)} (h1 : H a = some (.lst xs)) (h2 : H b = some (.dK kv)) : a ≠ b := fun z => by rw [z, h2] at h1; cases h1
theorem PSt.row (h : PSt K l H sA rA gA cA nr ng nc c H') {rs : List V} (hr : H' rA = some (.lst rs)) {a : Addr} {kv : List (Key × V)} (ha : H' a = some (.dK kv)) (hc : a ≠ cA) (hk : RepD K H' kv (l.d.A nr)) : PSt K l H sA rA gA cA (nr + 1) ng nc c (upd H' rA (.lst (rs ++ [.ref a]))) := by
  have hm : IsM H' rA := .inl ⟨_, hr⟩
  obtain ⟨rs', h1, h2, h3⟩ := h.rows
  obtain ⟨gs, g1, g2⟩ := h.goals
  obtain ⟨kc, c1, c2, c3⟩ := h.costs
  obtain rfl : rs = rs' := by rw [h1] at hr; injection hr with hr; injection hr with hr; exact hr.symm
  refine ⟨upd_new h.same h.fr, h.fs, h.fr, h.fg, h.fc, by rw [upd_ne h.ne1]; exact h.st, h.ne1, h.ne2, h.ne3, ⟨_, upd_same, by rw [List.length_append, h2]; rfl, fun j hj => ?_⟩, ⟨gs, by rw [upd_ne (Ne.symm h.ne3)]; exact g1, mutV hm g2⟩, ⟨kc, by rw [upd_ne (Ne.symm (ld_ne h1 c1))]; exact c1, c2.mut hm, c3⟩⟩
  by_cases q : j < nr
  · obtain ⟨b, kb, q1, q2, q3, q4⟩ := h3 j q
    exact ⟨b, kb, by rw [List.getElem?_append_left (by omega)]; exact q1, q2, by rw [upd_ne (Ne.symm (ld_ne h1 q3))]; exact q3, q4.mut hm⟩
  · have : j = nr := by omega
    subst this
    exact ⟨a, kv, by rw [List.getElem?_append_right (by omega), h2]; simp, hc, by rw [upd_ne (Ne.symm (ld_ne h1 ha))]; exact ha, hk.mut hm⟩
theorem PSt.goal (h : PSt K l H sA rA gA cA nr ng nc c H') {gs : List V} (hr : H' gA = some (.lst gs)) {v : V} (hv : vQ K (l.d.g ng) v H') : PSt K l H sA rA gA cA nr (ng + 1) nc c (upd H' gA (.lst (gs ++ [v]))) := by
  have hm : IsM H' gA := .inl ⟨_, hr⟩
  obtain ⟨rs, h1, h2, h3⟩ := h.rows
  obtain ⟨gs', g1, g2⟩ := h.goals
  obtain ⟨kc, c1, c2, c3⟩ := h.costs
  obtain rfl : gs = gs' := by rw [g1] at hr; injection hr with hr; injection hr with hr; exact hr.symm
  refine ⟨upd_new h.same h.fg, h.fs, h.fr, h.fg, h.fc, by rw [upd_ne h.ne2]; exact h.st, h.ne1, h.ne2, h.ne3, ⟨rs, by rw [upd_ne h.ne3]; exact h1, h2, fun j hj => ?_⟩, ⟨_, upd_same, ?_⟩, ⟨kc, by rw [upd_ne (Ne.symm (ld_ne g1 c1))]; exact c1, c2.mut hm, c3⟩⟩
  · obtain ⟨b, kb, q1, q2, q3, q4⟩ := h3 j hj
    exact ⟨b, kb, q1, q2, by rw [upd_ne (Ne.symm (ld_ne g1 q3))]; exact q3, q4.mut hm⟩
  · refine ⟨by rw [List.length_append, g2.1]; rfl, fun i hi => ?_⟩
    by_cases q : i < ng
    · obtain ⟨x, q1, q2⟩ := g2.2 i q
      exact ⟨x, by rw [List.getElem?_append_left (by rw [g2.1]; exact q)]; exact q1, mutQ hm q2⟩
    · have : i = ng := by omega
      subst this
      exact ⟨v, by rw [List.getElem?_append_right (by rw [g2.1]; exact Nat.le_refl _), g2.1]; simp, mutQ hm hv⟩
theorem PSt.cost (h : PSt K l H sA rA gA cA nr ng nc c H') {kv : List (Key × V)} (hr : H' cA = some (.dK kv)) {i : Nat} {q : Rat} {v : V} (hv : vQ K q v H') : PSt K l H sA rA gA cA nr ng (nc + 1) (fset c i q) (upd H' cA (.dK (putK kv (.inl (i : Int)) v))) := by
  have hm : IsM H' cA := .inr ⟨_, hr⟩
  obtain ⟨rs, h1, h2, h3⟩ := h.rows
  obtain ⟨gs, g1, g2⟩ := h.goals
  obtain ⟨kc, c1, c2, c3⟩ := h.costs
  obtain rfl : kv = kc := by rw [c1] at hr; injection hr with hr; injection hr with hr; exact hr.symm
  refine ⟨upd_new h.same h.fc, h.fs, h.fr, h.fg, h.fc, by rw [upd_ne (ld_ne h.st c1)]; exact h.st, h.ne1, h.ne2, h.ne3, ⟨rs, by rw [upd_ne (ld_ne h1 c1)]; exact h1, h2, fun j hj => ?_⟩, ⟨gs, by rw [upd_ne (ld_ne g1 c1)]; exact g1, mutV hm g2⟩, ⟨_, upd_same, (c2.mut hm).put (mutQ hm hv), Nat.le_trans (length_putK _ _ _) (by omega)⟩⟩
  obtain ⟨b, kb, q1, q2, q3, q4⟩ := h3 j hj
  exact ⟨b, kb, q1, q2, by rw [upd_ne q2]; exact q3, q4.mut hm⟩
theorem PSt.costs_congr {c' : Nat → Rat} (h : PSt K l H sA rA gA cA nr ng nc c H') (e : ∀ k, c k = c' k) : PSt K l H sA rA gA cA nr ng nc c' H' := { h with costs := let ⟨kc, c1, c2, c3⟩ := h.costs; ⟨kc, c1, c2.congr e, c3⟩ }
theorem PSt.stix (h : PSt K l H sA rA gA cA nr ng nc c H') {j : Nat} (hj : j < l.d.M) : ((List.range l.d.M).map fun j => V.int (l.d.st j : Int))[j]? = some (.int (l.d.st j : Int)) := by
  rw [List.getElem?_map, List.getElem?_range hj]; rfl
end
theorem Dt.A_S {d : Dt} {i : Nat} (h : i < d.cnt + d.M) : d.A (d.M + i) = two (d.mcf d.M i) (d.cnt + 2 * d.M + i) 1 := by
  unfold Dt.A
  rw [if_neg (by omega), if_pos (by omega)]
  have : d.M + i - d.M = i := by omega
  rw [this]
  congr 1
  omega
theorem Dt.A_E {d : Dt} : d.A (d.M + (d.cnt + d.M)) = two (d.cnt + 2 * d.M - 1) (d.cnt + 2 * d.M + (d.cnt + d.M)) (-1) := by
  unfold Dt.A
  rw [if_neg (by omega), if_neg (by omega)]
  congr 1
  omega
/-- the costs of the pieces below q -/
def cpart (d : Dt) (q k : Nat) : Rat := if k < q then d.pr k else 0
theorem cpart_succ {d : Dt} (q k : Nat) : fset (cpart d q) q (d.pr q) k = cpart d (q + 1) k := by
  show (if k = q then d.pr q else if k < q then d.pr k else 0) = if k < q + 1 then d.pr k else 0
  by_cases h : k = q
  · rw [if_pos h, if_pos (by omega), h]
  · rw [if_neg h]
    by_cases h2 : k < q
    · rw [if_pos h2, if_pos (by omega)]
    · rw [if_neg h2, if_neg (by omega)]
section
variable {P : Program} {w : World} {K : PySem.W.Frag} {mg : Str → Option Value} {base : Heap} {C NP : Addr}
/-- what was found -/
def vFound (K : PySem.W.Frag) (l : Lw) (x y : Nat → Rat) : V → Hp → Prop := fun v H => ∃ sa fa, vT K [sa, .int (l.d.cnt : Int), fa] v H ∧ vL K ((List.range l.d.M).map fun j => V.int (l.d.st j : Int)) sa H ∧ vBest K l.d.rows l.d.cols x y fa H
structure Best3 (l : Lw) (x y : Nat → Rat) : Prop where
  f : LPF l.d.rows l.d.cols l.d.A l.d.g x
  d : LPD l.d.rows l.d.cols l.d.A l.d.c y
  e : (S l.d.cols fun k => l.d.c k * x k) = S l.d.rows fun j => y j * l.d.g j
  fine : Fine l.d.rows l.d.cols x y
def NoX (l : Lw) : Prop := ∀ x, ¬ LPF l.d.rows l.d.cols l.d.A l.d.g x
/-- a def of a dam, a loss and worths that may find no plan -/
def spX (K : PySem.W.Frag) (NP : Addr) (R : Lw → (Nat → Rat) → (Nat → Rat) → V → Hp → Prop) : Sp := fun vs H Q E => ∃ (l : Lw) (vd vl vw : V), vs = [vd, vl, vw] ∧ vDam K l vd H ∧ vQ K l.loss vl H ∧ vWs K l.w vw H ∧ l.Ok ∧
  (∀ H', NoX l → Same H H' → E (.ref NP) none H') ∧ (∀ x y v H', Best3 l x y → Same H H' → R l x y v H' → Q v H')
abbrev sProg : Stmt := top 43
abbrev nProg : List Str := ["dam", "loss", "worths", "capacity", "start", "end", "inflows", "many", "kept", "starts", "count", "pieces", "rows", "goals", "costs", "size", "month", "inflow", "row", "k", "amount", "price", "table", "found"]
theorem scProg : FnScope nProg ["dam", "loss", "worths"] (defScope sProg) := ⟨rfl, rfl, rfl, by decide +kernel, rfl, by decide +kernel, by decide +kernel⟩
/-- the scope of the table's comprehension -/
abbrev scTab : Scope := { kind := .function, names := [(Str.ofString ".0", .local), (Str.ofString "row", .cell), (Str.ofString "range", .globalImplicit), (Str.ofString "size", .cell)], isGenerator := false, isCoroutine := false }
abbrev scTab2 : Scope := { kind := .function, names := [(Str.ofString ".0", .local), (Str.ofString "k", .local), (Str.ofString "row", .free)], isGenerator := false, isCoroutine := false }
theorem okTab : BlkOk nProg scTab scTab2 [("k", 19)] := blkOk_by (by decide +kernel)
/-- what the top holds of the error -/
structure TxN (K : PySem.W.Frag) (mg : Str → Option Value) (NP : Addr) : Prop where
  bm : ∃ bmB B newId initId, ExcBaseFacts B newId initId bmB ∧ PySem.W.excIn K NP bmB newId = true
  mgN : mg "NoPlan" = some (.ref NP)
  kp : PySem.W.keepIn K (.ref NP) = true
  sub : PySem.W.subIn K (.ref NP) (.type "BaseException") = some true
  ty : PySem.W.typeIn K (.ref NP) = some (.type "type")
abbrev HasK (P : Program) (w : World) (K : PySem.W.Frag) (mg : Str → Option Value) (base : Heap) : Prop := Has P w K mg base CX0 "kept_of" 3 ["loss"] (sp1 K (Sz L) fun a => vQ K (1 - a))
abbrev HasSo (P : Program) (w : World) (K : PySem.W.Frag) (mg : Str → Option Value) (base : Heap) : Prop := Has P w K mg base CX0 "solved" 7 ["rows", "goals", "costs"] (spSolved K)
theorem ok_prog {f : Addr} {fd : FuncData} (F : Fun K "program_of" "program_of" sProg f fd) (T : TxP K mg C) (N : TxN K mg NP) (hQ : HasQ P w K mg base) (hK : HasK P w K mg base) (hS : HasSo P w K mg base) : FnOk P w K mg base (L2.CX P w) 8 f fd ["dam", "loss", "worths"] (spX K NP (vFound K)) := by
  refine F.okX scProg (fun vs H Q E h => ?_) (fun cdv A0 outer s H vs Q E hr h => ⟨_, wss_self, ?_⟩)
  · obtain ⟨l, vd, vl, vw, rfl, _⟩ := h; rfl
  obtain ⟨l, vd, vl, vw, rfl, ⟨dp, ip, rfl, hdp, hip⟩, hl, hw, O, kN, kB⟩ := h
  have nd := scProg.nd
  have hM4 : l.d.M ≤ 4 := O.M4
  have hc8 := Lw.cnt8 O
  have hwl : l.w.length = l.d.M := O.wl
  obtain ⟨wp, ws, rfl, hwp, hwsl, hws⟩ := id hw
  have hwat : ∀ j, j < l.d.M → ∃ b ps, ws[j]? = some (.ref b) ∧ l.w[j]? = some (l.ps j) ∧ SqT K H b ps ∧ ps.length = (l.ps j).length ∧ ∀ k, k < (l.ps j).length → ∃ c, ps[k]? = some (.ref c) ∧ SqT K H c [.int (((l.ps j).getD k (0, 0)).1 : Int), .int (((l.ps j).getD k (0, 0)).2 : Int)] := fun j hj => by
    have h1 : l.w[j]? = some (l.ps j) := getD_of (by omega)
    obtain ⟨u, q1, b, ps, rfl, q3, q4, q5⟩ := hws j _ h1
    refine ⟨b, ps, q1, h1, q3, q4, fun k hk => ?_⟩
    obtain ⟨u, r1, c, rfl, r2⟩ := q5 k _ (getD_of (d := (0, 0)) hk)
    exact ⟨c, r1, r2⟩
  -- capacity, start, end, inflows = dam
  refine ss_cons (s_asg (g := g4 K 3 4 5 6) (ev_v 0 (P := vE (.ref dp)) rfl) (pg_tup rfl (pgs_cons (pg_name (i := 3) nd rfl (Or.inl rfl)) (pgs_cons (pg_name (i := 4) nd rfl (Or.inl rfl)) (pgs_cons (pg_name (i := 5) nd rfl (Or.inl rfl)) (pgs_cons (pg_name (i := 6) nd rfl (Or.inl rfl)) pgs_nil))))) ?_)
  rintro v H1 e1 ev
  cases ev
  refine ⟨_, gt_four (sameT e1 hdp), ?_⟩
  -- many, kept, starts, count = ..
  refine ss_cons (s_asg (g := g4 K 7 8 9 10) (P := fun v H' => ∃ p x7 x8 sA, v = .ref p ∧ SqT K H' p [x7, x8, .ref sA, .int 0] ∧ x7 = .int (l.d.M : Int) ∧ vQ K (1 - l.loss) x8 H' ∧ H1 sA = none ∧ H' sA = some (.lst []))
    ((ev_tup (n := 4) (ea_cons (P := vI ((l.inf.map fun n : Nat => V.int (n : Int)).length : Int)) (ev_lenT T.len (ev_v 6 (P := vT K _) ⟨ip, rfl, sameT e1 hip⟩)) (ea_cons (P := vQ K (1 - l.loss)) (ev_call hK (hr.mono (by decide)) (ea_one (ev_v 1 (Stb.mono e1 hl))) fun vs H2 e2 ⟨v, ev, h2⟩ Q k => ⟨v, l.loss, ev, h2, (Lw.szl O).mono (by decide), k⟩)
      (ea_two (P1 := vNew H1) (P2 := vI 0) ev_new ev_i))) (fun vs H ⟨v, r, e, _, v2, r2, e2, _, v3, v4, e3, _⟩ => by rw [e, e2, e3]; exact Nat.le_refl 4)).imp fun v H' _ ⟨p, vs, H2, ev, hp, e2, x7, r, er, h7, x8, r2, er2, h8, x9, x10, er3, ⟨sA, e9, h9, h9'⟩, h10⟩ =>
        ⟨p, x7, x8, sA, ev, SqT.of (by rw [hp, er, er2, er3, e9, h10]), by rw [h7, List.length_map]; rfl, Stb.mono e2 h8, h9, e2 _ _ h9'⟩)
    (pg_tup rfl (pgs_cons (pg_name (i := 7) nd rfl (Or.inl rfl)) (pgs_cons (pg_name (i := 8) nd rfl (Or.inl rfl)) (pgs_cons (pg_name (i := 9) nd rfl (Or.inr rfl)) (pgs_cons (pg_name (i := 10) nd rfl (Or.inl rfl)) pgs_nil))))) ?_)
  rintro v H2 e2 ⟨tp, x7, x8, sA, rfl, htp, h7, h8, h9, h9'⟩
  refine ⟨_, gt_four htp, ?_⟩
  subst h7
  have e02 := e1.trans e2
  have hsA : H sA = none := e1.free h9
  -- for pieces in worths
  refine ss_cons (s_for (passes_of rfl) (ei_T (ev_v 2 (P := vE (.ref wp)) rfl) (sameT e02 hwp)) (pg_name (i := 11) nd rfl (Or.inl rfl))
    (fun i σ' H' => ∃ o11, σ' = [some (.ref dp), some vl, some (.ref wp), some (.int (l.cap : Int)), some (.int (l.st : Int)), some (.int (l.en : Int)), some (.ref ip), some (.int (l.d.M : Int)), some x8, some (.ref sA), some (.int (l.d.st i : Int)), o11, none, none, none, none, none, none, none, none, none, none, none, none] ∧ Same H H' ∧ vQ K (1 - l.loss) x8 H' ∧ H' sA = some (.lst ((List.range i).map fun j => V.int (l.d.st j : Int))))
    (fun H3 e3 => ⟨none, rfl, e02.trans e3, Stb.mono e3 h8, e3 _ _ h9'⟩) (fun i σ' H' _ ⟨_, _, e, _⟩ => sameT e hwp) ?_ ?_)
  · rintro i x σ' H3 H4 hi ⟨o11, rfl, e3, h83, hs3⟩ ⟨rfl, hx⟩
    have hi : i < l.d.M := by omega
    obtain ⟨b, ps, q1, q2, q3, q4, q5⟩ := hwat i hi
    obtain rfl : V.ref b = x := Option.some.inj (q1.symm.trans hx)
    refine ⟨_, gt_name, ?_⟩
    refine ss_cons (s_app (l := sA) (P := vI (l.d.st i : Int)) (ev_v 9 (P := vE (.ref sA)) rfl) hs3 (by simp; omega) (ev_v 10 (P := vI (l.d.st i : Int)) rfl) fun v H5 e5 ev => ?_)
    cases ev
    have e05 : Same H (upd H5 sA (.lst ((List.range i).map (fun j => V.int (l.d.st j : Int)) ++ [.int (l.d.st i : Int)]))) := upd_new (e3.trans e5) hsA
    have hm : IsM H5 sA := .inl ⟨_, e5 _ _ hs3⟩
    refine ss_one (s_set (i := 10) (P := vI ((l.d.st i : Int) + (ps.length : Int))) (ev_add (ev_v 10 (P := vI (l.d.st i : Int)) rfl) (ev_lenT T.len (ev_v 11 (P := vT K ps) ⟨b, rfl, sameT e05 q3⟩))) fun v H6 e6 ev => ?_)
    cases ev
    refine ⟨some (.ref b), ?_, e05.trans e6, Stb.mono e6 (mutQ hm (Stb.mono e5 h83)), ?_⟩
    · have : (l.d.st i : Int) + (ps.length : Int) = (l.d.st (i + 1) : Int) := by rw [q4]; rfl
      rw [this]; rfl
    · rw [e6 _ _ upd_same, List.range_succ, List.map_append]; rfl
  rintro σ' H3 ⟨o11, rfl, e3, h83, hs3⟩
  have hwn : ws.length = l.d.M := by rw [hwsl, hwl]
  rw [hwn] at hs3
  rw [hwn]
  -- rows, goals, costs, size = ..
  refine ss_cons (s_asg (g := g4 K 12 13 14 15) (P := fun v H' => ∃ p rA gA cA, v = .ref p ∧ SqT K H' p [.ref rA, .ref gA, .ref cA, .int (l.d.cnt + 2 * l.d.M : Nat)] ∧ H3 rA = none ∧ H3 gA = none ∧ H3 cA = none ∧ rA ≠ gA ∧ H' rA = some (.lst []) ∧ H' gA = some (.lst []) ∧ H' cA = some (.dK []))
    ((ev_tup (n := 4) (ea_dep (P := vNew H3) (Rd := fun v1 H1 r H' => ∃ v2 r2 H2, r = v2 :: r2 ∧ vNew H1 v2 H2 ∧ Same H1 H2 ∧ Same H2 H' ∧ ∃ v3 v4, r2 = [v3, v4] ∧ (∃ a, v3 = .ref a ∧ H2 a = none ∧ H' a = some (.dK [])) ∧ vI (l.d.cnt + 2 * l.d.M : Nat) v4 H') ev_new fun v1 H4 e4 h4 => ea_dep (P := vNew H4) (Rd := fun v2 H2 r2 H' => ∃ v3 v4, r2 = [v3, v4] ∧ (∃ a, v3 = .ref a ∧ H2 a = none ∧ H' a = some (.dK [])) ∧ vI (l.d.cnt + 2 * l.d.M : Nat) v4 H') ev_new fun v2 H5 e5 h5 =>
      haveI : Stb (fun v H' => ∃ a, v = V.ref a ∧ H5 a = none ∧ H' a = some (.dK [])) := ⟨fun e ⟨a, h1, h2, h3⟩ => ⟨a, h1, h2, e _ _ h3⟩⟩
      ea_two (P1 := fun v H' => ∃ a, v = V.ref a ∧ H5 a = none ∧ H' a = some (.dK [])) (P2 := vI (l.d.cnt + 2 * l.d.M : Nat)) ev_dnew ((ev_add (ev_v 10 (P := vI (l.d.cnt : Int)) rfl) (ev_mul ev_i (ev_v 7 (P := vI (l.d.M : Int)) rfl) (mulW (a := 4) (b := 4) (by decide) (by simp; omega)))).imp fun v H' _ h => by rw [show v = _ from h]; rfl)) (fun vs H ⟨v, r, H1, e, _, _, _, v2, r2, H2, e2, _, _, _, v3, v4, e3, _⟩ => by rw [e, e2, e3]; exact Nat.le_refl 4)).imp fun v H' _ ⟨p, vs, H9, ev, hp, e9, v1, r, H4, er, ⟨rA, ea, a0, a1⟩, s4, s49, v2, r2, H5, er2, ⟨gA, eb, b0, b1⟩, s45, s59, v3, v4, er3, ⟨cA, ec, c0, c1⟩, h4⟩ =>
        ⟨p, rA, gA, cA, ev, SqT.of (by rw [hp, er, er2, er3, ea, eb, ec, h4]), a0, s4.free b0, (s4.trans s45).free c0, (fun z => by rw [z, b0] at a1; cases a1), e9 _ _ (s49 _ _ a1), e9 _ _ (s59 _ _ b1), e9 _ _ c1⟩)
    (pg_tup rfl (pgs_cons (pg_name (i := 12) nd rfl (Or.inl rfl)) (pgs_cons (pg_name (i := 13) nd rfl (Or.inl rfl)) (pgs_cons (pg_name (i := 14) nd rfl (Or.inr rfl)) (pgs_cons (pg_name (i := 15) nd rfl (Or.inr rfl)) pgs_nil))))) ?_)
  rintro v H4 e4 ⟨tp2, rA, gA, cA, rfl, htp2, hrA, hgA, hcA, hne, hr4, hg4, hc4⟩
  refine ⟨_, gt_four htp2, ?_⟩
  have hs4 := e4 _ _ hs3
  have h84 := Stb.mono (P := vQ K (1 - l.loss)) e4 h83
  have p4 : PSt K l H sA rA gA cA 0 0 0 (cpart l.d 0) H4 := by
    refine ⟨e3.trans e4, hsA, e3.free hrA, e3.free hgA, e3.free hcA, hs4, (fun z => by rw [z, hrA] at hs3; cases hs3), (fun z => by rw [z, hgA] at hs3; cases hs3), hne, ⟨[], hr4, rfl, fun j hj => absurd hj (by omega)⟩, ⟨[], hg4, rfl, fun j hj => absurd hj (by omega)⟩, ⟨[], hc4, fun k => .inr ⟨rfl, if_neg (by omega)⟩, Nat.le_refl _⟩⟩
  clear hs3 hs4 hr4 hg4 hc4 htp2 h83
  -- the months' rows
  refine ss_cons (s_for (passes_of rfl) (ei_ET T.enu (ev_v 6 (P := vE (.ref ip)) rfl) (sameT p4.same hip)) (pg_tup rfl (pgs_cons (pg_name (i := 16) nd rfl (Or.inr rfl)) (pgs_cons (pg_name (i := 17) nd rfl (Or.inl rfl)) pgs_nil)))
    (fun i σ' H' => ∃ o16 o17 o18, σ' = [some (.ref dp), some vl, some (.ref wp), some (.int (l.cap : Int)), some (.int (l.st : Int)), some (.int (l.en : Int)), some (.ref ip), some (.int (l.d.M : Int)), some x8, some (.ref sA), some (.int (l.d.cnt : Int)), o11, some (.ref rA), some (.ref gA), some (.ref cA), some (.int (l.d.cnt + 2 * l.d.M : Nat)), o16, o17, o18, none, none, none, none, none] ∧ PSt K l H sA rA gA cA i i 0 (cpart l.d 0) H' ∧ vQ K (1 - l.loss) x8 H')
    (fun H5 e5 => ⟨none, none, none, rfl, p4.mono e5, Stb.mono e5 h84⟩) (fun i σ' H' _ ⟨_, _, _, _, p, _⟩ => sameT p.same hip) ?_ ?_)
  · rintro j x σ' H5 H6 hj ⟨o16, o17, o18, rfl, p5, h85⟩ hy
    obtain ⟨T', x1, y, rfl, h1, h2, hs, hT', _⟩ := ypair_same hy
    cases h1
    have hj : j < l.d.M := by rw [List.length_map] at hj; exact hj
    have h2 : (l.inf.map fun n : Nat => V.int (n : Int))[j]? = some y := h2
    rw [List.getElem?_map, getD_of (d := 0) (by exact hj : j < l.inf.length)] at h2
    cases h2
    have p6 := p5.mono hs
    have h86 := Stb.mono (P := vQ K (1 - l.loss)) hs h85
    clear p5 h85
    obtain ⟨b, ps, q1, q2, q3, q4, q5⟩ := hwat j hj
    have hst := Dt.st_le (d := l.d) hj
    refine ⟨_, gt_two (SqT.of hT'), ?_⟩
    -- row = {..}
    refine ss_cons (s_dc (g := gName 19) (i := 18) (fun q => l.d.st j + q) (fun _ => -1) nd ((ei_R1 (n := ps.length) T.rng (ev_lenT T.len ((ev_ixT (ev_v 2 (P := vT K ws) ⟨wp, rfl, sameT p6.same hwp⟩) (ev_v 16 (P := vI (j : Int)) rfl) (atI_nat q1)).imp (P1 := vT K ps) fun v H' e ev => ⟨b, ev, sameT (p6.same.trans e) q3⟩)) (by have : (l.ps j).length ≤ l.d.cnt := Nat.le_trans (Nat.le_add_left _ _) hst; omega)).es fun _ _ => trivial) (blkOk_by (N := nProg) (sc := defScope sProg) (own := [("k", 19)]) (by decide +kernel)) (fun _ _ _ _ _ => pg_name (i := 19) nd rfl (Or.inl rfl)) (by have : (l.ps j).length ≤ l.d.cnt := Nat.le_trans (Nat.le_add_left _ _) hst; omega) (fun q x H7 H8 hq e hy => ?_) fun v H7 e7 h7 => ?_)
    · obtain ⟨rfl, rfl⟩ := hy
      have p8 := p6.mono e
      refine ⟨_, gt_name, Same.refl _, rfl, fun s5 H5' C5 cl5 fp5 => ?_, fun s5 H5' C5 cl5 fp5 => ev_q (q := -1) (ev_neg ev_i) ev_i rfl rfl⟩
      exact (ev_add (ev_ixL (ev_v 9 (P := vL K _) ⟨sA, rfl, SqL.of p8.st⟩) (ev_v 16 (P := vI (j : Int)) rfl) (atI_nat (p8.stix hj))) (ev_v 19 (P := vI (q : Int)) rfl)).imp fun v H' _ h => by rw [show v = _ from h]; rfl
    obtain ⟨ra, kv, rfl, ra0, ra7, hk7, hl7⟩ := h7
    have hk7 : RepD K H7 kv (segf (l.d.st j) (l.ps j).length) := by rw [← q4]; exact hk7.congr (dcf_seg (s := l.d.st j) ps.length)
    have hps5 : ps.length ≤ 8 := by have : (l.ps j).length ≤ l.d.cnt := Nat.le_trans (Nat.le_add_left _ _) hst; omega
    have hu : ∀ {A : Around}, Room 7 A → A.units + 1 < cLine := fun hr => by have := hr.un; omega
    -- row[count + month] = (-1, 1)
    refine ss_cons (s_dput (P := vQ K (-1)) (hu hr) (ev_q (q := -1) (ev_neg ev_i) ev_i rfl rfl) (ev_v 18 (P := vE (.ref ra)) rfl) (ev_add (ev_v 10 (P := vI (l.d.cnt : Int)) rfl) (ev_v 16 (P := vI (j : Int)) rfl)) ra7 (by omega) fun v H8 e8 ⟨H8', e8a, e8b, hv8⟩ => ?_)
    have hm8 : IsM H8 ra := .inr ⟨_, e8 _ _ ra7⟩
    have hk8 := ((hk7.mono e8).mut (o := .dK (putK kv (.inl ((l.d.cnt + j : Nat) : Int)) v)) hm8).put (i := l.d.cnt + j) (mutQ hm8 (Stb.mono e8b hv8))
    have s8 : Same H6 (upd H8 ra (.dK (putK kv (.inl ((l.d.cnt + j : Nat) : Int)) v))) := upd_new (e7.trans e8) ra0
    show WSs _ _ _ _ (upd H8 ra (.dK (putK kv (.inl ((l.d.cnt + j : Nat) : Int)) v)))
    have ra8 : upd H8 ra (.dK (putK kv (.inl ((l.d.cnt + j : Nat) : Int)) v)) ra = some (.dK (putK kv (.inl ((l.d.cnt + j : Nat) : Int)) v)) := upd_same
    have hl8 : (putK kv (.inl ((l.d.cnt + j : Nat) : Int)) v).length ≤ 9 := Nat.le_trans (length_putK _ _ _) (by omega)
    generalize upd H8 ra (.dK (putK kv (.inl ((l.d.cnt + j : Nat) : Int)) v)) = Ha at *
    generalize putK kv (.inl ((l.d.cnt + j : Nat) : Int)) v = kva at *
    -- row[count + many + month] = (-1, 1)
    refine ss_cons (s_dput (P := vQ K (-1)) (hu hr) (ev_q (q := -1) (ev_neg ev_i) ev_i rfl rfl) (ev_v 18 (P := vE (.ref ra)) rfl) (ev_add (ev_add (ev_v 10 (P := vI (l.d.cnt : Int)) rfl) (ev_v 7 (P := vI (l.d.M : Int)) rfl)) (ev_v 16 (P := vI (j : Int)) rfl)) ra8 (by omega) fun v H9 e9 ⟨H9', e9a, e9b, hv9⟩ => ?_)
    have hm9 : IsM H9 ra := .inr ⟨_, e9 _ _ ra8⟩
    have hk9 := ((hk8.mono e9).mut (o := .dK (putK kva (.inl ((l.d.cnt + l.d.M + j : Nat) : Int)) v)) hm9).put (i := l.d.cnt + l.d.M + j) (mutQ hm9 (Stb.mono e9b hv9))
    have s9 : Same H6 (upd H9 ra (.dK (putK kva (.inl ((l.d.cnt + l.d.M + j : Nat) : Int)) v))) := upd_new (s8.trans e9) ra0
    show WSs _ _ _ _ (upd H9 ra (.dK (putK kva (.inl ((l.d.cnt + l.d.M + j : Nat) : Int)) v)))
    have ra9 : upd H9 ra (.dK (putK kva (.inl ((l.d.cnt + l.d.M + j : Nat) : Int)) v)) ra = some (.dK (putK kva (.inl ((l.d.cnt + l.d.M + j : Nat) : Int)) v)) := upd_same
    have hl9 : (putK kva (.inl ((l.d.cnt + l.d.M + j : Nat) : Int)) v).length ≤ 10 := Nat.le_trans (length_putK _ _ _) (by omega)
    generalize upd H9 ra (.dK (putK kva (.inl ((l.d.cnt + l.d.M + j : Nat) : Int)) v)) = Hb at *
    generalize putK kva (.inl ((l.d.cnt + l.d.M + j : Nat) : Int)) v = kvb at *
    have hk9 : RepD K Hb kvb (l.d.row2 j) := hk9
    -- if month > 0
    refine ss_mid (fun σ' Hc => σ' = [some (.ref dp), some vl, some (.ref wp), some (.int (l.cap : Int)), some (.int (l.st : Int)), some (.int (l.en : Int)), some (.ref ip), some (.int (l.d.M : Int)), some x8, some (.ref sA), some (.int (l.d.cnt : Int)), o11, some (.ref rA), some (.ref gA), some (.ref cA), some (.int (l.d.cnt + 2 * l.d.M : Nat)), some (.int (j : Int)), some (.int ((l.inf.getD j 0 : Nat) : Int)), some (.ref ra), none, none, none, none, none] ∧ Same H6 Hc ∧ ∃ kvc, Hc ra = some (.dK kvc) ∧ RepD K Hc kvc (l.d.A j))
      (s_if (k := decide (0 < (j : Int))) (et_gt (ev_v 16 (P := vI (j : Int)) rfl) ev_i) (fun hk Hc ec => ?_) (fun hk Hc ec => ss_nil ⟨rfl, s9.trans ec, kvb, ec _ _ ra9, (hk9.mono ec).congr fun k => ?_⟩)) ?_
    · have hk : 0 < j := by have := of_decide_eq_true hk; omega
      have ez : (l.d.cnt : Int) + (l.d.M : Int) + (j : Int) - 1 = ((l.d.cnt + l.d.M + j - 1 : Nat) : Int) := by omega
      have h8c := Stb.mono (P := vQ K (1 - l.loss)) (s9.trans ec) h86
      refine ss_one (s_dput (P := vQ K (1 - l.loss)) (hu hr) (ev_v 8 h8c) (ev_v 18 (P := vE (.ref ra)) rfl) ((ev_sub (ev_add (ev_add (ev_v 10 (P := vI (l.d.cnt : Int)) rfl) (ev_v 7 (P := vI (l.d.M : Int)) rfl)) (ev_v 16 (P := vI (j : Int)) rfl)) ev_i).imp (P1 := vI ((l.d.cnt + l.d.M + j - 1 : Nat) : Int)) fun v H' _ h => by rw [show v = _ from h, ez]; rfl) (ec _ _ ra9) (by omega) fun v Hd ed ⟨Hd', eda, edb, hvd⟩ => ?_)
      have hmd : IsM Hd ra := .inr ⟨_, ed _ _ (ec _ _ ra9)⟩
      refine ⟨rfl, upd_new ((s9.trans ec).trans ed) ra0, _, upd_same, ((((hk9.mono (ec.trans ed)).mut hmd).put (mutQ hmd (Stb.mono edb hvd)))).congr fun k => ?_⟩
      show fset (l.d.row2 j) (l.d.cnt + l.d.M + j - 1) (1 - l.loss) k = l.d.A j k
      have e1 : l.d.A j = l.d.rowM j := if_pos hj
      have e2 : l.d.rowM j = fset (l.d.row2 j) (l.d.cnt + l.d.M + j - 1) l.d.kept := if_pos hk
      rw [e1, e2]; rfl
    · have hk : ¬ 0 < j := by have := of_decide_eq_false hk; omega
      have e1 : l.d.A j = l.d.rowM j := if_pos hj
      have e2 : l.d.rowM j = l.d.row2 j := if_neg hk
      rw [e1, e2]
    rintro σ' Hc ⟨rfl, sc, kvc, rac, hkc⟩
    have pc := p6.mono sc
    clear hk9 hl9 ra9 s9 hk8 hl8 ra8 s8 hk7 hl7 ra7
    obtain ⟨rs, hrs, _⟩ := id pc.rows
    have hrl : rs.length ≤ 100 := by
      obtain ⟨rs', h1, h2, _⟩ := pc.rows
      rw [hrs] at h1; cases h1; omega
    have rac0 : ra ≠ cA := fun z => by
      obtain ⟨kc, c1, _⟩ := p6.costs
      rw [← z, ra0] at c1; cases c1
    -- rows.append(row)
    refine ss_cons (s_app (l := rA) (P := vE (.ref ra)) (ev_v 12 (P := vE (.ref rA)) rfl) hrs (by omega) (ev_v 18 (P := vE (.ref ra)) rfl) fun v Hd ed ev => ?_)
    cases ev
    have pd := (pc.mono ed).row (ed _ _ hrs) (ed _ _ rac) rac0 (hkc.mono ed)
    have hmd : IsM Hd rA := .inl ⟨_, ed _ _ hrs⟩
    have h8d := mutQ (o := .lst (rs ++ [.ref ra])) hmd (Stb.mono (P := vQ K (1 - l.loss)) (sc.trans ed) h86)
    generalize upd Hd rA (.lst (rs ++ [.ref ra])) = He at *
    -- goals.append(..)
    obtain ⟨gs, hgs, hgl⟩ := id pd.goals
    have hg0 : l.d.g j = (((0 : Int) - ((l.inf.getD j 0 : Nat) : Int) - (if j = 0 then (l.st : Int) else 0) : Int) : Rat) := by
      rw [Dt.gM hj]
      show - ((l.inf.getD j 0 : Nat) : Rat) - (if j = 0 then ((l.st : Nat) : Rat) else 0) = _
      rw [Rat.intCast_sub, Rat.intCast_sub]
      have e0 : (((0 : Int)) : Rat) = 0 := rfl
      have e1 : (((l.inf.getD j 0 : Nat) : Int) : Rat) = ((l.inf.getD j 0 : Nat) : Rat) := rfl
      rw [e0, e1]
      by_cases q : j = 0
      · rw [if_pos q, if_pos q]
        have e2 : (((l.st : Nat) : Int) : Rat) = ((l.st : Nat) : Rat) := rfl
        rw [e2]; grind
      · rw [if_neg q, if_neg q, e0]; grind
    refine ss_one (s_app (l := gA) (P := vQ K (l.d.g j)) (ev_v 13 (P := vE (.ref gA)) rfl) hgs (by have := hgl.1; omega) (ev_qi (ev_sub (ev_sub ev_i (ev_v 17 (P := vI ((l.inf.getD j 0 : Nat) : Int)) rfl)) (ev_if (k := decide (j = 0)) ((et_eq (ev_v 16 (P := vI (j : Int)) rfl) ev_i).is (by rw [decide_eq_decide]; exact ⟨fun h => by injection h with h; omega, fun h => by rw [h]; rfl⟩)) (fun hk => by have hk := of_decide_eq_true hk; rw [if_pos hk]; exact ev_v 4 (P := vI (l.st : Int)) rfl) (fun hk => by have hk := of_decide_eq_false hk; rw [if_neg hk]; exact ev_i))) hg0) fun v Hf ef hv => ?_)
    have hmf : IsM Hf gA := .inl ⟨_, ef _ _ hgs⟩
    exact ⟨_, _, _, rfl, (pd.mono ef).goal (ef _ _ hgs) hv, mutQ hmf (Stb.mono ef h8d)⟩
  rintro σ' H5 ⟨o16, o17, o18, rfl, p5, h85⟩
  rw [show (l.inf.map fun n : Nat => V.int (n : Int)).length = l.d.M from List.length_map _] at p5
  clear p4 h84
  have hu : ∀ {A : Around}, Room 7 A → A.units + 1 < cLine := fun hr => by have := hr.un; omega
  have dne : ∀ {H' : Hp} {nr ng nc : Nat} {c : Nat → Rat} {a : Addr}, PSt K l H sA rA gA cA nr ng nc c H' → H' a = none → a ≠ cA := fun p h z => by
    obtain ⟨kc, c1, _⟩ := p.costs
    rw [← z, h] at c1; cases c1
  -- the bounds
  refine ss_mid (fun σ' H' => ∃ o16 o17 o18 o19 o20 o21, σ' = [some (.ref dp), some vl, some (.ref wp), some (.int (l.cap : Int)), some (.int (l.st : Int)), some (.int (l.en : Int)), some (.ref ip), some (.int (l.d.M : Int)), some x8, some (.ref sA), some (.int (l.d.cnt : Int)), o11, some (.ref rA), some (.ref gA), some (.ref cA), some (.int (l.d.cnt + 2 * l.d.M + (l.d.cnt + l.d.M) : Nat)), o16, o17, o18, o19, o20, o21, none, none] ∧ PSt K l H sA rA gA cA (l.d.M + (l.d.cnt + l.d.M)) (l.d.M + (l.d.cnt + l.d.M)) (l.d.M + (l.d.cnt + l.d.M)) (cpart l.d l.d.cnt) H' ∧ vQ K (1 - l.loss) x8 H')
    (s_for (passes_of rfl) (ei_R1 (n := l.d.M) T.rng (ev_v 7 (P := vI (l.d.M : Int)) rfl) (by omega)) (pg_name (i := 16) nd rfl (Or.inr rfl))
    (fun i σ' H' => ∃ o16 o17 o18 o19 o20 o21, σ' = [some (.ref dp), some vl, some (.ref wp), some (.int (l.cap : Int)), some (.int (l.st : Int)), some (.int (l.en : Int)), some (.ref ip), some (.int (l.d.M : Int)), some x8, some (.ref sA), some (.int (l.d.cnt : Int)), o11, some (.ref rA), some (.ref gA), some (.ref cA), some (.int (l.d.cnt + 2 * l.d.M + (l.d.st i + i) : Nat)), o16, o17, o18, o19, o20, o21, none, none] ∧ PSt K l H sA rA gA cA (l.d.M + (l.d.st i + i)) (l.d.M + (l.d.st i + i)) (l.d.M + (l.d.st i + i)) (cpart l.d (l.d.st i)) H' ∧ vQ K (1 - l.loss) x8 H')
    (fun H6 e6 => ⟨o16, o17, o18, none, none, none, rfl, by
      obtain ⟨kc, c1, c2, c3⟩ := p5.costs
      exact ({ p5.mono e6 with costs := ⟨kc, e6 _ _ c1, c2.mono e6, by omega⟩ } : PSt K l H sA rA gA cA (l.d.M + (l.d.st 0 + 0)) (l.d.M + (l.d.st 0 + 0)) (l.d.M + (l.d.st 0 + 0)) (cpart l.d (l.d.st 0)) H6), Stb.mono e6 h85⟩) (fun _ _ _ _ _ => trivial) ?_ ?_) ?_
  · rintro i x σ' H6 H7 hi ⟨o16, o17, o18, o19, o20, o21, rfl, p6, h86⟩ ⟨rfl, rfl⟩
    obtain ⟨b, ps, q1, q2, q3, q4, q5⟩ := hwat i hi
    have hst := Dt.st_le (d := l.d) hi
    have hst1 : l.d.st (i + 1) = l.d.st i + (l.ps i).length := rfl
    have hsti : l.d.st i + (l.ps i).length ≤ l.d.cnt := hst
    have hwi : i < l.w.length := by omega
    refine ⟨_, gt_name, ?_⟩
    refine ss_mid (fun σ' H' => ∃ o17 o18 o19 o20 o21, σ' = [some (.ref dp), some vl, some (.ref wp), some (.int (l.cap : Int)), some (.int (l.st : Int)), some (.int (l.en : Int)), some (.ref ip), some (.int (l.d.M : Int)), some x8, some (.ref sA), some (.int (l.d.cnt : Int)), o11, some (.ref rA), some (.ref gA), some (.ref cA), some (.int (l.d.cnt + 2 * l.d.M + (l.d.st (i + 1) + i) : Nat)), some (.int (i : Int)), o17, o18, o19, o20, o21, none, none] ∧ PSt K l H sA rA gA cA (l.d.M + (l.d.st (i + 1) + i)) (l.d.M + (l.d.st (i + 1) + i)) (l.d.M + (l.d.st (i + 1) + i)) (cpart l.d (l.d.st (i + 1))) H' ∧ vQ K (1 - l.loss) x8 H')
      (s_for (g := g12 K 19 20 21) (passes_of rfl) (ei_ET T.enu ((ev_ixT (ev_v 2 (P := vT K ws) ⟨wp, rfl, sameT p6.same hwp⟩) (ev_v 16 (P := vI (i : Int)) rfl) (atI_nat q1))) (sameT p6.same q3)) (pg_tup rfl (pgs_cons (pg_name (i := 19) nd rfl (Or.inl rfl)) (pgs_cons (pg_tup rfl (pgs_cons (pg_name (i := 20) nd rfl (Or.inl rfl)) (pgs_cons (pg_name (i := 21) nd rfl (Or.inl rfl)) pgs_nil))) pgs_nil)))
      (fun q σ' H' => ∃ o17 o18 o19 o20 o21, σ' = [some (.ref dp), some vl, some (.ref wp), some (.int (l.cap : Int)), some (.int (l.st : Int)), some (.int (l.en : Int)), some (.ref ip), some (.int (l.d.M : Int)), some x8, some (.ref sA), some (.int (l.d.cnt : Int)), o11, some (.ref rA), some (.ref gA), some (.ref cA), some (.int (l.d.cnt + 2 * l.d.M + (l.d.st i + i + q) : Nat)), some (.int (i : Int)), o17, o18, o19, o20, o21, none, none] ∧ PSt K l H sA rA gA cA (l.d.M + (l.d.st i + i + q)) (l.d.M + (l.d.st i + i + q)) (l.d.M + (l.d.st i + i + q)) (cpart l.d (l.d.st i + q)) H' ∧ vQ K (1 - l.loss) x8 H')
      (fun H8 e8 => ⟨o17, o18, o19, o20, o21, rfl, p6.mono e8, Stb.mono e8 h86⟩) (fun q σ' H' _ ⟨_, _, _, _, _, _, p, _⟩ => sameT p.same q3) ?_ ?_) ?_
    · rintro q x σ' H8 H9 hq ⟨o17, o18, o19, o20, o21, rfl, p8, h88⟩ hy
      obtain ⟨T', x1, y, rfl, h1, h2, hs, hT', _⟩ := ypair_same hy
      cases h1
      have hq : q < (l.ps i).length := by omega
      obtain ⟨c, r1, r2⟩ := q5 q hq
      obtain rfl : V.ref c = y := Option.some.inj (r1.symm.trans h2)
      have p9 := p8.mono hs
      have h89 := Stb.mono (P := vQ K (1 - l.loss)) hs h88
      clear p8 h88
      have hpr := Lw.pr_at (l := l) hwi hq
      have ham := Lw.am_at (l := l) hwi hq
      generalize (l.ps i).getD q (0, 0) = pr at *
      have hidx : l.d.st i + i + q < l.d.cnt + l.d.M := by omega
      obtain ⟨kc, c1, c2, c3⟩ := id p9.costs
      refine ⟨_, gt_12 (SqT.of hT') (sameT p9.same r2), ?_⟩
      have hix : ∀ {X : Cx} {a b : Expr} {σ : L2.St} {H' : Hp} {p1 p2 : Pos}, X.K = K → H' sA = some (.lst ((List.range l.d.M).map fun j => V.int (l.d.st j : Int))) → EV X a σ H' (vE (.ref sA)) → EV X b σ H' (vI (i : Int)) → PlainIx b → EV X (.Subscript a b p1) σ H' (vI (l.d.st i : Int)) := fun {X a b σ H' p1 p2} hK hs ha hb hp => by
        subst hK
        exact ev_ixL (ha.imp (P1 := vL X.K _) fun v H'' e ev => ⟨sA, ev, SqL.of (e _ _ hs)⟩) hb (atI_nat (p9.stix hi)) hp
      -- costs[..] = (price, 1)
      refine ss_cons (s_dput (P := vQ K (l.d.pr (l.d.st i + q))) (hu hr) (ev_qi (ev_v 21 (P := vI (pr.2 : Int)) rfl) (by rw [hpr]; rfl)) (ev_v 14 (P := vE (.ref cA)) rfl) (ev_add (hix (p2 := ⟨0, 0, 0, 0⟩) rfl p9.st (ev_v 9 (P := vE (.ref sA)) rfl) (ev_v 16 (P := vI (i : Int)) rfl) (fun _ _ => rfl)) (ev_v 19 (P := vI (q : Int)) rfl)) c1 (by omega) fun v Ha ea ⟨Ha', eaa, eab, hva⟩ => ?_)
      have pa := ((p9.mono ea).cost (i := l.d.st i + q) (ea _ _ c1) (Stb.mono eab hva)).costs_congr fun k => cpart_succ (l.d.st i + q) k
      have hma : IsM Ha cA := .inr ⟨_, ea _ _ c1⟩
      have h8a := mutQ (o := .dK (putK kc (.inl ((l.d.st i + q : Nat) : Int)) v)) hma (Stb.mono (P := vQ K (1 - l.loss)) ea h89)
      show WSs _ _ _ _ (upd Ha cA (.dK (putK kc (.inl ((l.d.st i + q : Nat) : Int)) v)))
      generalize upd Ha cA (.dK (putK kc (.inl ((l.d.st i + q : Nat) : Int)) v)) = Hb at *
      -- rows.append({..})
      obtain ⟨rs, hrs, hrl, _⟩ := id pa.rows
      refine ss_cons (s_app (l := rA) (P := vDN K Hb 2 (two (l.d.st i + q) (l.d.cnt + 2 * l.d.M + (l.d.st i + i + q)) 1)) (ev_v 12 (P := vE (.ref rA)) rfl) hrs (by omega) (ev_disp2 (i1 := l.d.st i + q) (i2 := l.d.cnt + 2 * l.d.M + (l.d.st i + i + q)) (ev_add (hix (p2 := ⟨0, 0, 0, 0⟩) rfl pa.st (ev_v 9 (P := vE (.ref sA)) rfl) (ev_v 16 (P := vI (i : Int)) rfl) (fun _ _ => rfl)) (ev_v 19 (P := vI (q : Int)) rfl)) (ev_q (q := 1) ev_i ev_i rfl rfl) (ev_v 15 (P := vI (l.d.cnt + 2 * l.d.M + (l.d.st i + i + q) : Nat)) rfl) (ev_q (q := 1) ev_i ev_i rfl rfl)) fun v Hc ec ⟨ra, kv, ev, ra0, ra1, hk, _⟩ => ?_)
      subst ev
      have pc := (pa.mono ec).row (ec _ _ hrs) ra1 (dne pa ra0) (hk.congr fun k => by rw [Dt.A_S hidx, (Dt.at_piece l.d.M i q hi hq).1])
      have hmc : IsM Hc rA := .inl ⟨_, ec _ _ hrs⟩
      have h8c := mutQ (o := .lst (rs ++ [.ref ra])) hmc (Stb.mono (P := vQ K (1 - l.loss)) ec h8a)
      generalize upd Hc rA (.lst (rs ++ [.ref ra])) = Hd at *
      -- goals.append(..)
      obtain ⟨gs, hgs, hgl⟩ := id pc.goals
      refine ss_cons (s_app (l := gA) (P := vQ K (l.d.g (l.d.M + (l.d.st i + i + q)))) (ev_v 13 (P := vE (.ref gA)) rfl) hgs (by have := hgl.1; omega) (ev_qi (ev_v 20 (P := vI (pr.1 : Int)) rfl) (by rw [Dt.gS hidx, (Dt.at_piece l.d.M i q hi hq).2, ham]; rfl)) fun v He ee hv => ?_)
      have pe := (pc.mono ee).goal (ee _ _ hgs) hv
      have hme : IsM He gA := .inl ⟨_, ee _ _ hgs⟩
      have h8e := mutQ (o := .lst (gs ++ [v])) hme (Stb.mono (P := vQ K (1 - l.loss)) ee h8c)
      generalize upd He gA (.lst (gs ++ [v])) = Hf at *
      refine ss_one (s_set (i := 15) (P := vI ((l.d.cnt + 2 * l.d.M + (l.d.st i + i + q) : Nat) + 1)) (ev_add (ev_v 15 (P := vI (l.d.cnt + 2 * l.d.M + (l.d.st i + i + q) : Nat)) rfl) ev_i) fun v Hg eg ev => ?_)
      cases ev
      exact ⟨_, _, _, _, _, rfl, pe.mono eg, Stb.mono eg h8e⟩
    · rintro σ' H8 ⟨o17, o18, o19, o20, o21, rfl, p8, h88⟩
      have e1 : l.d.st i + i + ps.length = l.d.st (i + 1) + i := by omega
      have e2 : l.d.st i + ps.length = l.d.st (i + 1) := by omega
      rw [e1, e2] at p8
      exact ⟨o17, o18, o19, o20, o21, by rw [e1], p8, h88⟩
    rintro σ' H8 ⟨o17, o18, o19, o20, o21, rfl, pa, h8a⟩
    have hidx : l.d.st (i + 1) + i < l.d.cnt + l.d.M := by omega
    -- rows.append({..})
    obtain ⟨rs, hrs, hrl, _⟩ := id pa.rows
    refine ss_cons (s_app (l := rA) (P := vDN K H8 2 (two (l.d.cnt + l.d.M + i) (l.d.cnt + 2 * l.d.M + (l.d.st (i + 1) + i)) 1)) (ev_v 12 (P := vE (.ref rA)) rfl) hrs (by omega) (ev_disp2 (i1 := l.d.cnt + l.d.M + i) (i2 := l.d.cnt + 2 * l.d.M + (l.d.st (i + 1) + i)) (ev_add (ev_add (ev_v 10 (P := vI (l.d.cnt : Int)) rfl) (ev_v 7 (P := vI (l.d.M : Int)) rfl)) (ev_v 16 (P := vI (i : Int)) rfl)) (ev_q (q := 1) ev_i ev_i rfl rfl) (ev_v 15 (P := vI (l.d.cnt + 2 * l.d.M + (l.d.st (i + 1) + i) : Nat)) rfl) (ev_q (q := 1) ev_i ev_i rfl rfl)) fun v Hc ec ⟨ra, kv, ev, ra0, ra1, hk, _⟩ => ?_)
    subst ev
    have pc := (pa.mono ec).row (ec _ _ hrs) ra1 (dne pa ra0) (hk.congr fun k => by rw [Dt.A_S hidx, (Dt.at_held (d := l.d) l.d.M i hi).1])
    have hmc : IsM Hc rA := .inl ⟨_, ec _ _ hrs⟩
    have h8c := mutQ (o := .lst (rs ++ [.ref ra])) hmc (Stb.mono (P := vQ K (1 - l.loss)) ec h8a)
    generalize upd Hc rA (.lst (rs ++ [.ref ra])) = Hd at *
    obtain ⟨gs, hgs, hgl⟩ := id pc.goals
    refine ss_cons (s_app (l := gA) (P := vQ K (l.d.g (l.d.M + (l.d.st (i + 1) + i)))) (ev_v 13 (P := vE (.ref gA)) rfl) hgs (by have := hgl.1; omega) (ev_qi (ev_v 3 (P := vI (l.cap : Int)) rfl) (by rw [Dt.gS hidx, (Dt.at_held (d := l.d) l.d.M i hi).2]; rfl)) fun v He ee hv => ?_)
    have pe := (pc.mono ee).goal (ee _ _ hgs) hv
    have hme : IsM He gA := .inl ⟨_, ee _ _ hgs⟩
    have h8e := mutQ (o := .lst (gs ++ [v])) hme (Stb.mono (P := vQ K (1 - l.loss)) ee h8c)
    generalize upd He gA (.lst (gs ++ [v])) = Hf at *
    refine ss_one (s_set (i := 15) (P := vI ((l.d.cnt + 2 * l.d.M + (l.d.st (i + 1) + i) : Nat) + 1)) (ev_add (ev_v 15 (P := vI (l.d.cnt + 2 * l.d.M + (l.d.st (i + 1) + i) : Nat)) rfl) ev_i) fun v Hg eg ev => ?_)
    cases ev
    obtain ⟨kc, c1, c2, c3⟩ := (pe.mono eg).costs
    exact ⟨_, _, _, _, _, _, rfl, { pe.mono eg with costs := ⟨kc, c1, c2, by omega⟩ }, Stb.mono eg h8e⟩
  · rintro σ' H6 ⟨o16, o17, o18, o19, o20, o21, rfl, p6, h86⟩
    exact ⟨o16, o17, o18, o19, o20, o21, rfl, p6, h86⟩
  rintro σ' H6 ⟨p16, p17, p18, o19, o20, o21, rfl, pa, h8a⟩
  have hM0 : 0 < l.d.M := O.M0
  -- if end > 0
  refine ss_mid (fun σ' H' => σ' = [some (.ref dp), some vl, some (.ref wp), some (.int (l.cap : Int)), some (.int (l.st : Int)), some (.int (l.en : Int)), some (.ref ip), some (.int (l.d.M : Int)), some x8, some (.ref sA), some (.int (l.d.cnt : Int)), o11, some (.ref rA), some (.ref gA), some (.ref cA), some (.int (l.d.cols : Nat)), p16, p17, p18, o19, o20, o21, none, none] ∧ ∃ nc, PSt K l H sA rA gA cA l.d.rows l.d.rows nc (cpart l.d l.d.cnt) H')
    (s_if (k := decide (0 < (l.en : Int))) (et_gt (ev_v 5 (P := vI (l.en : Int)) rfl) ev_i) (fun hk H7 e7 => ?_) (fun hk H7 e7 => ss_nil ?_)) ?_
  · have hk : 0 < l.en := by have := of_decide_eq_true hk; omega
    have hen : 0 < l.d.en := by
      show (0 : Rat) < ((l.en : Nat) : Rat)
      exact_mod_cast hk
    have he1 := Dt.e_of hen
    have hcols : l.d.cols = l.d.cnt + 2 * l.d.M + (l.d.cnt + l.d.M) + 1 := by unfold Dt.cols; omega
    have hrows : l.d.rows = l.d.M + (l.d.cnt + l.d.M) + 1 := by unfold Dt.rows; omega
    have p7 := pa.mono e7
    have h87 := Stb.mono (P := vQ K (1 - l.loss)) e7 h8a
    have ez : (l.d.cnt : Int) + 2 * (l.d.M : Int) - 1 = ((l.d.cnt + 2 * l.d.M - 1 : Nat) : Int) := by omega
    obtain ⟨rs, hrs, hrl, _⟩ := id p7.rows
    refine ss_cons (s_app (l := rA) (P := vDN K H7 2 (two (l.d.cnt + 2 * l.d.M - 1) (l.d.cnt + 2 * l.d.M + (l.d.cnt + l.d.M)) (-1))) (ev_v 12 (P := vE (.ref rA)) rfl) hrs (by omega) (ev_disp2 (i1 := l.d.cnt + 2 * l.d.M - 1) (i2 := l.d.cnt + 2 * l.d.M + (l.d.cnt + l.d.M)) ((ev_sub (ev_add (ev_v 10 (P := vI (l.d.cnt : Int)) rfl) (ev_mul ev_i (ev_v 7 (P := vI (l.d.M : Int)) rfl) (mulW (a := 4) (b := 4) (by decide) (by simp; omega)))) ev_i).imp fun v H' _ h => by rw [show v = _ from h, ez]; rfl) (ev_q (q := 1) ev_i ev_i rfl rfl) (ev_v 15 (P := vI (l.d.cnt + 2 * l.d.M + (l.d.cnt + l.d.M) : Nat)) rfl) (ev_q (q := -1) (ev_neg ev_i) ev_i rfl rfl)) fun v Hc ec ⟨ra, kv, ev, ra0, ra1, hk, _⟩ => ?_)
    subst ev
    have pc := (p7.mono ec).row (ec _ _ hrs) ra1 (dne p7 ra0) (hk.congr fun k => by rw [Dt.A_E])
    have hmc : IsM Hc rA := .inl ⟨_, ec _ _ hrs⟩
    have h8c := mutQ (o := .lst (rs ++ [.ref ra])) hmc (Stb.mono (P := vQ K (1 - l.loss)) ec h87)
    generalize upd Hc rA (.lst (rs ++ [.ref ra])) = Hd at *
    obtain ⟨gs, hgs, hgl⟩ := id pc.goals
    have hks := Lw.kept_size O
    have hk0 := Lw.kept0 O
    refine ss_cons (s_app (l := gA) (P := vQ K (((l.en : Nat) : Rat) / (1 - l.loss))) (ev_v 13 (P := vE (.ref gA)) rfl) hgs (by have := hgl.1; omega) (ev_over hQ (hr.mono (by decide)) (ev_qi (ev_v 5 (P := vI (l.en : Int)) rfl) rfl) (ev_v 8 h8c) ⟨Sz.int (i := (l.en : Int)) (Nat.lt_of_le_of_lt (by have := O.en; have := O.cap; simp; omega : (l.en : Int).natAbs ≤ 24) (by decide)) (by decide), ⟨Nat.lt_of_le_of_lt hks.1 (by decide), Nat.lt_of_le_of_lt hks.2 (by decide)⟩, by show l.d.kept ≠ 0; grind⟩) fun v He ee hv => ?_)
    have hv : vQ K (l.d.g (l.d.M + (l.d.cnt + l.d.M))) v He := by rw [Dt.gE]; exact hv
    have pe := (pc.mono ee).goal (ee _ _ hgs) hv
    generalize upd He gA (.lst (gs ++ [v])) = Hf at *
    refine ss_one (s_set (i := 15) (P := vI ((l.d.cnt + 2 * l.d.M + (l.d.cnt + l.d.M) : Nat) + 1)) (ev_add (ev_v 15 (P := vI (l.d.cnt + 2 * l.d.M + (l.d.cnt + l.d.M) : Nat)) rfl) ev_i) fun v Hg eg ev => ?_)
    cases ev
    have pg := pe.mono eg
    rw [← hrows] at pg
    exact ⟨by rw [hcols]; rfl, _, pg⟩
  · have hk : ¬ 0 < l.en := by have := of_decide_eq_false hk; omega
    have hen : ¬ 0 < l.d.en := by
      show ¬ (0 : Rat) < ((l.en : Nat) : Rat)
      have : l.en = 0 := by omega
      rw [this]; decide
    have he1 := Dt.e_not hen
    have hcols : l.d.cols = l.d.cnt + 2 * l.d.M + (l.d.cnt + l.d.M) := by unfold Dt.cols; omega
    have hrows : l.d.rows = l.d.M + (l.d.cnt + l.d.M) := by unfold Dt.rows; omega
    have pg := pa.mono e7
    rw [← hrows] at pg
    exact ⟨by rw [hcols], _, pg⟩
  rintro σ' H7 ⟨rfl, nc, p7⟩
  clear pa h8a
  have hrw := Lw.rows17 O
  have hcl := Lw.cols29 O
  obtain ⟨rs, hrs, hrl, hrr⟩ := id p7.rows
  obtain ⟨gs, hgs, hgl⟩ := id p7.goals
  -- table
  refine ss_cons (s_lcD (g := gName 18) (i := 22) nd ((ei_L (ev_v 12 (P := vE (.ref rA)) rfl) (SqL.of hrs)).es fun H8 e => SqL.of (e _ _ hrs)) (blkOk_by (N := nProg) (sc := defScope sProg) (own := [("row", 18)]) (by decide +kernel)) (fun _ _ _ _ _ => pg_name (i := 18) nd rfl (Or.inr rfl)) (by omega)
    (fun D j v H => ∃ a xs, v = .ref a ∧ a ≠ D ∧ H a = some (.lst xs) ∧ vsQ K H xs l.d.cols (l.d.A j)) (fun D j v H H' e ⟨a, xs, h1, h2, h3, h4⟩ => ⟨a, xs, h1, h2, e _ _ h3, h4.mono e⟩)
    (fun D j v H xs ys hD ⟨a, zs, h1, h2, h3, h4⟩ => ⟨a, zs, h1, h2, by rw [upd_ne h2]; exact h3, mutV (.inl ⟨xs, hD⟩) h4⟩) (fun D j x H8 H9 hj e hD0 hD hy => ?_) fun tA ts H8 e8 ht0 ht1 htl htr => ?_)
  · obtain ⟨rfl, hx⟩ := hy
    obtain ⟨a, kv, q1, q2, q3, q4⟩ := hrr j (by omega)
    obtain rfl : V.ref a = x := Option.some.inj (q1.symm.trans hx)
    refine ⟨_, gt_name, Same.refl _, rfl, fun s5 H5' C5 cl5 fp5 => ?_⟩
    refine ((ev_lc (scope := scTab2) (g := gName 19) (n := l.d.cols) nd ((ei_R1 T.rng (ev_v 15 (P := vI (l.d.cols : Nat)) rfl) (by omega)).es fun _ _ => trivial) okTab (fun _ _ _ _ _ => pg_name (i := 19) nd rfl (Or.inl rfl)) (by omega) (fun k => vQ K (l.d.A j k)) (fun k x H10 H11 hk e10 hy => ?_)).imp fun v H' e10 ⟨D', ys, ev, hD', h3, h4, h5⟩ => ⟨D', ys, ev, fun z => ?_, h3, h4, h5⟩)
    · obtain ⟨rfl, rfl⟩ := hy
      exact ⟨_, gt_name, Same.refl _, rfl, fun s6 H6' C6 cl6 fp6 => ev_dget (q := 0) (hu hr) (ev_v 18 (P := vD K (l.d.A j)) ⟨a, kv, rfl, e10 _ _ (e _ _ q3), (q4.mono e).mono e10⟩) (ev_v 19 (P := vI (k : Int)) rfl) (ev_q (q := 0) ev_i ev_i rfl rfl)⟩
    · obtain ⟨xs, hD⟩ := hD
      rw [z, hD] at hD'; cases hD'
  -- found = solved(..)
  have p8 := p7.mono e8
  obtain ⟨kc, c1, c2, c3⟩ := id p8.costs
  have hLp := Lw.lp O
  have hcE : ∀ k, k < l.d.cols → cpart l.d l.d.cnt k = l.d.c k := fun k _ => rfl
  refine ss_cons (s_setW (i := 23) (we_call hS hr (ea_cons (P := vE (.ref tA)) (ev_v 22 (P := vE (.ref tA)) rfl) (ea_two (P1 := vE (.ref gA)) (P2 := vMQ K l.d.cols l.d.c) (ev_v 13 (P := vE (.ref gA)) rfl)
    ((ev_lc (g := gName 19) (n := l.d.cols) nd ((ei_R1 T.rng (ev_v 15 (P := vI (l.d.cols : Nat)) rfl) (by omega)).es fun _ _ => trivial) (blkOk_by (N := nProg) (sc := defScope sProg) (own := [("k", 19)]) (by decide +kernel)) (fun _ _ _ _ _ => pg_name (i := 19) nd rfl (Or.inl rfl)) (by omega) (fun k => vQ K (l.d.c k)) (fun k x H10 H11 hk e10 hy => ?_)).imp fun v H' _ h => h.m))) fun vs H9 e9 ⟨v1, r, ev, e1', v2, v3, er, e2', h3⟩ => ?_))
  · obtain ⟨rfl, rfl⟩ := hy
    exact ⟨_, gt_name, Same.refl _, rfl, fun s6 H6' C6 cl6 fp6 => ev_dget (q := 0) (hu hr) (ev_v 14 (P := vD K (l.d.c)) ⟨cA, kc, rfl, e10 _ _ c1, c2.mono e10⟩) (ev_v 19 (P := vI (k : Int)) rfl) (ev_q (q := 0) ev_i ev_i rfl rfl)⟩
  obtain ⟨clA, cls, rfl, h31, h32⟩ := h3
  have p9 := p8.mono e9
  refine ⟨tA, gA, clA, l.d.rows, l.d.cols, l.d.A, l.d.g, l.d.c, _, _, by rw [ev, er, e1', e2'], ⟨⟨ts, SqL.of (e9 _ _ ht1), by rw [htl, hrl], fun j hj => ?_⟩, ?_⟩, ⟨clA, cls, rfl, SqL.of h31, h32⟩, hLp, fun v H10 hno e10 ⟨y, hv⟩ => ?_, fun x y v H10 q1 q2 q3 q4 e10 hv => ?_⟩
  · obtain ⟨v, r1, a, xs, r2, r3, r4, r5⟩ := htr j (by omega)
    exact ⟨v, r1, a, xs, r2, SqL.of (e9 _ _ r4), r5.mono e9⟩
  · obtain ⟨gs, g1, g2⟩ := p9.goals
    exact ⟨gs, SqL.of g1, g2⟩
  · -- no plan
    refine ss_cons (s_if (k := true) ((et_ne (ev_ixT (ev_v 23 (P := vT K _) hv) ev_i rfl) ev_s).is (by decide)) (fun _ H11 e11 => ?_) fun z => nomatch z)
    obtain ⟨bmB, B, newId, initId, F1, F2⟩ := N.bm
    exact ss_one (s_raise0 (takes_of rfl rfl rfl rfl) F1 F2 N.mgN N.kp (raises_own N.sub N.ty) (kN H11 hno (p9.same.trans (e10.trans e11))))
  · -- the best
    obtain ⟨xa, ya, hv, hxa, hya⟩ := hv
    refine ss_cons (s_if (k := false) ((et_ne (ev_ixT (ev_v 23 (P := vT K _) hv) ev_i rfl) ev_s).is (by decide)) (fun z => nomatch z) fun _ H11 e11 => ss_nil ?_)
    have p11 := p9.mono (e10.trans e11)
    refine ss_one (s_ret (P := vT K [.ref sA, .int (l.d.cnt : Int), v]) ((ev_tup (n := 3) (ea_cons (P := vE (.ref sA)) (ev_v 9 (P := vE (.ref sA)) rfl) (ea_two (P1 := vI (l.d.cnt : Int)) (P2 := vE v) (ev_v 10 (P := vI (l.d.cnt : Int)) rfl) (ev_v 23 (P := vE v) rfl))) (fun vs H ⟨v, w, e, _, v2, w2, e2, _⟩ => by rw [e, e2]; exact Nat.le_refl 3)).imp fun v' H' _ ⟨p, vs, H1', e1', e2', _, v1, w1, e3', p1, v2, w2, e4', p2, p3⟩ => ⟨p, e1', SqT.of (by rw [e2', e3', p1, e4', p2, p3])⟩) fun v' H12 e12 h12 => ?_)
    exact kB x y v' H12 ⟨q1, q2, q3, q4⟩ (p11.same.trans e12) ⟨.ref sA, v, h12, ⟨sA, rfl, SqL.of (e12 _ _ p11.st)⟩, xa, ya, Stb.mono (e11.trans e12) hv, Stb.mono (e11.trans e12) hxa, Stb.mono (e11.trans e12) hya⟩
end
end Dw
set_option Elab.async false
set_option linter.all false
set_option maxRecDepth 100000
set_option maxHeartbeats 4000000
set_option pp.maxSteps 300
/-! month_worth, worth_of, plan_of -/
namespace Dw
open PySem PySem.Spec PyProof.Rows L2 RZ
theorem Fr.sz {d N b : Nat} {q : Rat} (h : Fr d N q) (h0 : 0 < d) (hd : d < 2 ^ b) (hN : N < 2 ^ b) : Sz b q := by
  obtain ⟨z, z1, z2⟩ := h
  exact frac_size (d := (d : Int)) (z := z) (by omega) (by simpa using hd) (by omega) z1
/-- one bottom for all -/
structure Bot (dd : Nat) : Prop where
  p : 0 < dd
  l : dd < 2 ^ 236
theorem Bot.sz {dd N : Nat} {q : Rat} (B : Bot dd) (h : Fr dd N q) (hN : N < 2 ^ 4400) : Sz L q := h.sz B.p (Nat.lt_of_lt_of_le B.l (Nat.pow_le_pow_right (by decide) (by decide))) hN
theorem Bot.nat {dd n k : Nat} (B : Bot dd) (h : n ≤ k) : Fr dd (k * 2 ^ 236) (n : Rat) := (Fr.int (Lw.isI_nat h)).mono (Nat.mul_le_mul_left _ (Nat.le_of_lt B.l))
abbrev bW : Nat := 2 ^ 244
section
variable {l : Lw} {dd : Nat}
theorem am9 (O : l.Ok) {j k : Nat} (hj : j < l.d.M) (hk : k < (l.ps j).length) : ((l.ps j).getD k (0, 0)).1 ≤ 9 ∧ ((l.ps j).getD k (0, 0)).2 ≤ 9 := by
  have := O.w9 _ (Lw.ps_mem O hj) _ (getD_mem (d := (0, 0)) hk)
  omega
theorem shr_fr (O : l.Ok) (B : Bot dd) {j k N : Nat} {rest : Rat} (hj : j < l.d.M) (hk : k < (l.ps j).length) (h : Fr dd N rest) (hN : bW ≤ N) : Fr dd N (l.d.shr (l.d.st j + k) rest) := by
  unfold Dt.shr
  split
  · exact h
  · rw [Lw.am_at (by rw [O.wl]; exact hj) hk]
    exact (B.nat (am9 O hj hk).1).mono (Nat.le_trans (by decide) hN)
theorem mw_fr (O : l.Ok) (B : Bot dd) {j : Nat} {r : Rat} (hj : j < l.d.M) (h : Fr dd bW r) : ∀ k, k ≤ (l.ps j).length → Fr dd (2 ^ k * bW) (l.d.mw (l.d.st j) r k).2 ∧ Fr dd (2 ^ k * (16 * bW)) (l.d.mw (l.d.st j) r k).1
  | 0, _ => ⟨by rw [Nat.pow_zero, Nat.one_mul]; exact h, Fr.zero⟩
  | k + 1, hk => by
    obtain ⟨h1, h2⟩ := mw_fr O B hj h k (by omega)
    have hs := shr_fr O B hj (by omega : k < (l.ps j).length) h1 (by have := Nat.two_pow_pos k; exact Nat.le_mul_of_pos_left _ this)
    have hp : isI 9 (l.d.pr (l.d.st j + k)) := by
      rw [Lw.pr_at (by rw [O.wl]; exact hj) (by omega)]
      exact Lw.isI_nat (am9 O hj (by omega)).2
    refine ⟨(h1.sub hs).mono (by rw [Nat.pow_succ, Nat.mul_right_comm, Nat.mul_two]; exact Nat.le_refl _), (h2.add (by rw [Rat.mul_comm]; exact Fr.mulI hp hs)).mono ?_⟩
    rw [Nat.pow_succ]
    generalize 2 ^ k = e
    have : e * (16 * bW) + 9 * (e * bW) = 25 * (e * bW) := by rw [Nat.mul_left_comm]; omega
    have e2 : e * 2 * (16 * bW) = 32 * (e * bW) := by rw [Nat.mul_assoc, Nat.mul_left_comm e 2, Nat.mul_left_comm e 16]; omega
    omega
theorem ps2 (O : l.Ok) {j : Nat} (hj : j < l.d.M) : (l.ps j).length ≤ 2 := O.w2 _ (Lw.ps_mem O hj)
theorem mw_fin (O : l.Ok) (B : Bot dd) {j k : Nat} {r : Rat} (hj : j < l.d.M) (h : Fr dd bW r) (hk : k ≤ (l.ps j).length) : Fr dd (2 ^ 250) (l.d.mw (l.d.st j) r k).2 ∧ Fr dd (2 ^ 250) (l.d.mw (l.d.st j) r k).1 := by
  obtain ⟨h1, h2⟩ := mw_fr O B hj h k hk
  have hk2 : k ≤ 2 := Nat.le_trans hk (ps2 O hj)
  have : 2 ^ k ≤ 2 ^ 2 := Nat.pow_le_pow_right (by decide) hk2
  exact ⟨h1.mono (Nat.le_trans (Nat.mul_le_mul_right _ this) (by decide)), h2.mono (Nat.le_trans (Nat.mul_le_mul_right _ this) (by decide))⟩
end
section
variable {P : Program} {w : World} {K : PySem.W.Frag} {mg : Str → Option Value} {base : Heap} {C NP : Addr}
def spMonth (K : PySem.W.Frag) : Sp := fun vs H Q _ => ∃ (l : Lw) (j dd : Nat) (r : Rat) (vp vr : V), vs = [vp, vr] ∧ vPs K (l.ps j) vp H ∧ vQ K r vr H ∧ l.Ok ∧ j < l.d.M ∧ Bot dd ∧ Fr dd bW r ∧ ∀ v H', Same H H' → vQ K (l.d.mw (l.d.st j) r (l.ps j).length).1 v H' → Q v H'
abbrev sMonth : Stmt := top 37
abbrev nMonth : List Str := ["pieces", "release", "found", "rest", "amount", "price", "share"]
theorem scMonth : FnScope nMonth ["pieces", "release"] (defScope sMonth) := ⟨rfl, rfl, rfl, by decide +kernel, rfl, by decide +kernel, by decide +kernel⟩
theorem ok_month {f : Addr} {fd : FuncData} (F : Fun K "month_worth" "month_worth" sMonth f fd) (hQ : HasQ P w K mg base) : FnOk P w K mg base CX0 3 f fd ["pieces", "release"] (spMonth K) := by
  refine F.ok scMonth (fun vs H Q E h => ?_) (fun cdv A0 outer s H vs Q E hr h => ⟨_, wss_self, ?_⟩)
  · obtain ⟨l, j, dd, r, vp, vr, rfl, _⟩ := h; rfl
  obtain ⟨l, j, dd, r, vp, vr, rfl, hp, hv, O, hj, B, hF, k⟩ := h
  have nd := scMonth.nd
  obtain ⟨pp, ps, rfl, hpp, hpl, hps⟩ := id hp
  refine ss_cons (s_par (i := 2) (j := 3) (P1 := vQ K 0) (P2 := vQ K r) (ev_q (q := 0) ev_i ev_i rfl rfl) (ev_v 1 hv) (fun v2 v3 H1 e1 h2 h3 => ?_) nd)
  refine ss_cons (s_for (g := g2 K 4 5) PassesOwn.never (ei_T (ev_v 0 (P := vE (.ref pp)) rfl) (sameT e1 hpp)) (pg_tup rfl (pgs_cons (pg_name (i := 4) nd rfl (Or.inl rfl)) (pgs_cons (pg_name (i := 5) nd rfl (Or.inl rfl)) pgs_nil)))
    (fun i σ' H' => ∃ v2 v3 o4 o5 o6, σ' = [some (.ref pp), some vr, some v2, some v3, o4, o5, o6] ∧ Same H H' ∧ vQ K (l.d.mw (l.d.st j) r i).1 v2 H' ∧ vQ K (l.d.mw (l.d.st j) r i).2 v3 H')
    (fun H2 e2 => ⟨v2, v3, none, none, none, rfl, e1.trans e2, Stb.mono e2 h2, Stb.mono e2 h3⟩) (fun i σ' H' _ ⟨_, _, _, _, _, _, e, _⟩ => sameT e hpp) ?_ ?_)
  · rintro i x σ' H2 H3 hi ⟨v2, v3, o4, o5, o6, rfl, e, h2, h3⟩ ⟨rfl, hx⟩
    have hi : i < (l.ps j).length := by omega
    obtain ⟨u, q1, c, rfl, q2⟩ := hps i _ (getD_of (d := (0, 0)) hi)
    obtain rfl : V.ref c = x := Option.some.inj (q1.symm.trans hx)
    have hjw : j < l.w.length := by rw [O.wl]; exact hj
    have ham := Lw.am_at (l := l) hjw hi
    have hpr := Lw.pr_at (l := l) hjw hi
    have hn := am9 O hj hi
    obtain ⟨f2, f1⟩ := mw_fin O B hj hF (Nat.le_of_lt hi)
    have fs := shr_fr O B hj hi f2 (by decide)
    have fp : isI 9 (l.d.pr (l.d.st j + i)) := by rw [hpr]; exact Lw.isI_nat hn.2
    have fa : isI 9 (l.d.am (l.d.st j + i)) := by rw [ham]; exact Lw.isI_nat hn.1
    generalize (l.ps j).getD i (0, 0) = pr at *
    have zr : Sz L (l.d.mw (l.d.st j) r i).2 := B.sz f2 (Nat.pow_lt_pow_right (by decide) (by decide))
    have zf : Sz L (l.d.mw (l.d.st j) r i).1 := B.sz f1 (Nat.pow_lt_pow_right (by decide) (by decide))
    have zs : Sz L (l.d.shr (l.d.st j + i) (l.d.mw (l.d.st j) r i).2) := B.sz fs (Nat.pow_lt_pow_right (by decide) (by decide))
    have zi : ∀ {q : Rat}, isI 9 q → Sz L q := fun ⟨z, z1, z2⟩ => by
      rw [z1]; exact Sz.int (Nat.lt_of_le_of_lt z2 (by decide)) (by decide)
    have zsp : Sz L (l.d.shr (l.d.st j + i) (l.d.mw (l.d.st j) r i).2 * l.d.pr (l.d.st j + i)) := B.sz (N := 9 * 2 ^ 250) (by rw [Rat.mul_comm]; exact Fr.mulI fp fs) (Nat.lt_of_le_of_lt (by decide : 9 * 2 ^ 250 ≤ 2 ^ 254) (Nat.pow_lt_pow_right (by decide) (by decide)))
    refine ⟨_, gt_two (sameT e q2), ?_⟩
    refine ss_cons (s_set (i := 6) (P := vQ K (l.d.shr (l.d.st j + i) (l.d.mw (l.d.st j) r i).2)) (ev_if (k := decide ((l.d.mw (l.d.st j) r i).2 < l.d.am (l.d.st j + i))) (et_val (ev_less hQ (hr.mono (by decide)) (ev_v 3 h3) (ev_qi (ev_v 4 (P := vI (pr.1 : Int)) rfl) (by rw [ham]; rfl)) ⟨zr, zi fa⟩)) (fun hk => ?_) (fun hk => ?_)) fun v6 H4 e4 h6 => ?_)
    · rw [show l.d.shr (l.d.st j + i) (l.d.mw (l.d.st j) r i).2 = (l.d.mw (l.d.st j) r i).2 from if_pos (of_decide_eq_true hk)]
      exact ev_v 3 h3
    · rw [show l.d.shr (l.d.st j + i) (l.d.mw (l.d.st j) r i).2 = l.d.am (l.d.st j + i) from if_neg (of_decide_eq_false hk)]
      exact ev_qi (ev_v 4 (P := vI (pr.1 : Int)) rfl) (by rw [ham]; rfl)
    refine ss_cons (s_set (i := 2) (P := vQ K (l.d.mw (l.d.st j) r (i + 1)).1) (ev_plus hQ (hr.mono (by decide)) (ev_v 2 (Stb.mono e4 h2)) (ev_by hQ (hr.mono (by decide)) (ev_v 6 h6) (ev_qi (ev_v 5 (P := vI (pr.2 : Int)) rfl) (by rw [hpr]; rfl)) ⟨zs, zi fp⟩) ⟨zf, zsp⟩) fun v5 H5 e5 h5 => ?_)
    refine ss_one (s_set (i := 3) (P := vQ K (l.d.mw (l.d.st j) r (i + 1)).2) (ev_minus hQ (hr.mono (by decide)) (ev_v 3 (Stb.mono (e4.trans e5) h3)) (ev_v 6 (Stb.mono e5 h6)) ⟨zr, zs⟩) fun v7 H6 e6 h7 => ?_)
    exact ⟨_, _, _, _, _, rfl, ((e.trans e4).trans e5).trans e6, Stb.mono e6 h5, h7⟩
  · rintro σ' H2 ⟨v2, v3, o4, o5, o6, rfl, e, h2, h3⟩
    rw [hpl] at h2
    exact ss_one (s_ret (ev_v 2 h2) fun v H3 e3 h => k v H3 (e.trans e3) h)
abbrev HasMo (P : Program) (w : World) (K : PySem.W.Frag) (mg : Str → Option Value) (base : Heap) : Prop := Has P w K mg base CX0 "month_worth" 3 ["pieces", "release"] (spMonth K)
/-- worth_of(worths, plan) -/
def spWorth (K : PySem.W.Frag) : Sp := fun vs H Q _ => ∃ (l : Lw) (dd : Nat) (r : Nat → Rat) (vw vp : V), vs = [vw, vp] ∧ vWs K l.w vw H ∧ vTQ K l.d.M r vp H ∧ l.Ok ∧ Bot dd ∧ (∀ j, j < l.d.M → Fr dd bW (r j)) ∧ ∀ v H', Same H H' → vQ K (S l.d.M fun j => (l.d.mw (l.d.st j) (r j) (l.ps j).length).1) v H' → Q v H'
abbrev sWorth : Stmt := top 38
abbrev nWorth : List Str := ["worths", "plan", "found", "pieces", "release"]
theorem scWorth : FnScope nWorth ["worths", "plan"] (defScope sWorth) := ⟨rfl, rfl, rfl, by decide +kernel, rfl, by decide +kernel, by decide +kernel⟩
theorem ok_worth {f : Addr} {fd : FuncData} (F : Fun K "worth_of" "worth_of" sWorth f fd) (T : TxP K mg C) (hQ : HasQ P w K mg base) (hM : HasMo P w K mg base) : FnOk P w K mg base CX0 4 f fd ["worths", "plan"] (spWorth K) := by
  refine F.ok scWorth (fun vs H Q E h => ?_) (fun cdv A0 outer s H vs Q E hr h => ⟨_, wss_self, ?_⟩)
  · obtain ⟨l, dd, r, vw, vp, rfl, _⟩ := h; rfl
  obtain ⟨l, dd, r, vw, vp, rfl, hw, ⟨pp, ps, rfl, hpp, hps⟩, O, B, hF, k⟩ := h
  have nd := scWorth.nd
  obtain ⟨wp, ws, rfl, hwp, hwl, hws⟩ := id hw
  have hM4 : l.d.M ≤ 4 := O.M4
  have hlw : l.w.length = l.d.M := O.wl
  have hmin : min ws.length ps.length = l.d.M := by have := hps.1; omega
  have hsum : ∀ i, i ≤ l.d.M → Sz L (S i fun j => (l.d.mw (l.d.st j) (r j) (l.ps j).length).1) := fun i hi => B.sz (N := 4 * 2 ^ 250) ((Fr.S (N := 2 ^ 250) fun j hj => (mw_fin O B (by omega) (hF j (by omega)) (Nat.le_refl _)).2).mono (Nat.mul_le_mul_right _ (by omega))) (Nat.lt_of_le_of_lt (by decide : 4 * 2 ^ 250 ≤ 2 ^ 252) (Nat.pow_lt_pow_right (by decide) (by decide)))
  refine ss_cons (s_set (i := 2) (P := vQ K 0) (ev_q (q := 0) ev_i ev_i rfl rfl) fun v1 H1 e1 h1 => ?_)
  refine ss_cons (s_for (g := g2 K 3 4) PassesOwn.never (ei_ZT T.zip (ev_v 0 (P := vE (.ref wp)) rfl) (ev_v 1 (P := vE (.ref pp)) rfl) (sameT e1 hwp) (sameT e1 hpp)) (pg_tup rfl (pgs_cons (pg_name (i := 3) nd rfl (Or.inl rfl)) (pgs_cons (pg_name (i := 4) nd rfl (Or.inl rfl)) pgs_nil)))
    (fun i σ' H' => ∃ v2 o3 o4, σ' = [some (.ref wp), some (.ref pp), some v2, o3, o4] ∧ Same H H' ∧ vQ K (S i fun j => (l.d.mw (l.d.st j) (r j) (l.ps j).length).1) v2 H')
    (fun H2 e2 => ⟨v1, none, none, rfl, e1.trans e2, Stb.mono e2 h1⟩) (fun i σ' H' _ ⟨_, _, _, _, e, _⟩ => ⟨sameT e hwp, sameT e hpp⟩) ?_ ?_)
  · rintro i x σ' H2 H3 hi ⟨v2, o3, o4, rfl, e, h2⟩ hy
    obtain ⟨T', x1, y, rfl, q1, q2, hs, hT', _⟩ := ypair_same hy
    have hi : i < l.d.M := by omega
    obtain ⟨u, r1, r2⟩ := hws i _ (getD_of (d := []) (by omega : i < l.w.length))
    obtain rfl : u = x1 := Option.some.inj (r1.symm.trans q1)
    obtain ⟨u', r3, r4⟩ := hps.2 i hi
    obtain rfl : u' = y := Option.some.inj (r3.symm.trans q2)
    have e3 := e.trans hs
    refine ⟨_, gt_two (SqT.of hT'), ?_⟩
    refine ss_one (s_set (i := 2) (P := vQ K (S (i + 1) fun j => (l.d.mw (l.d.st j) (r j) (l.ps j).length).1)) (ev_plus hQ (hr.mono (by decide)) (ev_v 2 (Stb.mono hs h2)) (ev_call (P := vQ K (l.d.mw (l.d.st i) (r i) (l.ps i).length).1) hM (hr.mono (by decide)) (ea_two (P1 := vPs K (l.ps i)) (P2 := vQ K (r i)) (ev_v 3 (P := vPs K (l.ps i)) (Stb.mono (P := vPs K (l.ps i)) e3 r2)) (ev_v 4 (Stb.mono e3 r4))) fun vs H5 e5 ⟨a, b, ev, h5, h6⟩ Q k => ⟨l, i, dd, r i, a, b, ev, h5, h6, O, hi, B, hF i hi, k⟩) ⟨hsum i (by omega), B.sz (mw_fin O B hi (hF i hi) (Nat.le_refl _)).2 (Nat.pow_lt_pow_right (by decide) (by decide))⟩) fun v3 H4 e4 h4 => ⟨v3, _, _, rfl, e3.trans e4, h4⟩)
  · rintro σ' H2 ⟨v2, o3, o4, rfl, e, h2⟩
    rw [hmin] at h2
    exact ss_one (s_ret (ev_v 2 h2) fun v H3 e3 h => k v H3 (e.trans e3) h)
end
end Dw
set_option Elab.async false
set_option linter.all false
set_option maxRecDepth 100000
set_option maxHeartbeats 4000000
set_option pp.maxSteps 300
/-! plan_of, leak_worth, leak_plan, leak_prices -/
namespace Dw
open PySem PySem.Spec PyProof.Rows L2 RZ
section
variable {X : Cx} {e a b : Expr} {es : List Expr} {σ : L2.St} {H : Hp} {pos p : Pos} {R : List V → Hp → Prop} {D : Ends}
theorem ea_star {xs : List V} (ha : EV X e σ H (vL X.K xs)) (hr : EA X es σ H R) (hs : starEach (.Starred e p :: es) X.env = (true, eval e X.env) :: starEach es X.env := by rfl) : EA X (.Starred e p :: es) σ H (fun vs H => ∃ r, vs = xs ++ r ∧ R r H) :=
  fun H1 e1 Q q => wa_of (StX.pa_star we_self wa_self hs) (ha H1 e1 _ fun v H2 e2 ⟨q', ev, hq⟩ => ⟨q', xs, ev, .inr hq, hr H2 (e1.trans e2) _ fun r H3 e3 p2 => q _ H3 (e2.trans e3) ⟨r, rfl, p2⟩⟩)
theorem cutV_nat (xs : List V) (a b : Nat) : cutV xs (some (a : Int)) (some (b : Int)) = (xs.drop (min a xs.length)).take (min b xs.length - min a xs.length) := by
  unfold cutV; rw [HT.sIx_nat, HT.sIx_nat]
/-- tuple(a list) -/
theorem ev_tupleL {n : Nat} {f : Nat → Rat} (hm : X.mg "tuple" = none) (ha : EV X a σ H (vMQ X.K n f)) (hg : Gl X "tuple" := by rfl) (hs : starEach [a] X.env = (false, eval a X.env) :: starEach [] X.env := by rfl) : EV X (.Call (.Name "tuple" p) [a] [] pos) σ H (vTQ X.K n f) :=
  ev_ty call_tuple_of hm (ea_one ha hs) (fun vs H1 e1 ⟨v, ev, q, xs, eq, hq, hx⟩ Q k => ⟨q, xs, by rw [ev, eq], .inl ⟨SqL.of hq, fun l hl => k _ _ (same_new hl) ⟨l, xs, rfl, SqT.of upd_same, hx.mono (same_new hl)⟩⟩⟩) (by decide +kernel) hg (by decide) (by decide) hs
/-- e as a statement, whatever it changes -/
theorem s_exprW (he : WE X e σ H fun _ H' => D.nx σ H') (hs : swapsWith e none pos.line X.env = pure false := by rfl) : WS X (.Expr e pos) D σ H := ws_of (ps_expr we_self hs) he
end
/-! ### the tables of code objects -/
def Tb (Ts : List Addr) (H : Hp) : Prop := ∀ P ∈ Ts, GxR.TabG H P
/-- all but those tables stays, and tables they are -/
structure XT (Ts : List Addr) (H H' : Hp) : Prop where
  keep : SameB Ts H H'
  tb : Tb Ts H'
theorem Tb.same {Ts : List Addr} {H H' : Hp} (t : Tb Ts H) (e : Same H H') : Tb Ts H' := fun P hP => let ⟨ps, h1, h2⟩ := t P hP; ⟨ps, e _ _ h1, h2⟩
theorem XT.of {Ts : List Addr} {H H' : Hp} (t : Tb Ts H) (e : Same H H') : XT Ts H H' := ⟨sb_of e, t.same e⟩
theorem XT.trans {Ts : List Addr} {H H1 H2 : Hp} (a : XT Ts H H1) (b : XT Ts H1 H2) : XT Ts H H2 := ⟨a.keep.trans b.keep, b.tb⟩
/-- what does not speak of tables -/
class Stx (P : V → Hp → Prop) : Prop where
  mono : ∀ {Ts : List Addr} {v : V} {H H' : Hp}, Tb Ts H → SameB Ts H H' → P v H → P v H'
theorem xtT {K : PySem.W.Frag} {Ts : List Addr} {H H' : Hp} {a : Addr} {xs : List V} (t : Tb Ts H) (e : SameB Ts H H') (h : SqT K H a xs) : SqT K H' a xs := by
  have n : ∀ o, H a = some o → (∀ ps, o ≠ .tbl ps) → a ∉ Ts := fun o h1 h2 z => by
    obtain ⟨ps, h3, _⟩ := t a z
    rw [h1] at h3; exact h2 _ (Option.some.inj h3)
  rcases h with (h | ⟨o, h⟩) | h
  · exact .inl (.inl (e _ _ (n _ h (by intro _ z; cases z)) h))
  · exact .inl (.inr ⟨o, e _ _ (n _ h (by intro _ z; cases z)) h⟩)
  · exact .inr h
instance {x : V} : Stx (vE x) := ⟨fun _ _ h => h⟩
instance {K : PySem.W.Frag} {xs : List V} : Stx (vT K xs) := ⟨fun t e ⟨p, h, q⟩ => ⟨p, h, xtT t e q⟩⟩
instance {K : PySem.W.Frag} {q : Rat} : Stx (vQ K q) := ⟨fun t e h => Stx.mono (P := vT K _) t e h⟩
instance {α : Type} {K : PySem.W.Frag} {R : α → V → Hp → Prop} {xs : List α} [∀ x, Stx (R x)] : Stx (vTl K R xs) := ⟨fun t e ⟨p, vs, h1, h2, h3, h4⟩ => ⟨p, vs, h1, xtT t e h2, h3, fun i x hx => let ⟨u, q1, q2⟩ := h4 i x hx; ⟨u, q1, Stx.mono t e q2⟩⟩⟩
instance {K : PySem.W.Frag} {l : Lw} : Stx (vDam K l) := ⟨fun t e ⟨p, ip, h1, h2, h3⟩ => ⟨p, ip, h1, xtT t e h2, xtT t e h3⟩⟩
instance {K : PySem.W.Frag} {n : Nat} {f : Nat → Rat} : Stx (vTQ K n f) := ⟨fun t e ⟨p, xs, h, q, r⟩ => ⟨p, xs, h, xtT t e q, r.1, fun i hi => let ⟨x, h1, h2⟩ := r.2 i hi; ⟨x, h1, Stx.mono t e h2⟩⟩⟩
section
variable {P : Program} {w : World} {K : PySem.W.Frag} {mg : Str → Option Value} {base : Heap} {C NP : Addr} {Ts : List Addr}
abbrev HasPo (P : Program) (w : World) (K : PySem.W.Frag) (mg : Str → Option Value) (base : Heap) (NP : Addr) : Prop := HasX P w K mg base "program_of" 8 ["dam", "loss", "worths"] (spX K NP (vFound K))
abbrev sPlan : Stmt := top 44
abbrev nPlan : List Str := ["dam", "loss", "worths", "starts", "count", "found", "plan", "month", "pieces"]
theorem scPlan : FnScope nPlan ["dam", "loss", "worths"] (defScope sPlan) := ⟨rfl, rfl, rfl, by decide +kernel, rfl, by decide +kernel, by decide +kernel⟩
def vPlan (K : PySem.W.Frag) (l : Lw) (x _y : Nat → Rat) : V → Hp → Prop := vTQ K l.d.M (l.d.rel x)
theorem ok_plan {f : Addr} {fd : FuncData} (F : Fun K "plan_of" "plan_of" sPlan f fd) (T : TxP K mg C) (hS : HasS P w K mg base) (hP : HasPo P w K mg base NP) : FnOk P w K mg base (L2.CX P w) 9 f fd ["dam", "loss", "worths"] (spX K NP (vPlan K)) := by
  refine F.okX scPlan (fun vs H Q E h => ?_) (fun cdv A0 outer s H vs Q E hr h => ⟨_, wss_self, ?_⟩)
  · obtain ⟨l, vd, vl, vw, rfl, _⟩ := h; rfl
  obtain ⟨l, vd, vl, vw, rfl, hd, hl, hw, O, kN, kB⟩ := h
  have nd := scPlan.nd
  have hM4 : l.d.M ≤ 4 := O.M4
  have hc8 := Lw.cnt8 O
  have hlw : l.w.length = l.d.M := O.wl
  obtain ⟨wp, ws, rfl, hwp, hwl, hws⟩ := id hw
  have hcols : l.d.cnt + l.d.M ≤ l.d.cols := by unfold Dt.cols; omega
  refine ss_cons (s_asgW (g := g3 K 3 4 5) (we_callX (W := fun cls d _ H => E cls d H) hP (takes_of rfl rfl rfl rfl) hr (ea_cons (P := vDam K l) (ev_v 0 hd) (ea_two (P1 := vQ K l.loss) (P2 := vWs K l.w) (ev_v 1 hl) (ev_v 2 hw))) fun vs H1 e1 ⟨v1, r, ev, h1, v2, v3, er, h2, h3⟩ => ⟨l, v1, v2, v3, by rw [ev, er], h1, h2, h3, O, fun H' hno e σ => kN H' hno (e1.trans e), fun x y v H2 b3 e2 ⟨sa, fa, ⟨tp, ev, htp⟩, hs, hb⟩ => ?_⟩) (pg_tup rfl (pgs_cons (pg_name (i := 3) nd rfl (Or.inl rfl)) (pgs_cons (pg_name (i := 4) nd rfl (Or.inl rfl)) (pgs_cons (pg_name (i := 5) nd rfl (Or.inl rfl)) pgs_nil)))))
  subst ev
  refine ⟨_, gt_three htp, ?_⟩
  have e02 := e1.trans e2
  obtain ⟨xa, ya, hfa, ⟨xp, xs, rfl, hxp, hxs⟩, hya⟩ := hb
  obtain ⟨dd, d0, dl, hx, hy⟩ := b3.fine
  -- plan = []
  refine ss_cons (s_set (i := 6) (P := vNew H2) ev_new fun v3 H3 e3 ⟨pA, ev, hp0, hp1⟩ => ?_)
  subst ev
  refine ss_cons (s_for (g := g2 K 7 8) (passes_of rfl) (ei_ET T.enu (ev_v 2 (P := vE (.ref wp)) rfl) (sameT (e02.trans e3) hwp)) (pg_tup rfl (pgs_cons (pg_name (i := 7) nd rfl (Or.inl rfl)) (pgs_cons (pg_name (i := 8) nd rfl (Or.inl rfl)) pgs_nil)))
    (fun i σ' H' => ∃ o7 o8 ys, σ' = [some vd, some vl, some (.ref wp), some sa, some (.int (l.d.cnt : Int)), some fa, some (.ref pA), o7, o8] ∧ Same H2 H' ∧ H' pA = some (.lst ys) ∧ vsQ K H' ys i (l.d.rel x))
    (fun H4 e4 => ⟨none, none, [], rfl, e3.trans e4, e4 _ _ hp1, rfl, fun i hi => absurd hi (by omega)⟩) (fun i σ' H' _ ⟨_, _, _, _, e, _⟩ => sameT (e02.trans e) hwp) ?_ ?_)
  · rintro i z σ' H4 H5 hi ⟨o7, o8, ys, rfl, e4, hpA, hys⟩ hyp
    obtain ⟨T', x1, y1, rfl, q1, q2, hs5, hT', _⟩ := ypair_same hyp
    cases q1
    have hi : i < l.d.M := by omega
    have hst := Dt.st_le (d := l.d) hi
    have hst : l.d.st i + (l.ps i).length ≤ l.d.cnt := hst
    obtain ⟨u, r1, r2⟩ := hws i _ (getD_of (d := []) (by omega : i < l.w.length))
    obtain rfl : u = y1 := Option.some.inj (r1.symm.trans q2)
    have e5 := e4.trans hs5
    have r2 := Stb.mono (P := vPs K (l.ps i)) (e02.trans e5) r2
    refine ⟨_, gt_two (SqT.of hT'), ?_⟩
    have hfound : ∀ {X : Cx} {a : Expr} {σ : L2.St} {H' : Hp} {p1 p2 : Pos} {j}, X.K = K → Same H2 H' → EV X a σ H' (vE fa) → EV X (.Subscript a (.Constant (.int 1) j p2) p1) σ H' (vL X.K xs) := fun {X a σ H' p1 p2 j} hK e ha => by
      subst hK
      exact (ev_ixT (ha.imp (P1 := vT X.K _) fun v H'' e' ev => by rw [show v = fa from ev]; exact Stb.mono (e.trans e') hfa) ev_i rfl).imp fun v H'' e' ev => ⟨xp, ev, (e.trans e').seq hxp⟩
    have hslice : cutV xs (some (l.d.st i : Int)) (some ((l.d.st i + (l.ps i).length : Nat) : Int)) = (xs.drop (l.d.st i)).take (l.ps i).length := by
      rw [cutV_nat]
      have h1 : min (l.d.st i) xs.length = l.d.st i := by have := hxs.1; omega
      have h2 : min (l.d.st i + (l.ps i).length) xs.length = l.d.st i + (l.ps i).length := by have := hxs.1; omega
      rw [h1, h2]
      congr 1; omega
    have hlen : ((xs.drop (l.d.st i)).take (l.ps i).length).length = (l.ps i).length := by
      rw [List.length_take, List.length_drop, hxs.1]; omega
    obtain ⟨vx, g1, g2'⟩ := hxs.2 (l.d.cnt + i) (by omega)
    have hps2 := ps2 O hi
    -- plan.append(sum_of([..]))
    refine ss_one (s_app (l := pA) (P := vQ K (l.d.rel x i)) (ev_v 6 (P := vE (.ref pA)) rfl) (hs5 _ _ hpA) (by have := hys.1; omega) (ev_call hS (hr.mono (by decide)) (ea_one (P := vLQ K ((l.ps i).length + 1) fun q => if q < (l.ps i).length then x (l.d.st i + q) else x (l.d.cnt + i))
      ((ev_lst (n := 3) (ea_star (xs := (xs.drop (l.d.st i)).take (l.ps i).length) ((ev_sliceLL (hfound rfl e5 (ev_v 5 (P := vE fa) rfl)) (ev_ixL (ev_v 3 (P := vL K _) (Stb.mono e5 hs)) (ev_v 7 (P := vI (i : Int)) rfl) (atI_nat (by rw [List.getElem?_map, List.getElem?_range hi]; rfl : ((List.range l.d.M).map fun j => V.int (l.d.st j : Int))[i]? = some (.int (l.d.st i : Int))))) (ev_add (ev_ixL (ev_v 3 (P := vL K _) (Stb.mono e5 hs)) (ev_v 7 (P := vI (i : Int)) rfl) (atI_nat (by rw [List.getElem?_map, List.getElem?_range hi]; rfl : ((List.range l.d.M).map fun j => V.int (l.d.st j : Int))[i]? = some (.int (l.d.st i : Int))))) (ev_lenTl T.len (ev_v 8 (P := vPs K (l.ps i)) r2)))).imp fun v H' e h => by
          have h := vNE.vL (K := K) h
          have ez : (l.d.st i : Int) + ((l.ps i).length : Int) = ((l.d.st i + (l.ps i).length : Nat) : Int) := by omega
          rw [ez, hslice] at h; exact h)
        (ea_one (P := vE vx) (ev_ixL (hfound rfl e5 (ev_v 5 (P := vE fa) rfl)) (ev_add (ev_v 4 (P := vI (l.d.cnt : Int)) rfl) (ev_v 7 (P := vI (i : Int)) rfl)) (atI_nat g1)))) (fun vs H ⟨r, e, v, e2, _⟩ => by rw [e, e2, List.length_append, hlen]; show (l.ps i).length + 1 ≤ 3; omega)).imp fun v H' e' ⟨p, vs, H9, ev, _, hp, e9, r, er, v9, e10, ev9⟩ => ⟨p, vs, ev, SqL.of hp, by rw [er, e10, List.length_append, hlen]; rfl, fun q hq => ?_⟩)) fun vs H6 e6 ⟨v, ev, h6⟩ Q kk => ⟨v, _, 244, _, ev, h6, ⟨fun q hq => ?_, ?_, by decide, by omega⟩, fun v' H7 e7 h7 => kk v' H7 e7 ?_⟩) fun v H6 e6 h6 => ?_)
    · rw [er, e10]
      by_cases c : q < (l.ps i).length
      · obtain ⟨y', c1, c2⟩ := hxs.2 (l.d.st i + q) (by omega)
        refine ⟨y', ?_, by show vQ K (if q < (l.ps i).length then x (l.d.st i + q) else x (l.d.cnt + i)) y' H'; rw [if_pos c]; exact Stb.mono (e5.trans e') c2⟩
        rw [List.getElem?_append_left (by omega), List.getElem?_take_of_lt c, List.getElem?_drop]; exact c1
      · have : q = (l.ps i).length := by omega
        subst this
        refine ⟨v9, ?_, by show vQ K (if (l.ps i).length < (l.ps i).length then x (l.d.st i + (l.ps i).length) else x (l.d.cnt + i)) v9 H'; rw [if_neg (Nat.lt_irrefl _), show v9 = vx from ev9]; exact Stb.mono (e5.trans e') g2'⟩
        rw [List.getElem?_append_right (by omega), hlen, Nat.sub_self]; rfl
    · show Sz 244 (if q < (l.ps i).length then x (l.d.st i + q) else x (l.d.cnt + i))
      split
      · exact (hx _ (by omega)).sz d0 (Nat.lt_trans dl (by decide)) (by decide)
      · exact (hx _ (by omega)).sz d0 (Nat.lt_trans dl (by decide)) (by decide)
    · have : ((l.ps i).length + 1) * (244 + 1) ≤ 3 * 245 := Nat.mul_le_mul_right _ (by omega)
      exact Nat.le_trans (Nat.succ_le_succ this) (by decide)
    · rw [S_succ, if_neg (Nat.lt_irrefl _)] at h7
      have : (S (l.ps i).length fun q => if q < (l.ps i).length then x (l.d.st i + q) else x (l.d.cnt + i)) = S (l.ps i).length fun q => x (l.d.st i + q) := S_congr fun q hq => if_pos hq
      rw [this] at h7; exact h7
    · have hm : IsM H6 pA := .inl ⟨_, e6 _ _ (hs5 _ _ hpA)⟩
      refine ⟨_, _, _, rfl, upd_new (e5.trans e6) hp0, upd_same, by rw [List.length_append, hys.1]; rfl, fun q hq => ?_⟩
      by_cases c : q < i
      · obtain ⟨y', c1, c2⟩ := hys.2 q c
        exact ⟨y', by rw [List.getElem?_append_left (by rw [hys.1]; exact c)]; exact c1, mutQ hm (Stb.mono (hs5.trans e6) c2)⟩
      · have : q = i := by omega
        subst this
        exact ⟨v, by rw [List.getElem?_append_right (by rw [hys.1]; exact Nat.le_refl _), hys.1]; simp, mutQ hm h6⟩
  · rintro σ' H4 ⟨o7, o8, ys, rfl, e4, hpA, hys⟩
    have hwn : ws.length = l.d.M := by omega
    rw [hwn] at hys
    exact ss_one (s_ret (P := vTQ K l.d.M (l.d.rel x)) (ev_tupleL T.tup (ev_v 6 (P := vMQ K l.d.M (l.d.rel x)) ⟨pA, ys, rfl, hpA, hys⟩)) fun v H5 e5 h5 => kB x y v H5 b3 ((e02.trans e4).trans e5) h5)
/-! ### the three that the law asks -/
/-- as spX, but the tables of code objects may grow -/
def spLk (K : PySem.W.Frag) (NP : Addr) (Ts : List Addr) (R : Lw → (Nat → Rat) → (Nat → Rat) → V → Hp → Prop) : Sp := fun vs H Q E => ∃ (l : Lw) (vd vl vw : V), vs = [vd, vl, vw] ∧ vDam K l vd H ∧ vQ K l.loss vl H ∧ vWs K l.w vw H ∧ l.Ok ∧ Tb Ts H ∧
  (∀ H', NoX l → XT Ts H H' → E (.ref NP) none H') ∧ (∀ x y v H', Best3 l x y → XT Ts H H' → R l x y v H' → Q v H')
def spNeed (K : PySem.W.Frag) (Ts : List Addr) : Sp := fun vs H Q _ => ∃ (l : Lw) (vd vl vw : V), vs = [vd, vl, vw] ∧ vDam K l vd H ∧ vQ K l.loss vl H ∧ vWs K l.w vw H ∧ l.Ok ∧ Tb Ts H ∧ ∀ v H', XT Ts H H' → Q v H'
abbrev HasN (P : Program) (w : World) (K : PySem.W.Frag) (mg : Str → Option Value) (base : Heap) (Ts : List Addr) : Prop := Has P w K mg base CX0 "need_leak_worths" 9 ["dam", "loss", "worths"] (spNeed K Ts)
abbrev HasPl (P : Program) (w : World) (K : PySem.W.Frag) (mg : Str → Option Value) (base : Heap) (NP : Addr) : Prop := HasX P w K mg base "plan_of" 9 ["dam", "loss", "worths"] (spX K NP (vPlan K))
abbrev HasWo (P : Program) (w : World) (K : PySem.W.Frag) (mg : Str → Option Value) (base : Heap) : Prop := Has P w K mg base CX0 "worth_of" 4 ["worths", "plan"] (spWorth K)
def wOf (l : Lw) (x : Nat → Rat) : Rat := S l.d.M fun j => (l.d.mw (l.d.st j) (l.d.rel x j) (l.ps j).length).1
def vWorth (K : PySem.W.Frag) (l : Lw) (x _y : Nat → Rat) : V → Hp → Prop := vQ K (wOf l x)
def vPris (K : PySem.W.Frag) (l : Lw) (_x y : Nat → Rat) : V → Hp → Prop := vTQ K l.d.M fun j => 0 - y j
abbrev sLW : Stmt := top 45
abbrev sLP : Stmt := top 46
abbrev sLR : Stmt := top 47
abbrev n3 : List Str := ["dam", "loss", "worths"]
theorem sc3 {st : Stmt} (h1 : (defScope st).kind = .function := by rfl) (h2 : (defScope st).isCoroutine = false := by rfl) (h3 : (defScope st).isGenerator = false := by rfl) (h4 : (∀ x ∈ n3, (defScope st).names.lookup x = some .local ∨ (defScope st).names.lookup x = some .cell) := by decide +kernel) (h5 : ∀ y ∈ (defScope st).names, y.2 ≠ .free := by decide +kernel) : FnScope n3 n3 (defScope st) := ⟨h1, h2, h3, by decide +kernel, rfl, h4, h5⟩
theorem rel_fr {l : Lw} (O : l.Ok) {x y : Nat → Rat} (b3 : Best3 l x y) : ∃ dd, Bot dd ∧ (∀ j, j < l.d.M → Fr dd bW (l.d.rel x j)) ∧ (∀ j, j < l.d.M → Fr dd (2 ^ 253) (0 - y j)) ∧ ∀ k, k < l.d.cols → Fr dd (2 ^ 241) (x k) := by
  obtain ⟨dd, d0, dl, hx, hy⟩ := b3.fine
  refine ⟨dd, ⟨d0, dl⟩, fun j hj => ?_, fun j hj => ?_, hx⟩
  · have hst := Dt.st_le (d := l.d) hj
    have h1 : Fr dd ((l.d.len j) * 2 ^ 241) (S (l.d.len j) fun i => x (l.d.st j + i)) := Fr.S fun i hi => hx _ (by unfold Dt.cols; omega)
    have h2 := h1.add (hx (l.d.cnt + j) (by unfold Dt.cols; omega))
    refine h2.mono ?_
    have h3 : l.d.len j ≤ 2 := ps2 O hj
    have : l.d.len j * 2 ^ 241 ≤ 2 * 2 ^ 241 := Nat.mul_le_mul_right _ h3
    exact Nat.le_trans (Nat.add_le_add_right this _) (by decide)
  · have h1 := (hy j (by unfold Dt.rows; omega)).neg
    have e : (0 : Rat) - y j = - y j := by grind
    rw [e]; exact h1
theorem ok_lworth {f : Addr} {fd : FuncData} (F : Fun K "leak_worth" "leak_worth" sLW f fd) (hN : HasN P w K mg base Ts) (hP : HasPl P w K mg base NP) (hW : HasWo P w K mg base) : FnOk P w K mg base (L2.CX P w) 10 f fd n3 (spLk K NP Ts (vWorth K)) := by
  refine F.okX sc3 (fun vs H Q E h => ?_) (fun cdv A0 outer s H vs Q E hr h => ⟨_, wss_self, ?_⟩)
  · obtain ⟨l, vd, vl, vw, rfl, _⟩ := h; rfl
  obtain ⟨l, vd, vl, vw, rfl, hd, hl, hw, O, tb, kN, kB⟩ := h
  refine ss_cons (s_exprW (we_call hN hr (ea_cons (P := vDam K l) (ev_v 0 hd) (ea_two (P1 := vQ K l.loss) (P2 := vWs K l.w) (ev_v 1 hl) (ev_v 2 hw))) fun vs H1 e1 ⟨v1, r, ev, h1, v2, v3, er, h2, h3⟩ => ⟨l, v1, v2, v3, by rw [ev, er], h1, h2, h3, O, tb.same e1, fun v H2 e2 => ?_⟩))
  have x2 : XT Ts H H2 := (XT.of tb e1).trans e2
  have hd := Stx.mono (P := vDam K l) tb x2.keep hd
  have hl := Stx.mono (P := vQ K l.loss) tb x2.keep hl
  have hw := Stx.mono (P := vWs K l.w) tb x2.keep hw
  refine ss_one (ws_of (ps_ret we_self) ?_)
  -- worth_of(worths, plan_of(..))
  obtain ⟨f2, fd2, G, hm, hk, hb⟩ := hW.ex
  refine we_of (pe_call G (hr.mono (by decide)) rfl hm hk hb .nil pass0 (pa_cons we_self (pa_cons we_self pa_nil)) (by decide) rfl rfl) ?_
  refine (ev_v 2 hw).go fun vw' H3 e3 hw3 => ?_
  refine we_callX (W := fun cls d _ H => E cls d H) hP (takes_of rfl rfl rfl rfl) hr (ea_cons (P := vDam K l) (ev_v 0 (Stb.mono e3 hd)) (ea_two (P1 := vQ K l.loss) (P2 := vWs K l.w) (ev_v 1 (Stb.mono e3 hl)) (ev_v 2 (Stb.mono e3 hw)))) fun vs H4 e4 ⟨v1, r, ev, h1, v2, v3, er, h2, h3⟩ => ⟨l, v1, v2, v3, by rw [ev, er], h1, h2, h3, O, fun H' hno e σ => kN H' hno (x2.trans (XT.of x2.tb ((e3.trans e4).trans e))), fun x y v H5 b3 e5 h5 => ?_⟩
  obtain ⟨dd, B, hr1, hr2, hr3⟩ := rel_fr O b3
  exact ⟨l, dd, l.d.rel x, vw', v, rfl, Stb.mono (e4.trans e5) hw3, h5, O, B, hr1, fun v6 H6 e6 h6 => kB x y v6 H6 b3 (x2.trans (XT.of x2.tb (((e3.trans e4).trans e5).trans e6))) h6⟩
theorem ok_lplan {f : Addr} {fd : FuncData} (F : Fun K "leak_plan" "leak_plan" sLP f fd) (hN : HasN P w K mg base Ts) (hP : HasPl P w K mg base NP) : FnOk P w K mg base (L2.CX P w) 10 f fd n3 (spLk K NP Ts (vPlan K)) := by
  refine F.okX sc3 (fun vs H Q E h => ?_) (fun cdv A0 outer s H vs Q E hr h => ⟨_, wss_self, ?_⟩)
  · obtain ⟨l, vd, vl, vw, rfl, _⟩ := h; rfl
  obtain ⟨l, vd, vl, vw, rfl, hd, hl, hw, O, tb, kN, kB⟩ := h
  refine ss_cons (s_exprW (we_call hN hr (ea_cons (P := vDam K l) (ev_v 0 hd) (ea_two (P1 := vQ K l.loss) (P2 := vWs K l.w) (ev_v 1 hl) (ev_v 2 hw))) fun vs H1 e1 ⟨v1, r, ev, h1, v2, v3, er, h2, h3⟩ => ⟨l, v1, v2, v3, by rw [ev, er], h1, h2, h3, O, tb.same e1, fun v H2 e2 => ?_⟩))
  have x2 : XT Ts H H2 := (XT.of tb e1).trans e2
  have hd := Stx.mono (P := vDam K l) tb x2.keep hd
  have hl := Stx.mono (P := vQ K l.loss) tb x2.keep hl
  have hw := Stx.mono (P := vWs K l.w) tb x2.keep hw
  refine ss_one (ws_of (ps_ret we_self) ?_)
  refine we_callX (W := fun cls d _ H => E cls d H) hP (takes_of rfl rfl rfl rfl) hr (ea_cons (P := vDam K l) (ev_v 0 hd) (ea_two (P1 := vQ K l.loss) (P2 := vWs K l.w) (ev_v 1 hl) (ev_v 2 hw))) fun vs H4 e4 ⟨v1, r, ev, h1, v2, v3, er, h2, h3⟩ => ⟨l, v1, v2, v3, by rw [ev, er], h1, h2, h3, O, fun H' hno e σ => kN H' hno (x2.trans (XT.of x2.tb (e4.trans e))), fun x y v H5 b3 e5 h5 => kB x y v H5 b3 (x2.trans (XT.of x2.tb (e4.trans e5))) h5⟩
abbrev nLR : List Str := ["dam", "loss", "worths", "found", "one"]
theorem scLR : FnScope nLR n3 (defScope sLR) := ⟨rfl, rfl, rfl, by decide +kernel, rfl, by decide +kernel, by decide +kernel⟩
theorem ok_lpris {f : Addr} {fd : FuncData} (F : Fun K "leak_prices" "leak_prices" sLR f fd) (T : TxP K mg C) (hQ : HasQ P w K mg base) (hN : HasN P w K mg base Ts) (hP : HasPo P w K mg base NP) : FnOk P w K mg base (L2.CX P w) 10 f fd n3 (spLk K NP Ts (vPris K)) := by
  refine F.okX scLR (fun vs H Q E h => ?_) (fun cdv A0 outer s H vs Q E hr h => ⟨_, wss_self, ?_⟩)
  · obtain ⟨l, vd, vl, vw, rfl, _⟩ := h; rfl
  obtain ⟨l, vd, vl, vw, rfl, hd, hl, hw, O, tb, kN, kB⟩ := h
  have nd := scLR.nd
  have hM4 : l.d.M ≤ 4 := O.M4
  have hlw : l.w.length = l.d.M := O.wl
  refine ss_cons (s_exprW (we_call hN hr (ea_cons (P := vDam K l) (ev_v 0 hd) (ea_two (P1 := vQ K l.loss) (P2 := vWs K l.w) (ev_v 1 hl) (ev_v 2 hw))) fun vs H1 e1 ⟨v1, r, ev, h1, v2, v3, er, h2, h3⟩ => ⟨l, v1, v2, v3, by rw [ev, er], h1, h2, h3, O, tb.same e1, fun v H2 e2 => ?_⟩))
  have x2 : XT Ts H H2 := (XT.of tb e1).trans e2
  have hd := Stx.mono (P := vDam K l) tb x2.keep hd
  have hl := Stx.mono (P := vQ K l.loss) tb x2.keep hl
  have hw := Stx.mono (P := vWs K l.w) tb x2.keep hw
  -- found = program_of(..)[2]
  refine ss_cons (s_setW (i := 3) (we_of (pe_ix ix_tup we_self we_self (fun _ _ => rfl)) ?_))
  refine we_callX (W := fun cls d _ H => E cls d H) hP (takes_of rfl rfl rfl rfl) (hr.mono (by decide)) (ea_cons (P := vDam K l) (ev_v 0 hd) (ea_two (P1 := vQ K l.loss) (P2 := vWs K l.w) (ev_v 1 hl) (ev_v 2 hw))) fun vs H4 e4 ⟨v1, r, ev, h1, v2, v3, er, h2, h3⟩ => ⟨l, v1, v2, v3, by rw [ev, er], h1, h2, h3, O, fun H' hno e σ => kN H' hno (x2.trans (XT.of x2.tb (e4.trans e))), fun x y v H5 b3 e5 ⟨sa, fa, ⟨tp, ev, htp⟩, hs, hb⟩ => ?_⟩
  refine ev_i.go fun v6 H6 e6 ev6 => ⟨tp, _, 2, fa, ev, ev6, sameT e6 htp, rfl, ?_⟩
  obtain ⟨xa, ya, hfa, hxa, ⟨yp, ys, rfl, hyp, hys⟩⟩ := hb
  have e46 := (e4.trans e5).trans e6
  obtain ⟨dd, B, hr1, hr2, hr3⟩ := rel_fr O b3
  obtain ⟨dd', d0', dl', _, hy⟩ := b3.fine
  have hMr : l.d.M ≤ l.d.rows := by unfold Dt.rows; omega
  have hcut : cutV ys none (some (l.d.M : Int)) = ys.take l.d.M := by
    have h1 : min l.d.M ys.length = l.d.M := by have := hys.1; omega
    unfold cutV
    rw [HT.sIx_nat, HT.sIx_none, h1, List.drop_zero, Nat.sub_zero]
  have hlen : (ys.take l.d.M).length = l.d.M := by rw [List.length_take, hys.1]; omega
  refine ss_one (s_ret (P := vTQ K l.d.M fun j => 0 - y j) (ev_tupleL T.tup ((ev_lc (g := gName 4) (n := (ys.take l.d.M).length) nd (es_L (xs := ys.take l.d.M) ((ev_sliceL (xs := ys) ((ev_ixT (ev_v 3 (P := vT K _) (Stb.mono e6 hfa)) ev_i rfl).imp fun v H' e' ev => ⟨yp, ev, (e6.trans e').seq hyp⟩) ((ev_lenTl T.len (ev_v 2 (P := vWs K l.w) (Stb.mono e46 hw))).imp (P1 := vI (l.d.M : Int)) fun v H' e' ev => by rw [hlw] at ev; exact ev)).imp fun v H' e' h => by have h := vNE.vL (K := K) h; rw [hcut] at h; exact h)) (blkOk_by (N := nLR) (sc := defScope sLR) (own := [("one", 4)]) (by decide +kernel)) (fun _ _ _ _ _ => pg_name (i := 4) nd rfl (Or.inl rfl)) (by omega) (fun j => vQ K (0 - y j)) (fun j x' H7 H8 hj e hy' => ?_)).imp fun v H' _ h => by have h := h.m; rw [hlen] at h; exact h)) fun v H7 e7 h7 => kB x y v H7 b3 (x2.trans (XT.of x2.tb (e46.trans e7))) h7)
  obtain ⟨rfl, hx⟩ := hy'
  have hj : j < l.d.M := by omega
  rw [List.getElem?_take_of_lt hj] at hx
  obtain ⟨u, q1, q2⟩ := hys.2 j (by omega)
  obtain rfl : u = x' := Option.some.inj (q1.symm.trans hx)
  refine ⟨_, gt_name, Same.refl _, rfl, fun s5 H5' C5 cl5 fp5 => ?_⟩
  exact ev_minus hQ (hr.mono (by decide)) (ev_q (q := 0) ev_i ev_i rfl rfl) (ev_v 4 (Stb.mono (e6.trans e) q2)) ⟨sz0 (by decide), (hy j (by omega)).sz (b := L) d0' (Nat.lt_of_lt_of_le dl' (Nat.pow_le_pow_right (by decide) (by decide))) (Nat.pow_lt_pow_right (by decide) (by decide))⟩
end
end Dw
set_option Elab.async false
set_option linter.all false
set_option maxRecDepth 100000
set_option maxHeartbeats 4000000
set_option pp.maxSteps 300
/-! the law's own ratios -/
namespace Dw
open PySem PySem.Spec PyProof.Rows L2 RZ
/-- what the law's text finds among the built-ins -/
structure TxL (mg : Str → Option Value) : Prop where
  int : mg "int" = none
  abs : mg "abs" = none
  len : mg "len" = none
  rng : mg "range" = none
  tup : mg "tuple" = none
  isi : mg "isinstance" = none
  set : mg "set" = none
  srt : mg "sorted" = none
  bool : mg "bool" = none
section
variable {X : Cx} {a b : Expr} {σ : L2.St} {H : Hp} {pos p : Pos}
theorem ev_int {i : Int} (hm : X.mg "int" = none) (ha : EV X a σ H (vI i)) (hg : Gl X "int" := by rfl) (hs : starEach [a] X.env = (false, eval a X.env) :: starEach [] X.env := by rfl) : EV X (.Call (.Name "int" p) [a] [] pos) σ H (vI i) :=
  ev_ty call_int1 hm (ea_one ha hs) (fun vs H1 e1 ⟨v, ev, h⟩ Q k => .inl ⟨i, by rw [ev, h], k _ H1 (Same.refl _) rfl⟩) (by decide +kernel) hg (by decide) (by decide) hs
theorem ev_abs {i : Int} (hm : X.mg "abs" = none) (ha : EV X a σ H (vI i)) (hg : Gl X "abs" := by rfl) (hs : starEach [a] X.env = (false, eval a X.env) :: starEach [] X.env := by rfl) : EV X (.Call (.Name "abs" p) [a] [] pos) σ H (vI (i.natAbs : Int)) :=
  ev_bltn call_abs hm (ea_one ha hs) (fun vs H1 e1 ⟨v, ev, h⟩ Q k => ⟨i, by rw [ev, h], k _ H1 (Same.refl _) (by show V.int (if i < 0 then -i else i) = V.int (i.natAbs : Int); congr 1; split <;> omega)⟩) (by decide +kernel) hg (by decide) (by decide) hs
end
theorem fmod_nat (a b : Nat) : (a : Int).fmod (b : Int) = ((a % b : Nat) : Int) := by
  rw [Int.fmod_eq_emod_of_nonneg _ (by omega)]; rfl
theorem neg_fdiv_g {t g : Int} (h : g ∣ t) : 0 - t.fdiv g = t.fdiv (0 - g) := by
  rw [Int.zero_sub, Int.zero_sub, Int.fdiv_eq_ediv_of_dvd h, Int.fdiv_eq_ediv_of_dvd (Int.neg_dvd.mpr h), Int.ediv_neg]
section
variable {P : Program} {w : World} {K : PySem.W.Frag} {mg : Str → Option Value} {base : Heap}
abbrev sLRat : Stmt := top 52
abbrev nLRat : List Str := ["_law_top", "_law_bottom", "_law_one", "_law_other"]
theorem scLRat : FnScope nLRat ["_law_top", "_law_bottom"] (defScope sLRat) := ⟨rfl, rfl, rfl, by decide +kernel, rfl, by decide +kernel, by decide +kernel⟩
theorem ok_lrat {f : Addr} {fd : FuncData} (F : Fun K "_law_ratio" "_law_ratio" sLRat f fd) (T : TxL mg) : FnOk P w K mg base CX0 1 f fd ["_law_top", "_law_bottom"] (spRatio K) := by
  refine F.ok scLRat (fun vs H Q E h => ?_) (fun cdv A outer s H vs Q E hr h => ⟨_, wss_self, ?_⟩)
  · obtain ⟨t, b, rfl, _⟩ := h; rfl
  obtain ⟨t, b, rfl, hb, hz, k⟩ := h
  have nd := scLRat.nd
  refine ss_cons (s_par (i := 2) (j := 3) (P1 := vI (t.natAbs : Int)) (P2 := vI (b.natAbs : Int)) (ev_abs T.abs (ev_v 0 (P := vI t) rfl)) (ev_abs T.abs (ev_v 1 (P := vI b) rfl)) (fun v2 v3 H1 e1 h2 h3 => ?_) nd)
  cases h2
  cases h3
  refine ss_cons (s_while PassesOwn.never (fun μ σ' H' => ∃ x y : Nat, σ' = [some (.int t), some (.int b), some (.int (x : Int)), some (.int (y : Int))] ∧ Same H H' ∧ Nat.gcd x y = Nat.gcd t.natAbs b.natAbs ∧ μ = y) b.natAbs ⟨_, _, rfl, e1, rfl, rfl⟩ ?_)
  rintro y σ' H2 ⟨x, y', rfl, e2, hg, rfl⟩
  refine ⟨!decide (V.int (y : Int) = V.int 0), et_ne (ev_v 3 (P := vI (y : Int)) rfl) ev_i, fun hk H3 e3 => ?_, fun hk H3 e3 => ?_⟩
  · have hy : y ≠ 0 := by
      intro z
      subst z
      simp at hk
    refine ss_one (s_par (i := 2) (j := 3) (P1 := vI (y : Int)) (P2 := vI ((x : Int).fmod (y : Int))) (ev_v 3 (P := vI (y : Int)) rfl) (ev_mod (ev_int T.int (ev_v 2 (P := vI (x : Int)) rfl)) (ev_v 3 (P := vI (y : Int)) rfl) (by omega)) (fun v2 v3 H4 e4 h2 h3 => ?_) nd)
    rw [fmod_nat] at h3
    cases h2
    cases h3
    refine ⟨x % y, Nat.mod_lt _ (by omega), y, x % y, rfl, (e2.trans e3).trans e4, ?_, rfl⟩
    rw [← hg, Nat.gcd_comm x y, Nat.gcd_rec y x, Nat.gcd_comm]
  · have hy : y = 0 := by
      have : V.int (y : Int) = V.int 0 := by simpa using hk
      injection this with this; omega
    subst hy
    rw [Nat.gcd_zero_right] at hg
    subst hg
    have hd := gcd_dvd t b
    have hp := gcd_pos (t := t) hb
    have hc : (((Nat.gcd t.natAbs b.natAbs : Nat) : Int)) ≠ 0 ∧ (((Nat.gcd t.natAbs b.natAbs : Nat) : Int)).natAbs.log2 < 9000 := ⟨by omega, log9 (Nat.lt_of_le_of_lt (by have := gcd_le (t := t) hb; simpa using this) hz)⟩
    refine ss_one (s_ret (P := vQ K (Rat.divInt t b)) (ev_if (k := decide (0 < b)) (et_gt (ev_v 1 (P := vI b) rfl) ev_i) (fun hk => ?_) (fun hk => ?_)) fun v H4 e4 hv => k v H4 ((e2.trans e3).trans e4) hv)
    · have h0 : 0 < b := of_decide_eq_true hk
      have e : common t b = ((Nat.gcd t.natAbs b.natAbs : Nat) : Int) := if_pos h0
      exact ev_q (q := Rat.divInt t b) (ev_div (ev_v 0 (P := vI t) rfl) (ev_v 2 (P := vI ((Nat.gcd t.natAbs b.natAbs : Nat) : Int)) rfl) hc) (ev_div (ev_v 1 (P := vI b) rfl) (ev_v 2 (P := vI ((Nat.gcd t.natAbs b.natAbs : Nat) : Int)) rfl) hc) (by rw [ratio_num hb, e]) (by rw [ratio_den hb, e])
    · have h0 : ¬ 0 < b := of_decide_eq_false hk
      have e : common t b = 0 - ((Nat.gcd t.natAbs b.natAbs : Nat) : Int) := if_neg h0
      exact ev_q (q := Rat.divInt t b) (ev_sub ev_i (ev_div (ev_v 0 (P := vI t) rfl) (ev_v 2 (P := vI ((Nat.gcd t.natAbs b.natAbs : Nat) : Int)) rfl) hc)) (ev_sub ev_i (ev_div (ev_v 1 (P := vI b) rfl) (ev_v 2 (P := vI ((Nat.gcd t.natAbs b.natAbs : Nat) : Int)) rfl) hc)) (by rw [ratio_num hb, e, neg_fdiv_g hd.1]) (by rw [ratio_den hb, e, neg_fdiv_g hd.2])
abbrev HasLr (P : Program) (w : World) (K : PySem.W.Frag) (mg : Str → Option Value) (base : Heap) : Prop := Has P w K mg base CX0 "_law_ratio" 1 ["_law_top", "_law_bottom"] (spRatio K)
theorem ev_lrat {X : Cx} {a b : Expr} {σ : L2.St} {H : Hp} {p pos : Pos} {t u : Int} {q : Rat} {k : Nat} (hR : Has X.prog X.w X.K X.mg X.base CX0 "_law_ratio" k ["_law_top", "_law_bottom"] (spRatio X.K)) (hr : Room k X.A) (ha : EV X a σ H (vI t)) (hb : EV X b σ H (vI u)) (h0 : u ≠ 0) (h9 : u.natAbs < 2 ^ 9000) (hq : q = Rat.divInt t u)
    (hg : Gl X "_law_ratio" := by rfl) (hs : starEach [a, b] X.env = (false, eval a X.env) :: starEach [b] X.env := by rfl) (hs2 : starEach [b] X.env = (false, eval b X.env) :: starEach [] X.env := by rfl) (hpl : (backTo pos (starEach [b] X.env)).any (·.1) = false := by rfl) :
    EV X (.Call (.Name "_law_ratio" p) [a, b] [] pos) σ H (vQ X.K q) :=
  ev_call hR hr (ea_two ha hb hs hs2) (fun vs H1 e1 ⟨v, w', ev, e2, e3⟩ Q k => ⟨t, u, by rw [ev, e2, e3], h0, h9, fun z H2 e4 hz => k z H2 e4 (by rw [hq]; exact hz)⟩) hg (by decide) hs hpl
abbrev l2 : List Str := ["_law_one", "_law_other"]
theorem scL2 {st : Stmt} (h1 : (defScope st).kind = .function := by rfl) (h2 : (defScope st).isCoroutine = false := by rfl) (h3 : (defScope st).isGenerator = false := by rfl) (h4 : (∀ x ∈ l2, (defScope st).names.lookup x = some .local ∨ (defScope st).names.lookup x = some .cell) := by decide +kernel) (h5 : ∀ y ∈ (defScope st).names, y.2 ≠ .free := by decide +kernel) : FnScope l2 l2 (defScope st) := ⟨h1, h2, h3, by decide +kernel, rfl, h4, h5⟩
abbrev sLPl : Stmt := top 53
abbrev sLBy : Stmt := top 54
abbrev sLSum : Stmt := top 55
abbrev sLLe : Stmt := top 56
theorem ok_lplus {f : Addr} {fd : FuncData} (F : Fun K "_law_plus" "_law_plus" sLPl f fd) (hR : HasLr P w K mg base) : FnOk P w K mg base CX0 2 f fd l2 (sp2 K okL fun a b => vQ K (a + b)) := by
  refine F.ok scL2 len2 (fun cdv A outer s H vs Q E hr h => ⟨_, wss_self, ?_⟩)
  obtain ⟨x, y, a, b, rfl, ha, hb, ⟨h1, h2⟩, k⟩ := h
  exact ss_one (s_ret (ev_lrat (q := a + b) hR hr
    (ev_add (ev_mul (ev_num (ev_v 0 ha)) (ev_den (ev_v 1 hb)) (mND h1 h2)) (ev_mul (ev_num (ev_v 1 hb)) (ev_den (ev_v 0 ha)) (mND h2 h1)))
    (ev_mul (ev_den (ev_v 0 ha)) (ev_den (ev_v 1 hb)) (mDD h1 h2)) (Int.mul_ne_zero den_ne den_ne) (szD h1 h2) (add_divInt a b)) k)
theorem ok_lby {f : Addr} {fd : FuncData} (F : Fun K "_law_by" "_law_by" sLBy f fd) (hR : HasLr P w K mg base) : FnOk P w K mg base CX0 2 f fd l2 (sp2 K okL fun a b => vQ K (a * b)) := by
  refine F.ok scL2 len2 (fun cdv A outer s H vs Q E hr h => ⟨_, wss_self, ?_⟩)
  obtain ⟨x, y, a, b, rfl, ha, hb, ⟨h1, h2⟩, k⟩ := h
  exact ss_one (s_ret (ev_lrat (q := a * b) hR hr
    (ev_mul (ev_num (ev_v 0 ha)) (ev_num (ev_v 1 hb)) (mNN h1 h2))
    (ev_mul (ev_den (ev_v 0 ha)) (ev_den (ev_v 1 hb)) (mDD h1 h2)) (Int.mul_ne_zero den_ne den_ne) (szD h1 h2) (mul_divInt a b)) k)
theorem ok_lless {f : Addr} {fd : FuncData} (F : Fun K "_law_less" "_law_less" sLLe f fd) : FnOk P w K mg base CX0 1 f fd l2 (sp2 K okL fun a b => vB (decide (a < b))) := by
  refine F.ok scL2 len2 (fun cdv A outer s H vs Q E hr h => ⟨_, wss_self, ?_⟩)
  obtain ⟨x, y, a, b, rfl, ha, hb, ⟨h1, h2⟩, k⟩ := h
  have e : decide (a.num * (b.den : Int) < b.num * (a.den : Int)) = decide (a < b) := by rw [decide_eq_decide]; exact (Rat.lt_iff a b).symm
  exact ss_one (s_ret (P := vB (decide (a < b))) ((ev_lt (ev_mul (ev_num (ev_v 0 ha)) (ev_den (ev_v 1 hb)) (mND h1 h2)) (ev_mul (ev_num (ev_v 1 hb)) (ev_den (ev_v 0 ha)) (mND h2 h1))).imp fun v H' _ h => by rw [e] at h; exact h) k)
structure HasL (P : Program) (w : World) (K : PySem.W.Frag) (mg : Str → Option Value) (base : Heap) : Prop where
  rat : HasLr P w K mg base
  plus : Has P w K mg base CX0 "_law_plus" 2 l2 (sp2 K okL fun a b => vQ K (a + b))
  by_ : Has P w K mg base CX0 "_law_by" 2 l2 (sp2 K okL fun a b => vQ K (a * b))
  less : Has P w K mg base CX0 "_law_less" 1 l2 (sp2 K okL fun a b => vB (decide (a < b)))
end
theorem ev_two' {X : Cx} {e1 e2 : Expr} {σ : L2.St} {H : Hp} {p pos : Pos} {x : Str} {ps : List Str} {a b : Rat} {k : Nat} {ok : Rat → Rat → Prop} {R : Rat → Rat → V → Hp → Prop} (hR : Has X.prog X.w X.K X.mg X.base CX0 x k ps (sp2 X.K ok R)) (hr : Room k X.A) (ha : EV X e1 σ H (vQ X.K a)) (hb : EV X e2 σ H (vQ X.K b)) (h : ok a b)
    (hg : Gl X x := by rfl) (hdb : (x == ("__debug__" : Str)) = false := by decide) (hs : starEach [e1, e2] X.env = (false, eval e1 X.env) :: starEach [e2] X.env := by rfl) (hs2 : starEach [e2] X.env = (false, eval e2 X.env) :: starEach [] X.env := by rfl) (hpl : (backTo pos (starEach [e2] X.env)).any (·.1) = false := by rfl) :
    EV X (.Call (.Name x p) [e1, e2] [] pos) σ H (R a b) :=
  ev_call hR hr (ea_two ha hb hs hs2) (fun vs H1 s1 ⟨v, w', ev, h2, h3⟩ Q k => ⟨v, w', a, b, ev, h2, h3, h, k⟩) hg hdb hs hpl
section
variable {X : Cx} {e1 e2 : Expr} {σ : L2.St} {H : Hp} {p pos : Pos} {a b : Rat} {k : Nat}
theorem ev_lplus (hQ : HasL X.prog X.w X.K X.mg X.base) (hr : Room 2 X.A) (ha : EV X e1 σ H (vQ X.K a)) (hb : EV X e2 σ H (vQ X.K b)) (h : okL a b)
    (hg : Gl X "_law_plus" := by rfl) (hs : starEach [e1, e2] X.env = (false, eval e1 X.env) :: starEach [e2] X.env := by rfl) (hs2 : starEach [e2] X.env = (false, eval e2 X.env) :: starEach [] X.env := by rfl) (hpl : (backTo pos (starEach [e2] X.env)).any (·.1) = false := by rfl) :
    EV X (.Call (.Name "_law_plus" p) [e1, e2] [] pos) σ H (vQ X.K (a + b)) := ev_two' hQ.plus hr ha hb h hg (by decide) hs hs2 hpl
theorem ev_lby (hQ : HasL X.prog X.w X.K X.mg X.base) (hr : Room 2 X.A) (ha : EV X e1 σ H (vQ X.K a)) (hb : EV X e2 σ H (vQ X.K b)) (h : okL a b)
    (hg : Gl X "_law_by" := by rfl) (hs : starEach [e1, e2] X.env = (false, eval e1 X.env) :: starEach [e2] X.env := by rfl) (hs2 : starEach [e2] X.env = (false, eval e2 X.env) :: starEach [] X.env := by rfl) (hpl : (backTo pos (starEach [e2] X.env)).any (·.1) = false := by rfl) :
    EV X (.Call (.Name "_law_by" p) [e1, e2] [] pos) σ H (vQ X.K (a * b)) := ev_two' hQ.by_ hr ha hb h hg (by decide) hs hs2 hpl
theorem ev_lless (hQ : HasL X.prog X.w X.K X.mg X.base) (hr : Room 1 X.A) (ha : EV X e1 σ H (vQ X.K a)) (hb : EV X e2 σ H (vQ X.K b)) (h : okL a b)
    (hg : Gl X "_law_less" := by rfl) (hs : starEach [e1, e2] X.env = (false, eval e1 X.env) :: starEach [e2] X.env := by rfl) (hs2 : starEach [e2] X.env = (false, eval e2 X.env) :: starEach [] X.env := by rfl) (hpl : (backTo pos (starEach [e2] X.env)).any (·.1) = false := by rfl) :
    EV X (.Call (.Name "_law_less" p) [e1, e2] [] pos) σ H (vB (decide (a < b))) := ev_two' hQ.less hr ha hb h hg (by decide) hs hs2 hpl
/-- (0 - q[0], q[1]) -/
theorem ev_lneg {x1 j j0 j1 : Nat} {p1 p2 p3 p4 p5 : Pos} {e e' : Expr} (ha : EV X e σ H (vQ X.K a)) (hb : EV X e' σ H (vQ X.K a)) (hs : starEach [(.BinOp (.Constant (.int 0) j p1) .Sub (.Subscript e (.Constant (.int 0) j0 p2) p3) p4), (.Subscript e' (.Constant (.int 1) j1 p5) p)] X.env = (false, eval (.BinOp (.Constant (.int 0) j p1) .Sub (.Subscript e (.Constant (.int 0) j0 p2) p3) p4) X.env) :: starEach [(.Subscript e' (.Constant (.int 1) j1 p5) p)] X.env := by rfl) (hs2 : starEach [(.Subscript e' (.Constant (.int 1) j1 p5) p)] X.env = (false, eval (.Subscript e' (.Constant (.int 1) j1 p5) p) X.env) :: starEach [] X.env := by rfl) :
    EV X (.Tuple [(.BinOp (.Constant (.int 0) j p1) .Sub (.Subscript e (.Constant (.int 0) j0 p2) p3) p4), (.Subscript e' (.Constant (.int 1) j1 p5) p)] x1 pos) σ H (vQ X.K (-a)) :=
  ev_q (q := -a) (ev_sub ev_i (ev_num ha)) (ev_den hb) (by rw [Rat.neg_num]; omega) (by rw [Rat.neg_den]) hs hs2
end
section
variable {P : Program} {w : World} {K : PySem.W.Frag} {mg : Str → Option Value} {base : Heap}
/-- _law_over(one, other) -/
abbrev sLOv : Stmt := top 62
theorem scLOv : FnScope ["_law_one", "_law_other", "_law_found"] l2 (defScope sLOv) := ⟨rfl, rfl, rfl, by decide +kernel, rfl, by decide +kernel, by decide +kernel⟩
theorem ok_lover {f : Addr} {fd : FuncData} (F : Fun K "_law_over" "_law_over" sLOv f fd) (hQ : HasL P w K mg base) : FnOk P w K mg base CX0 3 f fd l2 (sp2 K okL fun a b => vQ K (max0 (a - b))) := by
  refine F.ok scLOv len2 (fun cdv A outer s H vs Q E hr h => ⟨_, wss_self, ?_⟩)
  obtain ⟨x, y, a, b, rfl, ha, hb, ⟨h1, h2⟩, k⟩ := h
  have nd := scLOv.nd
  have e0 : a + -b = a - b := (Rat.sub_eq_add_neg a b).symm
  refine ss_cons (s_set (i := 2) (P := vQ K (a - b)) ((ev_lplus hQ hr (ev_v 0 ha) (ev_lneg (ev_v 1 hb) (ev_v 1 hb)) ⟨h1, h2.neg⟩).imp fun v H' _ h => by rw [e0] at h; exact h) fun v H1 e1 h => ?_)
  refine ss_one (s_ret (P := vQ K (max0 (a - b))) (ev_if (k := decide (0 < a - b)) ((et_gt (ev_num (ev_v 2 h)) ev_i).is (by rw [decide_eq_decide]; exact num_pos_iff _)) (fun hk => ?_) (fun hk => ?_)) fun v' H2 e2 h' => k v' H2 (e1.trans e2) h')
  · rw [show max0 (a - b) = a - b from if_pos (of_decide_eq_true hk)]; exact ev_v 2 h
  · rw [show max0 (a - b) = 0 from if_neg (of_decide_eq_false hk)]; exact ev_q (q := 0) ev_i ev_i rfl rfl
/-- _law_sum(some) -/
theorem scLSum : FnScope ["_law_some", "_law_found", "_law_one"] ["_law_some"] (defScope sLSum) := ⟨rfl, rfl, rfl, by decide +kernel, rfl, by decide +kernel, by decide +kernel⟩
def spLSum (K : PySem.W.Frag) : Sp := fun vs H Q _ => ∃ (x : V) (n : Nat) (f : Nat → Rat), vs = [x] ∧ vLQ K n f x H ∧ (∀ i, i < n → okL (S i f) (f i)) ∧ ∀ v H', Same H H' → vQ K (S n f) v H' → Q v H'
theorem ok_lsum {f : Addr} {fd : FuncData} (F : Fun K "_law_sum" "_law_sum" sLSum f fd) (hQ : HasL P w K mg base) : FnOk P w K mg base CX0 3 f fd ["_law_some"] (spLSum K) := by
  refine F.ok scLSum (fun vs H Q E h => ?_) (fun cdv A outer s H vs Q E hr h => ⟨_, wss_self, ?_⟩)
  · obtain ⟨x, n, f, rfl, _⟩ := h; rfl
  obtain ⟨x, n, f, rfl, ⟨p, xs, rfl, hp, hl, hx⟩, hok, k⟩ := h
  have nd := scLSum.nd
  subst hl
  refine ss_cons (s_set (i := 1) (P := vQ K 0) (ev_q (q := 0) ev_i ev_i rfl rfl) fun v1 H1 e1 h1 => ?_)
  refine ss_cons (s_for PassesOwn.never (ei_L (ev_v 0 (P := vE (.ref p)) rfl) (e1.seq hp)) (pg_name (i := 2) nd rfl (Or.inl rfl))
    (fun i σ' H' => ∃ v o, σ' = [some (.ref p), some v, o] ∧ Same H H' ∧ vQ K (S i f) v H')
    (fun H2 e2 => ⟨v1, none, rfl, e1.trans e2, Stb.mono e2 h1⟩) (fun i σ' H' _ ⟨_, _, _, e, _⟩ => e.seq hp) ?_ ?_)
  · rintro i x σ' H2 H3 hi ⟨v, o, rfl, e, hv⟩ ⟨rfl, hxi⟩
    refine ⟨_, gt_name, ?_⟩
    obtain ⟨x', q1, q2⟩ := hx i hi
    rw [hxi] at q1; cases q1
    exact ss_one (s_set (i := 1) (P := vQ K (S i f + f i)) (ev_lplus hQ hr (ev_v 1 hv) (ev_v 2 (Stb.mono e q2)) (hok i hi)) fun v3 H4 e4 h4 => ⟨v3, _, rfl, e.trans e4, h4⟩)
  · rintro σ' H2 ⟨v, o, rfl, e, hv⟩
    exact ss_one (s_ret (ev_v 1 hv) fun v3 H4 e4 h4 => k v3 H4 (e.trans e4) h4)
end
end Dw
set_option Elab.async false
set_option linter.all false
set_option maxRecDepth 100000
set_option maxHeartbeats 4000000
set_option pp.maxSteps 300
/-! what the law checks a plan, a bound by -/
namespace Dw
open PySem PySem.Spec PyProof.Rows L2 RZ
section
variable {X : Cx} {a b : Expr} {σ : L2.St} {H : Hp} {pos p p2 : Pos}
theorem tyx_T {K : PySem.W.Frag} {H : Hp} {a : Addr} {xs : List V} (h : SqT K H a xs) : TyX K H (.ref a) (.type "tuple") := by
  rcases h with (h | ⟨o, h⟩) | ⟨o, its, n, h1, h2, _⟩
  · exact .base (.tup h)
  · exact .fTuple h
  · exact .kTuple h1 h2
theorem ev_ty0 {x : Str} {T : String} (hm : X.mg x = none) (hv : bootBuiltins x = some (.type T) := by decide +kernel) (hg : Gl X x := by rfl) (hn : x ≠ "__name__" := by decide) (hdb : (x == ("__debug__" : Str)) = false := by decide) : EV X (.Name x pos) σ H (vE (.ty T)) :=
  ev_of (pe_bltn (v := V.ty T) hg hm hv rfl hn hdb) fun H1 _ Q q => q _ H1 (Same.refl _) rfl
/-- isinstance(a, T) -/
theorem ev_isi {P : V → Hp → Prop} [Stb P] {T t : String} {k : Bool} (hm : X.mg "isinstance" = none) (ha : EV X a σ H P) (hb : EV X b σ H (vE (.ty T))) (ht : ∀ v H1, P v H1 → TyX X.K H1 v (.type t)) (hk : kitB t T = some k := by decide +kernel)
    (hg : Gl X "isinstance" := by rfl) (hs : starEach [a, b] X.env = (false, eval a X.env) :: starEach [b] X.env := by rfl) (hs2 : starEach [b] X.env = (false, eval b X.env) :: starEach [] X.env := by rfl) (hpl : (backTo pos (starEach [b] X.env)).any (·.1) = false := by rfl) :
    EV X (.Call (.Name "isinstance" p) [a, b] [] pos) σ H (vB k) :=
  ev_bltn call_isi hm (ea_two ha hb hs hs2) (fun vs H1 e1 ⟨v, w', ev, h1, h2⟩ Q q => ⟨v, w', .type t, .type T, k, ev, by rw [show w' = _ from h2]; exact ClsV.ty T, ht v H1 h1, kit_ty hk, q _ H1 (Same.refl _) rfl⟩) (by decide +kernel) hg (by decide) (by decide) hs hpl
theorem ev_eqQ {qa qb : Rat} (hu : X.A.units + 64 < cLine) (ha : EV X a σ H (vQ X.K qa)) (hb : EV X b σ H (vQ X.K qb)) : EV X (.Compare a [.Eq] [b] pos) σ H (vB (decide (qa = qb))) :=
  ev_cmp (op_eqD hu) ha hb fun x y H1 _ p1 p2 Q q => ⟨_, _, dp_q p1, dp_q p2, by rfl, by rfl, by rw [eqv_q]; exact q _ H1 (Same.refl _) rfl⟩
theorem et_neQ {qa qb : Rat} (hu : X.A.units + 64 < cLine) (ha : EV X a σ H (vQ X.K qa)) (hb : EV X b σ H (vQ X.K qb)) : ET X (.Compare a [.NotEq] [b] pos) σ H (!decide (qa = qb)) :=
  et_cmp (op_neD hu) ha hb fun x y H1 _ p1 p2 Q q => ⟨_, _, dp_q p1, dp_q p2, by rfl, by rfl, by rw [eqv_q]; exact q⟩
theorem ev_and2 {k l : Bool} (ha : EV X a σ H (vB k)) (hb : k = true → EV X b σ H (vB l)) : EV X (.BoolOp .And [a, b] pos) σ H (vB (k && l)) :=
  ev_of (pe_and we_self (pe_one we_self)) fun H1 e1 Q q => ha H1 e1 _ fun x H2 e2 ex => ⟨k, ex, by
    cases k with
    | true => exact hb rfl H2 (e1.trans e2) Q fun v H3 e3 h => q v H3 (e2.trans e3) (by simpa using h)
    | false => exact q _ H2 e2 rfl⟩
/-- a list that is empty != [] -/
theorem et_neE (hu : X.A.units + 64 < cLine) (ha : EV X a σ H (vNE H [])) : ET X (.Compare a [.NotEq] [.List [] p2] pos) σ H false :=
  et_cmp (op_neD hu) ha (ev_new (pos := p2)) fun x y H1 _ ⟨a1, e1, _, h1⟩ ⟨a2, e2, _, h2⟩ Q q => ⟨.list [], .list [], by rw [e1]; exact .lst (SqL.of h1) .nil, by rw [e2]; exact .lst (SqL.of h2) .nil, by rfl, by rfl, q⟩
theorem passed_none {n : Nat} {f : Nat → V} : passed n (fun _ => false) f = [] := by
  unfold passed
  have : (List.range n).filter (fun _ => false) = [] := by simp
  rw [this]; rfl
theorem ev_notV {k : Bool} (ha : EV X a σ H (vB k)) : EV X (.UnaryOp .Not a pos) σ H (vB (!k)) :=
  ev_of (pe_not we_self) fun H1 e1 Q q => ha H1 e1 _ fun x H2 e2 ex => ⟨k, ex, q _ H2 e2 rfl⟩
end
section
variable {P : Program} {w : World} {K : PySem.W.Frag} {mg : Str → Option Value} {base : Heap}
/-! ### _law_is_ratio -/
abbrev sLIs : Stmt := top 57
theorem scLIs : FnScope ["_law_value", "_law_one"] ["_law_value"] (defScope sLIs) := ⟨rfl, rfl, rfl, by decide +kernel, rfl, by decide +kernel, by decide +kernel⟩
def spIsR (K : PySem.W.Frag) : Sp := fun vs H Q _ => ∃ (x : V) (q : Rat), vs = [x] ∧ vQ K q x H ∧ Sz L q ∧ ∀ H', Same H H' → Q (.bl true) H'
theorem ok_lis {f : Addr} {fd : FuncData} (F : Fun K "_law_is_ratio" "_law_is_ratio" sLIs f fd) (T : TxL mg) (hQ : HasL P w K mg base) : FnOk P w K mg base CX0 3 f fd ["_law_value"] (spIsR K) := by
  refine F.ok scLIs (fun vs H Q E h => ?_) (fun cdv A outer s H vs Q E hr h => ⟨_, wss_self, ?_⟩)
  · obtain ⟨x, q, rfl, _⟩ := h; rfl
  obtain ⟨x, q, rfl, hx, hz, k⟩ := h
  have nd := scLIs.nd
  refine ss_cons (s_if (k := false) ((et_not (et_val (ev_isi (k := true) (P := vQ K q) (T := "tuple") (t := "tuple") T.isi (ev_v 0 hx) (ev_ty0 T.tup) fun v H1 ⟨p, ev, h⟩ => by rw [ev]; exact tyx_T h))).is rfl) (fun z => nomatch z) fun _ H1 e1 => ss_nil ?_)
  refine ss_cons (s_if (k := false) ((et_ne ((ev_lenT (xs := [.int q.num, .int (q.den : Int)]) T.len (ev_v 0 (P := vT K [.int q.num, .int (q.den : Int)]) (Stb.mono e1 hx))).imp (P1 := vI 2) fun v H' _ h => h) ev_i).is (by decide)) (fun z => nomatch z) fun _ H2 e2 => ss_nil ?_)
  refine ss_cons (s_if (k := false) (et_neE (hu_of64 hr) ((ev_lcT (g := gName 1) nd (es_T (xs := [.int q.num, .int (q.den : Int)]) (ev_v 0 (P := vT K _) (Stb.mono (e1.trans e2) hx))) (blkOk_by (N := ["_law_value", "_law_one"]) (sc := defScope sLIs) (own := [("_law_one", 1)]) (by decide +kernel)) (fun _ _ _ _ _ => pg_name (i := 1) nd rfl (Or.inl rfl)) (by simp) (fun _ => false) (fun _ => .non) (fun j x H3 H4 hj e hy => ?_)).imp fun v H' _ h => by rw [passed_none] at h; exact h)) (fun z => nomatch z) fun _ H3 e3 => ss_nil ?_)
  · obtain ⟨rfl, hx⟩ := hy
    have : ∃ z : Int, x = .int z := by
      match j, hj, hx with
      | 0, _, hx => exact ⟨_, (Option.some.inj hx).symm⟩
      | 1, _, hx => exact ⟨_, (Option.some.inj hx).symm⟩
    obtain ⟨z, rfl⟩ := this
    refine ⟨_, gt_name, Same.refl _, rfl, fun s5 H5' C5 cl5 fp5 => ?_, fun z => nomatch z⟩
    exact EW.et (ew_or (k := false) (l := false) ((et_not (et_val (ev_isi (k := true) (P := vE (.int z)) (T := "int") (t := "int") T.isi (ev_v 1 (P := vE (.int z)) rfl) (ev_ty0 T.int) fun v H1 ev => by rw [show v = _ from ev]; exact .base (.int z)))).is rfl) (ew_last_or fun _ => et_val (ev_isi (P := vE (.int z)) (T := "bool") (t := "int") T.isi (ev_v 1 (P := vE (.int z)) rfl) (ev_ty0 T.bool) fun v H1 ev => by rw [show v = _ from ev]; exact .base (.int z))))
  · have hx3 := Stb.mono (P := vQ K q) ((e1.trans e2).trans e3) hx
    have e0 : Rat.divInt q.num (q.den : Int) = q := Rat.num_divInt_den q
    refine ss_one (s_ret (P := vB true) ((ev_and2 (k := true) (l := true) ((ev_gt (ev_den (ev_v 0 hx3)) ev_i).imp fun v H' _ h => by rw [show v = _ from h]; show V.bl _ = V.bl _; congr 1; exact decide_eq_true den_pos) fun _ => (ev_eqQ (qa := q) (qb := q) (hu_of64 hr) (ev_lrat hQ.rat (hr.mono (by decide)) (ev_num (ev_v 0 hx3)) (ev_den (ev_v 0 hx3)) den_ne (Nat.lt_of_lt_of_le (by simpa using hz.2 : ((q.den : Int)).natAbs < 2 ^ L) (Nat.pow_le_pow_right (by decide) (by decide))) e0.symm) (ev_v 0 hx3)).imp fun v H' _ h => by rw [show v = _ from h]; show V.bl _ = V.bl _; congr 1; exact decide_eq_true rfl)) fun v H4 e4 ev => ?_)
    rw [show v = .bl true from ev]
    exact k H4 (((e1.trans e2).trans e3).trans e4)
abbrev HasIs (P : Program) (w : World) (K : PySem.W.Frag) (mg : Str → Option Value) (base : Heap) : Prop := Has P w K mg base CX0 "_law_is_ratio" 3 ["_law_value"] (spIsR K)
theorem ev_lis {X : Cx} {a : Expr} {σ : L2.St} {H : Hp} {p pos : Pos} {q : Rat} (hR : HasIs X.prog X.w X.K X.mg X.base) (hr : Room 3 X.A) (ha : EV X a σ H (vQ X.K q)) (hz : Sz L q) (hg : Gl X "_law_is_ratio" := by rfl) (hs : starEach [a] X.env = (false, eval a X.env) :: starEach [] X.env := by rfl) :
    EV X (.Call (.Name "_law_is_ratio" p) [a] [] pos) σ H (vB true) :=
  ev_call hR hr (ea_one ha hs) (fun vs H1 e1 ⟨v, ev, h⟩ Q k => ⟨v, q, ev, h, hz, fun H' e => k _ H' e rfl⟩) hg (by decide) hs rfl
/-! ### _law_worth -/
abbrev sLWo : Stmt := top 60
abbrev nLWo : List Str := ["_law_worths", "_law_plan", "_law_found", "_law_k", "_law_rest", "_law_amount", "_law_price", "_law_share"]
theorem scLWo : FnScope nLWo ["_law_worths", "_law_plan"] (defScope sLWo) := ⟨rfl, rfl, rfl, by decide +kernel, rfl, by decide +kernel, by decide +kernel⟩
theorem ok_lworth2 {f : Addr} {fd : FuncData} (F : Fun K "_law_worth" "_law_worth" sLWo f fd) (T : TxL mg) (hQ : HasL P w K mg base) : FnOk P w K mg base CX0 4 f fd ["_law_worths", "_law_plan"] (spWorth K) := by
  refine F.ok scLWo (fun vs H Q E h => ?_) (fun cdv A0 outer s H vs Q E hr h => ⟨_, wss_self, ?_⟩)
  · obtain ⟨l, dd, r, vw, vp, rfl, _⟩ := h; rfl
  obtain ⟨l, dd, r, vw, vp, rfl, hw, hp, O, B, hF, k⟩ := h
  have nd := scLWo.nd
  have hM4 : l.d.M ≤ 4 := O.M4
  have hlw : l.w.length = l.d.M := O.wl
  obtain ⟨wp, ws, rfl, hwp, hwl, hws⟩ := id hw
  have hsumF : ∀ i, i ≤ l.d.M → Fr dd (2 ^ 252) (S i fun j => (l.d.mw (l.d.st j) (r j) (l.ps j).length).1) := fun i hi => ((Fr.S (N := 2 ^ 250) fun j hj => (mw_fin O B (by omega) (hF j (by omega)) (Nat.le_refl _)).2).mono (Nat.le_trans (Nat.mul_le_mul_right _ (by omega : i ≤ 4)) (by decide)))
  have zb : ∀ {q : Rat} {N : Nat}, Fr dd N q → N ≤ 2 ^ 260 → Sz L q := fun h hN => B.sz (h.mono hN) (Nat.pow_lt_pow_right (by decide) (by decide))
  refine ss_cons (s_set (i := 2) (P := vQ K 0) (ev_q (q := 0) ev_i ev_i rfl rfl) fun v1 H1 e1 h1 => ?_)
  obtain ⟨pp, ps, rfl, hpp, hps⟩ := id hp
  refine ss_cons (s_for PassesOwn.never (ei_R1 (n := l.d.M) T.rng ((ev_lenT T.len (ev_v 1 (P := vT K ps) ⟨pp, rfl, sameT e1 hpp⟩)).imp (P1 := vI (l.d.M : Int)) fun v H' _ h => by rw [hps.1] at h; exact h) (by omega)) (pg_name (i := 3) nd rfl (Or.inl rfl))
    (fun i σ' H' => ∃ v2 o3 o4 o5 o6 o7, σ' = [some (.ref wp), some (.ref pp), some v2, o3, o4, o5, o6, o7] ∧ Same H H' ∧ vQ K (S i fun j => (l.d.mw (l.d.st j) (r j) (l.ps j).length).1) v2 H')
    (fun H2 e2 => ⟨v1, none, none, none, none, none, rfl, e1.trans e2, Stb.mono e2 h1⟩) (fun _ _ _ _ _ => trivial) ?_ ?_)
  · rintro i x σ' H2 H3 hi ⟨v2, o3, o4, o5, o6, o7, rfl, e, h2⟩ ⟨rfl, rfl⟩
    refine ⟨_, gt_name, ?_⟩
    obtain ⟨u, r1, pa, pv, rfl, r3, r4, r5⟩ := hws i _ (getD_of (d := []) (by omega : i < l.w.length))
    have hx2 := hw
    refine ss_cons (s_set (i := 4) (P := vQ K (r i)) (ev_ixQT (ev_v 1 (P := vTQ K l.d.M r) (Stb.mono (P := vTQ K l.d.M r) e hp)) (ev_v 3 (P := vI (i : Int)) rfl) hi) fun v4 H4 e4 h4 => ?_)
    have e14 := e.trans e4
    refine ss_one (s_for (g := g2 K 5 6) PassesOwn.never (ei_T ((ev_ixT (ev_v 0 (P := vT K ws) ⟨wp, rfl, sameT e14 hwp⟩) (ev_v 3 (P := vI (i : Int)) rfl) (atI_nat r1))) (sameT e14 r3)) (pg_tup rfl (pgs_cons (pg_name (i := 5) nd rfl (Or.inl rfl)) (pgs_cons (pg_name (i := 6) nd rfl (Or.inl rfl)) pgs_nil)))
      (fun q σ' H' => ∃ v2 v4 o5 o6 o7, σ' = [some (.ref wp), some (.ref pp), some v2, some (.int (i : Int)), some v4, o5, o6, o7] ∧ Same H H' ∧ vQ K ((S i fun j => (l.d.mw (l.d.st j) (r j) (l.ps j).length).1) + (l.d.mw (l.d.st i) (r i) q).1) v2 H' ∧ vQ K (l.d.mw (l.d.st i) (r i) q).2 v4 H')
      (fun H5 e5 => ⟨v2, v4, o5, o6, o7, rfl, e14.trans e5, by rw [show (l.d.mw (l.d.st i) (r i) 0).1 = 0 from rfl, Rat.add_zero]; exact Stb.mono (e4.trans e5) h2, Stb.mono e5 h4⟩) (fun q σ' H' _ ⟨_, _, _, _, _, _, e, _⟩ => sameT e r3) ?_ ?_)
    · rintro q x σ' H5 H6 hq ⟨v2, v4, o5, o6, o7, rfl, e, h2, h4⟩ ⟨rfl, hx⟩
      have hq : q < (l.ps i).length := by have : pv.length = (l.ps i).length := r4; omega
      obtain ⟨u, s1, c, rfl, s2⟩ := r5 q _ (getD_of (d := (0, 0)) hq)
      obtain rfl : V.ref c = x := Option.some.inj (s1.symm.trans hx)
      have hjw : i < l.w.length := by omega
      have ham := Lw.am_at (l := l) hjw hq
      have hpr := Lw.pr_at (l := l) hjw hq
      have hn := am9 O hi hq
      have s2 : SqT K H c [.int (((l.ps i).getD q (0, 0)).1 : Int), .int (((l.ps i).getD q (0, 0)).2 : Int)] := s2
      obtain ⟨f2, f1⟩ := mw_fin O B hi (hF i hi) (Nat.le_of_lt hq)
      have fs := shr_fr O B hi hq f2 (by decide)
      have fp : isI 9 (l.d.pr (l.d.st i + q)) := by rw [hpr]; exact Lw.isI_nat hn.2
      have fa : isI 9 (l.d.am (l.d.st i + q)) := by rw [ham]; exact Lw.isI_nat hn.1
      generalize (l.ps i).getD q (0, 0) = pr at *
      have zi : ∀ {q : Rat}, isI 9 q → Sz L q := fun ⟨z, z1, z2⟩ => by
        rw [z1]; exact Sz.int (Nat.lt_of_le_of_lt z2 (by decide)) (by decide)
      have fsp : Fr dd (9 * 2 ^ 250) (l.d.shr (l.d.st i + q) (l.d.mw (l.d.st i) (r i) q).2 * l.d.pr (l.d.st i + q)) := by rw [Rat.mul_comm]; exact Fr.mulI fp fs
      refine ⟨_, gt_two (sameT e s2), ?_⟩
      refine ss_cons (s_set (i := 7) (P := vQ K (l.d.shr (l.d.st i + q) (l.d.mw (l.d.st i) (r i) q).2)) (ev_if (k := decide ((l.d.mw (l.d.st i) (r i) q).2 < l.d.am (l.d.st i + q))) (et_val (ev_lless hQ (hr.mono (by decide)) (ev_v 4 h4) (ev_qi (ev_v 5 (P := vI (pr.1 : Int)) rfl) (by rw [ham]; rfl)) ⟨zb f2 (by decide), zi fa⟩)) (fun hk => ?_) (fun hk => ?_)) fun v6 H7 e7 h7 => ?_)
      · rw [show l.d.shr (l.d.st i + q) (l.d.mw (l.d.st i) (r i) q).2 = (l.d.mw (l.d.st i) (r i) q).2 from if_pos (of_decide_eq_true hk)]
        exact ev_v 4 h4
      · rw [show l.d.shr (l.d.st i + q) (l.d.mw (l.d.st i) (r i) q).2 = l.d.am (l.d.st i + q) from if_neg (of_decide_eq_false hk)]
        exact ev_qi (ev_v 5 (P := vI (pr.1 : Int)) rfl) (by rw [ham]; rfl)
      have eA : (S i fun j => (l.d.mw (l.d.st j) (r j) (l.ps j).length).1) + (l.d.mw (l.d.st i) (r i) q).1 + l.d.shr (l.d.st i + q) (l.d.mw (l.d.st i) (r i) q).2 * l.d.pr (l.d.st i + q) = (S i fun j => (l.d.mw (l.d.st j) (r j) (l.ps j).length).1) + (l.d.mw (l.d.st i) (r i) (q + 1)).1 := by
        show _ = (S i fun j => (l.d.mw (l.d.st j) (r j) (l.ps j).length).1) + ((l.d.mw (l.d.st i) (r i) q).1 + l.d.shr (l.d.st i + q) (l.d.mw (l.d.st i) (r i) q).2 * l.d.pr (l.d.st i + q))
        rw [Rat.add_assoc]
      have eB : (l.d.mw (l.d.st i) (r i) q).2 + - l.d.shr (l.d.st i + q) (l.d.mw (l.d.st i) (r i) q).2 = (l.d.mw (l.d.st i) (r i) (q + 1)).2 := (Rat.sub_eq_add_neg _ _).symm
      refine ss_cons (s_set (i := 2) (P := vQ K ((S i fun j => (l.d.mw (l.d.st j) (r j) (l.ps j).length).1) + (l.d.mw (l.d.st i) (r i) (q + 1)).1)) ((ev_lplus hQ (hr.mono (by decide)) (ev_v 2 (Stb.mono e7 h2)) (ev_lby hQ (hr.mono (by decide)) (ev_v 7 h7) (ev_qi (ev_v 6 (P := vI (pr.2 : Int)) rfl) (by rw [hpr]; rfl)) ⟨zb fs (by decide), zi fp⟩) ⟨zb ((hsumF i (by omega)).add f1) (by decide), zb fsp (by decide)⟩).imp fun v H' _ h => by rw [eA] at h; exact h) fun v8 H8 e8 h8 => ?_)
      refine ss_one (s_set (i := 4) (P := vQ K (l.d.mw (l.d.st i) (r i) (q + 1)).2) ((ev_lplus hQ (hr.mono (by decide)) (ev_v 4 (Stb.mono (e7.trans e8) h4)) (ev_lneg (ev_v 7 (Stb.mono e8 h7)) (ev_v 7 (Stb.mono e8 h7))) ⟨zb f2 (by decide), (zb fs (by decide)).neg⟩).imp fun v H' _ h => by rw [eB] at h; exact h) fun v9 H9 e9 h9 => ?_)
      exact ⟨_, _, _, _, _, rfl, ((e.trans e7).trans e8).trans e9, Stb.mono e9 h8, h9⟩
    · rintro σ' H5 ⟨v2, v4, o5, o6, o7, rfl, e, h2, h4⟩
      have : pv.length = (l.ps i).length := r4
      rw [this] at h2
      exact ⟨v2, _, _, _, _, _, rfl, e, by rw [S_succ]; exact h2⟩
  · rintro σ' H2 ⟨v2, o3, o4, o5, o6, o7, rfl, e, h2⟩
    exact ss_one (s_ret (ev_v 2 h2) fun v H3 e3 h => k v H3 (e.trans e3) h)
end
end Dw
set_option Elab.async false
set_option linter.all false
set_option maxRecDepth 100000
set_option maxHeartbeats 4000000
set_option pp.maxSteps 300
/-! _law_leak_plan, _law_leak_holds, _law_leak_bound -/
namespace Dw
open PySem PySem.Spec PyProof.Rows L2 RZ
section
variable {X : Cx} {a b : Expr} {σ : L2.St} {H : Hp} {pos p p2 : Pos}
/-- dam[0], dam[1], dam[2], dam[3] -/
theorem ev_dam {l : Lw} {i : Int} {v : V} (ha : EV X a σ H (vDam X.K l)) (hb : EV X b σ H (vI i)) (hv : ∀ ip, atI [V.int (l.cap : Int), .int (l.st : Int), .int (l.en : Int), .ref ip] i = some v) (hs : PlainIx b := by exact fun _ _ => rfl) : EV X (.Subscript a b pos) σ H (vE v) :=
  ev_of (pe_ix ix_tup we_self we_self hs) fun H1 e1 Q q => ha H1 e1 _ fun x H2 e2 ⟨p, ip, ex, hp, _⟩ => hb H2 (e1.trans e2) _ fun y H3 e3 ey => ⟨p, _, i, v, ex, ey, sameT e3 hp, hv ip, q v H3 (e2.trans e3) rfl⟩
theorem ev_dam3 {l : Lw} {j} (ha : EV X a σ H (vDam X.K l)) : EV X (.Subscript a (.Constant (.int 3) j p2) pos) σ H (vT X.K (l.inf.map fun n : Nat => V.int (n : Int))) :=
  ev_of (pe_ix ix_tup we_self we_self (fun _ _ => rfl)) fun H1 e1 Q q => ha H1 e1 _ fun x H2 e2 ⟨p, ip, ex, hp, hip⟩ => ev_i (X := X) (σ := σ) H2 (Same.refl _) _ fun y H3 e3 ey => ⟨p, _, 3, .ref ip, ex, ey, sameT e3 hp, rfl, q _ H3 (e2.trans e3) ⟨ip, rfl, sameT e3 hip⟩⟩
theorem ev_inf {l : Lw} {i : Nat} {n : Nat} (ha : EV X a σ H (vT X.K (l.inf.map fun n : Nat => V.int (n : Int)))) (hb : EV X b σ H (vI (i : Int))) (hi : i < l.inf.length) (hn : l.inf.getD i 0 = n) (hs : PlainIx b := by exact fun _ _ => rfl) : EV X (.Subscript a b pos) σ H (vI (n : Int)) := by
  subst hn
  exact ev_ixT ha hb (atI_nat (by rw [List.getElem?_map, getD_of (d := 0) hi]; rfl)) hs
/-- a tuple of ratios is a tuple -/
theorem tyx_TQ {K : PySem.W.Frag} {n : Nat} {f : Nat → Rat} (v : V) (H : Hp) (h : vTQ K n f v H) : TyX K H v (.type "tuple") := by
  obtain ⟨p, xs, rfl, h, _⟩ := h
  exact tyx_T h
theorem ev_lenTQ {n : Nat} {f : Nat → Rat} (hm : X.mg "len" = none) (ha : EV X a σ H (vTQ X.K n f)) (hg : Gl X "len" := by rfl) (hs : starEach [a] X.env = (false, eval a X.env) :: starEach [] X.env := by rfl) : EV X (.Call (.Name "len" p) [a] [] pos) σ H (vI (n : Int)) :=
  ev_bltn call_len_seq hm (ea_one ha hs) (fun vs H1 e1 ⟨v, ev, q, us, eq, hq, hl, _⟩ Q k => ⟨q, us, by rw [ev, eq], .inr hq, k _ H1 (Same.refl _) (by rw [hl]; rfl)⟩) PySem.boot_len hg (by decide) (by decide) hs
end
theorem zsm {l : Lw} (O : l.Ok) {n : Nat} (h : n ≤ 24) : Sz 5 (n : Rat) := Sz.int (i := (n : Int)) (by simp; omega) (by decide)
theorem kept_sz {l : Lw} (O : l.Ok) : Sz 4 l.d.kept := by
  obtain ⟨h1, h2⟩ := Lw.kept_size O
  exact ⟨by omega, by omega⟩
theorem loss_neg (q : Rat) : 1 + - q = 1 - q := (Rat.sub_eq_add_neg 1 q).symm
section
variable {P : Program} {w : World} {K : PySem.W.Frag} {mg : Str → Option Value} {base : Heap}
/-! ### _law_leak_holds -/
abbrev sLHo : Stmt := top 64
abbrev nLHo : List Str := ["_law_dam", "_law_loss", "_law_held", "_law_kept", "_law_inflow"]
theorem scLHo : FnScope nLHo ["_law_dam", "_law_loss"] (defScope sLHo) := ⟨rfl, rfl, rfl, by decide +kernel, rfl, by decide +kernel, by decide +kernel⟩
def spHolds (K : PySem.W.Frag) : Sp := fun vs H Q _ => ∃ (l : Lw) (vd vl : V), vs = [vd, vl] ∧ vDam K l vd H ∧ vQ K l.loss vl H ∧ l.Ok ∧ ∀ H', Same H H' → Q (.bl (!decide (l.d.gh l.d.M < l.d.en))) H'
theorem gh_sz {l : Lw} (O : l.Ok) : ∀ k, k ≤ l.d.M → Sz (10 * k + 10) (l.d.gh k)
  | 0, _ => (zsm O (by have := O.st; have := O.cap; omega : l.st ≤ 24)).mono (by decide)
  | k + 1, h => by
    have h1 := gh_sz O k (by omega)
    have h2 : Sz 5 (l.d.inf k) := zsm O (by have := O.inf _ (getD_mem (d := 0) (by exact (by omega : k < l.d.M))); exact Nat.le_trans this (by decide))
    have h3 := kept_sz O
    have h4 : Sz (10 * k + 16) (if l.d.cap < l.d.gh k + l.d.inf k then l.d.cap else l.d.gh k + l.d.inf k) := by
      split
      · exact (zsm O O.cap).mono (by omega)
      · exact (h1.add h2).mono (by omega)
    exact (h3.mul h4).mono (by omega)
theorem ok_lholds {f : Addr} {fd : FuncData} (F : Fun K "_law_leak_holds" "_law_leak_holds" sLHo f fd) (T : TxL mg) (hQ : HasL P w K mg base) : FnOk P w K mg base CX0 3 f fd ["_law_dam", "_law_loss"] (spHolds K) := by
  refine F.ok scLHo (fun vs H Q E h => ?_) (fun cdv A0 outer s H vs Q E hr h => ⟨_, wss_self, ?_⟩)
  · obtain ⟨l, vd, vl, rfl, _⟩ := h; rfl
  obtain ⟨l, vd, vl, rfl, hd, hl, O, k⟩ := h
  have nd := scLHo.nd
  have hM4 : l.d.M ≤ 4 := O.M4
  have hsl : Sz L l.loss := (Lw.szl O).mono (by decide)
  have s1 : Sz L (1 : Rat) := Sz.int (i := 1) (by decide) (by decide)
  refine ss_cons (s_par (i := 2) (j := 3) (P1 := vQ K l.d.str) (P2 := vQ K l.d.kept) (ev_qi (ev_dam (ev_v 0 hd) ev_i fun ip => rfl) rfl) ((ev_lplus hQ (hr.mono (by decide)) (ev_q (q := 1) ev_i ev_i rfl rfl) (ev_lneg (ev_v 1 hl) (ev_v 1 hl)) ⟨s1, hsl.neg⟩).imp fun v H' _ h => by rw [loss_neg] at h; exact h) (fun v2 v3 H1 e1 h2 h3 => ?_) nd)
  obtain ⟨dp, ip, rfl, hdp, hip⟩ := id hd
  have hz : ∀ k, k ≤ l.d.M → Sz 60 (l.d.gh k) := fun k hk => (gh_sz O k hk).mono (by omega)
  have hzi : ∀ k, k < l.d.M → Sz 5 (l.d.inf k) := fun k hk => zsm O (by have := O.inf _ (getD_mem (d := 0) hk); exact Nat.le_trans this (by decide))
  refine ss_cons (s_for PassesOwn.never (ei_T (a := ip) ((ev_ixT (ev_v 0 (P := vT K _) ⟨dp, rfl, sameT e1 hdp⟩) ev_i rfl)) (sameT e1 hip)) (pg_name (i := 4) nd rfl (Or.inl rfl))
    (fun i σ' H' => ∃ v2 o4, σ' = [some (.ref dp), some vl, some v2, some v3, o4] ∧ Same H H' ∧ vQ K (l.d.gh i) v2 H' ∧ vQ K l.d.kept v3 H')
    (fun H2 e2 => ⟨v2, none, rfl, e1.trans e2, Stb.mono e2 h2, Stb.mono e2 h3⟩) (fun i σ' H' _ ⟨_, _, _, e, _⟩ => sameT e hip) ?_ ?_)
  · rintro i x σ' H2 H3 hi ⟨v2, o4, rfl, e, h2, h3⟩ ⟨rfl, hx⟩
    have hi : i < l.d.M := by rw [List.length_map] at hi; exact hi
    rw [List.getElem?_map, getD_of (d := 0) (by exact hi : i < l.inf.length)] at hx
    cases hx
    refine ⟨_, gt_name, ?_⟩
    refine ss_cons (s_set (i := 2) (P := vQ K (l.d.gh i + l.d.inf i)) (ev_lplus hQ (hr.mono (by decide)) (ev_v 2 h2) (ev_qi (ev_v 4 (P := vI ((l.inf.getD i 0 : Nat) : Int)) rfl) rfl) ⟨(hz i (by omega)).mono (by decide), (hzi i hi).mono (by decide)⟩) fun v4 H4 e4 h4 => ?_)
    have hd4 := Stb.mono (P := vDam K l) (e.trans e4) hd
    have z4 : Sz L (l.d.gh i + l.d.inf i) := ((hz i (by omega)).add (hzi i hi)).mono (by decide)
    have zc : Sz L l.d.cap := (zsm O O.cap).mono (by decide)
    refine ss_one (s_set (i := 2) (P := vQ K (l.d.gh (i + 1))) (ev_lby hQ (hr.mono (by decide)) (ev_v 3 (Stb.mono e4 h3)) (ev_if (P := vQ K (if l.d.cap < l.d.gh i + l.d.inf i then l.d.cap else l.d.gh i + l.d.inf i)) (k := decide (l.d.cap < l.d.gh i + l.d.inf i)) (et_val (ev_lless hQ (hr.mono (by decide)) (ev_qi (ev_dam (ev_v 0 hd4) ev_i fun ip => rfl) rfl) (ev_v 2 h4) ⟨zc, z4⟩)) (fun hk => ?_) (fun hk => ?_)) ⟨(kept_sz O).mono (by decide), ?_⟩) fun v5 H5 e5 h5 => ⟨v5, _, rfl, (e.trans e4).trans e5, h5, Stb.mono (e4.trans e5) h3⟩)
    · rw [if_pos (of_decide_eq_true hk)]; exact ev_qi (ev_dam (ev_v 0 hd4) ev_i fun ip => rfl) rfl
    · rw [if_neg (of_decide_eq_false hk)]; exact ev_v 2 h4
    · split
      · exact zc
      · exact z4
  · rintro σ' H2 ⟨v2, o4, rfl, e, h2, h3⟩
    have el : (l.inf.map fun n : Nat => V.int (n : Int)).length = l.d.M := List.length_map _
    rw [el] at h2
    refine ss_one (s_ret (ev_notV (ev_lless hQ (hr.mono (by decide)) (ev_v 2 h2) (ev_qi (ev_dam (ev_v 0 (Stb.mono (P := vDam K l) e hd)) ev_i fun ip => rfl) rfl) ⟨(hz _ (Nat.le_refl _)).mono (by decide), (zsm O (by have := O.en; have := O.cap; omega : l.en ≤ 24)).mono (by decide)⟩)) fun v H3 e3 ev => ?_)
    rw [show v = _ from ev]
    exact k H3 (e.trans e3)
/-! ### _law_leak_plan -/
abbrev sLPn : Stmt := top 61
abbrev nLPn : List Str := ["_law_dam", "_law_loss", "_law_value", "_law_held", "_law_kept", "_law_k", "_law_one"]
theorem scLPn : FnScope nLPn ["_law_dam", "_law_loss", "_law_value"] (defScope sLPn) := ⟨rfl, rfl, rfl, by decide +kernel, rfl, by decide +kernel, by decide +kernel⟩
/-- r a plan: heights within the dam, the end kept -/
structure PlanOk (l : Lw) (r h : Nat → Rat) : Prop where
  nn : ∀ j, j < l.d.M → 0 ≤ r j
  sz : ∀ j, j < l.d.M → Sz 300 (r j)
  eq : ∀ j, j < l.d.M → l.d.hl r j + (l.d.inf j + - r j) = h j
  h0 : ∀ j, j < l.d.M → 0 ≤ h j ∧ h j ≤ l.d.cap
  hz : ∀ j, j < l.d.M → Sz 300 (h j)
  en : l.d.en ≤ l.d.hl r l.d.M
def spLPlan (K : PySem.W.Frag) : Sp := fun vs H Q _ => ∃ (l : Lw) (r h : Nat → Rat) (vd vl vp : V), vs = [vd, vl, vp] ∧ vDam K l vd H ∧ vQ K l.loss vl H ∧ vTQ K l.d.M r vp H ∧ l.Ok ∧ PlanOk l r h ∧ ∀ H', Same H H' → Q (.bl true) H'
theorem hl_sz {l : Lw} (O : l.Ok) {r h : Nat → Rat} (p : PlanOk l r h) : ∀ k, k ≤ l.d.M → Sz 310 (l.d.hl r k)
  | 0, _ => (zsm O (by have := O.st; have := O.cap; omega : l.st ≤ 24)).mono (by decide)
  | k + 1, hk => by
    have h1 := (kept_sz O).mul (p.hz k (by omega))
    rw [← p.eq k (by omega)] at h1
    exact h1.mono (by omega)
end
end Dw
set_option Elab.async false
set_option linter.all false
set_option maxRecDepth 100000
set_option maxHeartbeats 4000000
set_option pp.maxSteps 300
/-! _law_leak_plan, _law_leak_bound -/
namespace Dw
open PySem PySem.Spec PyProof.Rows L2 RZ
theorem num_lt0 (q : Rat) : q.num < 0 ↔ q < 0 := by
  have := num_pos_iff (- q)
  rw [Rat.neg_num] at this
  constructor
  · intro h; have := this.mp (by omega); grind
  · intro h; have := this.mpr (by grind); omega
section
variable {P : Program} {w : World} {K : PySem.W.Frag} {mg : Str → Option Value} {base : Heap}
theorem ok_lplan2 {f : Addr} {fd : FuncData} (F : Fun K "_law_leak_plan" "_law_leak_plan" sLPn f fd) (T : TxL mg) (hQ : HasL P w K mg base) (hI : HasIs P w K mg base) : FnOk P w K mg base CX0 4 f fd ["_law_dam", "_law_loss", "_law_value"] (spLPlan K) := by
  refine F.ok scLPn (fun vs H Q E h => ?_) (fun cdv A0 outer s H vs Q E hr h => ⟨_, wss_self, ?_⟩)
  · obtain ⟨l, r, h, vd, vl, vp, rfl, _⟩ := h; rfl
  obtain ⟨l, r, ht, vd, vl, vp, rfl, hd, hl, hp, O, pk, k⟩ := h
  have nd := scLPn.nd
  have hM4 : l.d.M ≤ 4 := O.M4
  have zr : ∀ j, j < l.d.M → Sz L (r j) := fun j hj => (pk.sz j hj).mono (by decide)
  refine ss_cons (s_if (k := false) ((et_not (et_val (ev_isi (k := true) (T := "tuple") (t := "tuple") T.isi (ev_v 2 hp) (ev_ty0 T.tup) fun v H1 h => tyx_TQ v H1 h))).is rfl) (fun z => nomatch z) fun _ H1 e1 => ss_nil ?_)
  have hd1 := Stb.mono (P := vDam K l) e1 hd
  have hp1 := Stb.mono (P := vTQ K l.d.M r) e1 hp
  have ele : ((l.inf.map fun n : Nat => V.int (n : Int)).length : Int) = (l.d.M : Int) := by rw [List.length_map]; rfl
  refine ss_cons (s_if (k := false) ((et_ne (ev_lenTQ T.len (ev_v 2 hp1)) ((ev_lenT T.len (ev_dam3 (ev_v 0 hd1))).imp (P1 := vI (l.d.M : Int)) fun v H' _ h => by rw [ele] at h; exact h)).is (by simp)) (fun z => nomatch z) fun _ H2 e2 => ss_nil ?_)
  have hp2 := Stb.mono (P := vTQ K l.d.M r) e2 hp1
  obtain ⟨pp, ps, rfl, hpp, hps⟩ := id hp2
  have hpl := hps.1
  refine ss_cons (s_if (k := false) (et_neE (hu_of64 hr) ((ev_lcT (g := gName 6) (n := ps.length) nd (es_T (xs := ps) (ev_v 2 (P := vT K ps) ⟨pp, rfl, hpp⟩)) (blkOk_by (N := nLPn) (sc := defScope sLPn) (own := [("_law_one", 6)]) (by decide +kernel)) (fun _ _ _ _ _ => pg_name (i := 6) nd rfl (Or.inl rfl)) (by omega) (fun _ => false) (fun _ => .non) (fun j x H3 H4 hj e hy => ?_)).imp fun v H' _ h => by rw [passed_none] at h; exact h)) (fun z => nomatch z) fun _ H3 e3 => ss_nil ?_)
  · obtain ⟨rfl, hx⟩ := hy
    have hj : j < l.d.M := by omega
    obtain ⟨u, q1, q2⟩ := hps.2 j hj
    obtain rfl : u = x := Option.some.inj (q1.symm.trans hx)
    have q2 := Stb.mono e q2
    refine ⟨_, gt_name, Same.refl _, rfl, fun s5 H5' C5 cl5 fp5 => ?_, fun z => nomatch z⟩
    exact EW.et (ew_or (k := false) (l := false) ((et_not (et_val (ev_lis hI (hr.mono (by decide)) (ev_v 6 q2) (zr j hj)))).is rfl) (ew_last_or fun _ => (et_lt (ev_num (ev_v 6 q2)) ev_i).is (decide_eq_false (by have := pk.nn j hj; have := (num_lt0 (r j)); grind))))
  have e03 := (e1.trans e2).trans e3
  have hd3 := Stb.mono (P := vDam K l) e03 hd
  have hl3 := Stb.mono (P := vQ K l.loss) e03 hl
  have hsl : Sz L l.loss := (Lw.szl O).mono (by decide)
  have s1 : Sz L (1 : Rat) := Sz.int (i := 1) (by decide) (by decide)
  refine ss_cons (s_par (i := 3) (j := 4) (P1 := vQ K l.d.str) (P2 := vQ K l.d.kept) (ev_qi (ev_dam (ev_v 0 hd3) ev_i fun ip => rfl) rfl) ((ev_lplus hQ (hr.mono (by decide)) (ev_q (q := 1) ev_i ev_i rfl rfl) (ev_lneg (ev_v 1 hl3) (ev_v 1 hl3)) ⟨s1, hsl.neg⟩).imp fun v H' _ h => by rw [loss_neg] at h; exact h) (fun v3 v4 H4 e4 h3 h4 => ?_) nd)
  have e04 := e03.trans e4
  have hp4 := Stb.mono (P := vTQ K l.d.M r) (e3.trans e4) hp2
  refine ss_cons (s_for PassesOwn.never (ei_R1 (n := l.d.M) T.rng (ev_lenTQ T.len (ev_v 2 hp4)) (by omega)) (pg_name (i := 5) nd rfl (Or.inl rfl))
    (fun i σ' H' => ∃ v3 o5, σ' = [some vd, some vl, some (.ref pp), some v3, some v4, o5, none] ∧ Same H4 H' ∧ vQ K (l.d.hl r i) v3 H')
    (fun H5 e5 => ⟨v3, none, rfl, e5, Stb.mono e5 h3⟩) (fun _ _ _ _ _ => trivial) ?_ ?_)
  · rintro i x σ' H5 H6 hi ⟨v3, o5, rfl, e5, h35⟩ ⟨rfl, rfl⟩
    refine ⟨_, gt_name, ?_⟩
    have hd5 := Stb.mono (P := vDam K l) (e04.trans e5) hd
    have hp5 := Stb.mono (P := vTQ K l.d.M r) e5 hp4
    have zi : Sz L (l.d.inf i) := (zsm O (by have := O.inf _ (getD_mem (d := 0) hi); exact Nat.le_trans this (by decide) : l.inf.getD i 0 ≤ 24)).mono (by decide)
    have zir : Sz L (l.d.inf i + - r i) := ((zsm O (by have := O.inf _ (getD_mem (d := 0) hi); exact Nat.le_trans this (by decide) : l.inf.getD i 0 ≤ 24)).add (pk.sz i hi).neg).mono (by decide)
    have zh : Sz L (ht i) := (pk.hz i hi).mono (by decide)
    have zc : Sz L l.d.cap := (zsm O O.cap).mono (by decide)
    obtain ⟨h0, h1⟩ := pk.h0 i hi
    refine ss_cons (s_set (i := 3) (P := vQ K (ht i)) ((ev_lplus hQ (hr.mono (by decide)) (ev_v 3 h35) (ev_lplus hQ (hr.mono (by decide)) (ev_qi (ev_inf (ev_dam3 (ev_v 0 hd5)) (ev_v 5 (P := vI (i : Int)) rfl) hi rfl) rfl) (ev_lneg (ev_ixQT (ev_v 2 hp5) (ev_v 5 (P := vI (i : Int)) rfl) hi) (ev_ixQT (ev_v 2 hp5) (ev_v 5 (P := vI (i : Int)) rfl) hi)) ⟨zi, (zr i hi).neg⟩) ⟨(hl_sz O pk i (by omega)).mono (by decide), zir⟩).imp fun v H' _ h => by
      have h : vQ K (l.d.hl r i + (l.d.inf i + - r i)) v H' := h
      rw [pk.eq i hi] at h; exact h) fun v6 H7 e7 h7 => ?_)
    have hd7 := Stb.mono (P := vDam K l) e7 hd5
    refine ss_cons (s_if (k := false) (EW.et (ew_or (k := false) (l := false) ((et_lt (ev_num (ev_v 3 h7)) ev_i).is (decide_eq_false (by have := num_lt0 (ht i); grind))) (ew_last_or fun _ => (et_val (ev_lless hQ (hr.mono (by decide)) (ev_qi (ev_dam (ev_v 0 hd7) ev_i fun ip => rfl) rfl) (ev_v 3 h7) ⟨zc, zh⟩)).is (decide_eq_false (by show ¬ l.d.cap < ht i; grind))))) (fun z => nomatch z) fun _ H8 e8 => ss_nil ?_)
    have eK : l.d.kept * ht i = l.d.hl r (i + 1) := by rw [← pk.eq i hi]; rfl
    refine ss_one (s_set (i := 3) (P := vQ K (l.d.hl r (i + 1))) ((ev_lby hQ (hr.mono (by decide)) (ev_v 4 (Stb.mono ((e5.trans e7).trans e8) h4)) (ev_v 3 (Stb.mono e8 h7)) ⟨(kept_sz O).mono (by decide), zh⟩).imp fun v H' _ h => by rw [eK] at h; exact h) fun v9 H9 e9 h9 => ⟨v9, _, rfl, ((e5.trans e7).trans e8).trans e9, h9⟩)
  · rintro σ' H5 ⟨v3, o5, rfl, e5, h35⟩
    have hen := pk.en
    refine ss_one (s_ret (ev_notV (ev_lless hQ (hr.mono (by decide)) (ev_v 3 h35) (ev_qi (ev_dam (ev_v 0 (Stb.mono (P := vDam K l) (e04.trans e5) hd)) ev_i fun ip => rfl) rfl) ⟨(hl_sz O pk _ (Nat.le_refl _)).mono (by decide), (zsm O (by have := O.en; have := O.cap; omega : l.en ≤ 24)).mono (by decide)⟩)) fun v H6 e6 ev => ?_)
    have hb : (!decide (l.d.hl r l.d.M < (((l.en : Nat) : Int) : Rat))) = true := by
      have : ¬ l.d.hl r l.d.M < l.d.en := by grind
      have h2 : decide (l.d.hl r l.d.M < (((l.en : Nat) : Int) : Rat)) = false := decide_eq_false this
      rw [h2]; rfl
    rw [show v = _ from ev, hb]
    exact k H6 ((e04.trans e5).trans e6)
/-! ### _law_leak_bound -/
abbrev sLBd : Stmt := top 63
abbrev nLBd : List Str := ["_law_dam", "_law_loss", "_law_worths", "_law_value", "_law_kept", "_law_found", "_law_k", "_law_amount", "_law_price", "_law_one"]
theorem scLBd : FnScope nLBd ["_law_dam", "_law_loss", "_law_worths", "_law_value"] (defScope sLBd) := ⟨rfl, rfl, rfl, by decide +kernel, rfl, by decide +kernel, by decide +kernel⟩
def spBound (K : PySem.W.Frag) : Sp := fun vs H Q _ => ∃ (l : Lw) (dd : Nat) (y : Nat → Rat) (vd vl vw vp : V), vs = [vd, vl, vw, vp] ∧ vDam K l vd H ∧ vQ K l.loss vl H ∧ vWs K l.w vw H ∧ vTQ K l.d.M y vp H ∧ l.Ok ∧ Bot dd ∧ (∀ j, j < l.d.M → 0 ≤ y j) ∧ (∀ j, j < l.d.M → Fr dd (2 ^ 253) (y j)) ∧ ∀ v H', Same H H' → vQ K (l.d.bound y) v H' → Q v H'
/-- the list of the terms so far -/
structure Terms (K : PySem.W.Frag) (D : Nat) (pA : Addr) (n : Nat) (q : Rat) (H : Hp) : Prop where
  ex : ∃ (f : Nat → Rat) (ys : List V), H pA = some (.lst ys) ∧ vsQ K H ys n f ∧ S n f = q ∧ ∀ i, i < n → Fr D (2 ^ 270) (f i)
theorem Terms.mono {D : Nat} {pA : Addr} {n : Nat} {q : Rat} {H H' : Hp} (t : Terms K D pA n q H) (e : Same H H') : Terms K D pA n q H' := let ⟨f, ys, h1, h2, h3, h4⟩ := t; ⟨f, ys, e _ _ h1, h2.mono e, h3, h4⟩
theorem Terms.add {D : Nat} {pA : Addr} {n : Nat} {q t : Rat} {H : Hp} {ys : List V} (T : Terms K D pA n q H) (hA : H pA = some (.lst ys)) {v : V} (hv : vQ K t v H) (ht : Fr D (2 ^ 270) t) : Terms K D pA (n + 1) (q + t) (upd H pA (.lst (ys ++ [v]))) := by
  obtain ⟨f, ys', h1, h2, h3, h4⟩ := T
  obtain rfl : ys = ys' := by rw [h1] at hA; injection hA with hA; injection hA with hA; exact hA.symm
  have hm : IsM H pA := .inl ⟨_, h1⟩
  refine ⟨fun i => if i = n then t else f i, _, upd_same, ⟨by rw [List.length_append, h2.1]; rfl, fun i hi => ?_⟩, ?_, fun i hi => ?_⟩
  · by_cases c : i = n
    · subst c
      exact ⟨v, by rw [List.getElem?_append_right (by rw [h2.1]; exact Nat.le_refl _), h2.1]; simp, by show vQ K (if i = i then t else f i) v _; rw [if_pos rfl]; exact mutQ hm hv⟩
    · obtain ⟨x, c1, c2⟩ := h2.2 i (by omega)
      exact ⟨x, by rw [List.getElem?_append_left (by rw [h2.1]; omega)]; exact c1, by show vQ K (if i = n then t else f i) x _; rw [if_neg c]; exact mutQ hm c2⟩
  · rw [S_succ, if_pos rfl]
    have : (S n fun i => if i = n then t else f i) = S n f := S_congr fun i hi => if_neg (by omega)
    rw [this, h3]
  · show Fr D (2 ^ 270) (if i = n then t else f i)
    split
    · exact ht
    · exact h4 i (by omega)
theorem fr_max0 {D N : Nat} {q : Rat} (h : Fr D N q) : Fr D N (max0 q) := by
  unfold max0
  split
  · exact h
  · exact Fr.zero
/-- the bottom of all that stands in the bound -/
structure Bot2 (l : Lw) (D : Nat) (y : Nat → Rat) : Prop where
  p : 0 < D
  lt : D < 2 ^ 244
  fy : ∀ j, j < l.d.M → Fr D (2 ^ 260) (y j)
  ky : ∀ j, j < l.d.M → Fr D (2 ^ 260) (l.d.kept * y j)
  iy : ∀ j, j < l.d.M → Fr D (2 ^ 260) (l.d.kept⁻¹ * y j)
theorem fr_frac {D N a b : Nat} {q k : Rat} (h : Fr D N q) (hk : k * (b : Rat) = ((a : Int) : Rat)) : Fr (D * b) (a * N) (k * q) := by
  obtain ⟨z, z1, z2⟩ := h
  refine ⟨a * z, ?_, by rw [Int.natAbs_mul]; exact Nat.mul_le_mul_left _ z2⟩
  have e : ((D * b : Nat) : Rat) = (D : Rat) * (b : Rat) := Rat.natCast_mul D b
  rw [e, Rat.intCast_mul, ← hk, ← z1]
  grind
theorem bot2 {l : Lw} (O : l.Ok) {dd : Nat} (B : Bot dd) {y : Nat → Rat} (hy : ∀ j, j < l.d.M → Fr dd (2 ^ 253) (y j)) : ∃ D, Bot2 l D y := by
  obtain ⟨k1, k2⟩ := Lw.kept_size O
  have k0 := Lw.kept0 O
  have hn : 0 < l.d.kept.num := (num_pos_iff _).mpr k0
  obtain ⟨a, ha⟩ : ∃ a : Nat, l.d.kept.num = (a : Int) := ⟨l.d.kept.num.toNat, by omega⟩
  have ha10 : a ≤ 10 := by omega
  have ha0 : 0 < a := by omega
  have hb0 : 0 < l.d.kept.den := by have := l.d.kept.den_nz; omega
  have hk : l.d.kept * (l.d.kept.den : Rat) = ((a : Int) : Rat) := by rw [mul_den, ha]
  have hik : l.d.kept⁻¹ * (a : Rat) = ((l.d.kept.den : Int) : Rat) := by
    have e : (a : Rat) = l.d.kept * (l.d.kept.den : Rat) := hk.symm
    rw [e, ← Rat.mul_assoc, Rat.inv_mul_cancel _ (by grind), Rat.one_mul]; rfl
  have hab : l.d.kept.den * a ≤ 100 := Nat.mul_le_mul k2 ha10
  have pw : ∀ {N n : Nat}, N ≤ 100 * 2 ^ 253 → N ≤ 2 ^ 260 := fun h => Nat.le_trans h (by decide)
  refine ⟨dd * (l.d.kept.den * a), Nat.mul_pos B.p (Nat.mul_pos hb0 ha0), Nat.lt_of_le_of_lt (Nat.mul_le_mul (Nat.le_of_lt B.l) hab) (by decide), fun j hj => ?_, fun j hj => ?_, fun j hj => ?_⟩
  · exact ((hy j hj).more (e := l.d.kept.den * a)).mono (Nat.le_trans (Nat.mul_le_mul_left _ hab) (by decide))
  · have h := (fr_frac (hy j hj) hk).more (e := a)
    rw [Nat.mul_assoc] at h
    exact h.mono (Nat.le_trans (Nat.mul_le_mul (Nat.mul_le_mul_right _ ha10) ha10) (by decide))
  · have h := (fr_frac (a := l.d.kept.den) (b := a) (hy j hj) hik).more (e := l.d.kept.den)
    rw [Nat.mul_assoc, Nat.mul_comm a] at h
    exact h.mono (Nat.le_trans (Nat.mul_le_mul (Nat.mul_le_mul_right _ k2) k2) (by decide))
theorem inv_q {q : Rat} (h : 0 < q) : (q⁻¹).num = (q.den : Int) ∧ ((q⁻¹).den : Int) = q.num := by
  have hn : 0 < q.num := (num_pos_iff _).mpr h
  have e : q⁻¹ = Rat.divInt (q.den : Int) q.num := Rat.inv_def q
  have hc : common (q.den : Int) q.num = 1 := by
    have : common (q.den : Int) q.num = ((Nat.gcd ((q.den : Int)).natAbs q.num.natAbs : Nat) : Int) := if_pos hn
    rw [this, Int.natAbs_natCast, Nat.gcd_comm]
    have hr : Nat.gcd q.num.natAbs q.den = 1 := q.reduced
    rw [hr]; rfl
  rw [e, ratio_num (by omega), ratio_den (by omega), hc]
  exact ⟨Int.fdiv_one _, Int.fdiv_one _⟩
theorem ev_lastTQ {X : Cx} {a b : Expr} {σ : L2.St} {H : Hp} {pos : Pos} {n m : Nat} {f : Nat → Rat} (ha : EV X a σ H (vTQ X.K n f)) (hb : EV X b σ H (vI (-1))) (hn : n = m + 1) (hs : PlainIx b := by exact fun _ _ => rfl) : EV X (.Subscript a b pos) σ H (vQ X.K (f m)) :=
  ev_of (pe_ix ix_tup we_self we_self hs) fun H1 e1 Q q => ha H1 e1 _ fun x H2 e2 ⟨p, xs, ex, hp, hx⟩ => hb H2 (e1.trans e2) _ fun y H3 e3 ey => by
    obtain ⟨v, q1, q2⟩ := hx.2 m (by omega)
    exact ⟨p, xs, -1, v, ex, ey, sameT e3 hp, atI_end (by rw [hx.1, hn]) q1, q v H3 (e2.trans e3) (Stb.mono e3 q2)⟩
abbrev HasSm (P : Program) (w : World) (K : PySem.W.Frag) (mg : Str → Option Value) (base : Heap) : Prop := Has P w K mg base CX0 "_law_sum" 3 ["_law_some"] (spLSum K)
abbrev HasOv (P : Program) (w : World) (K : PySem.W.Frag) (mg : Str → Option Value) (base : Heap) : Prop := Has P w K mg base CX0 "_law_over" 3 l2 (sp2 K okL fun a b => vQ K (max0 (a - b)))
theorem ev_lover {X : Cx} {e1 e2 : Expr} {σ : L2.St} {H : Hp} {p pos : Pos} {a b : Rat} (hO : HasOv X.prog X.w X.K X.mg X.base) (hr : Room 3 X.A) (ha : EV X e1 σ H (vQ X.K a)) (hb : EV X e2 σ H (vQ X.K b)) (h : okL a b)
    (hg : Gl X "_law_over" := by rfl) (hs : starEach [e1, e2] X.env = (false, eval e1 X.env) :: starEach [e2] X.env := by rfl) (hs2 : starEach [e2] X.env = (false, eval e2 X.env) :: starEach [] X.env := by rfl) (hpl : (backTo pos (starEach [e2] X.env)).any (·.1) = false := by rfl) :
    EV X (.Call (.Name "_law_over" p) [e1, e2] [] pos) σ H (vQ X.K (max0 (a - b))) := ev_two' (R := fun a b => vQ X.K (max0 (a - b))) hO hr ha hb h hg (by decide) hs hs2 hpl
theorem et_or3 {X : Cx} {a b c : Expr} {σ : L2.St} {H : Hp} {pos : Pos} (h1 : ET X a σ H false) (h2 : ET X b σ H false) (h3 : ET X c σ H false) : ET X (.BoolOp .Or [a, b, c] pos) σ H false :=
  EW.et (ew_or (k := false) (l := false) h1 (ew_more_or (k := false) (l := false) (fun _ => h2) (ew_last_or fun _ => h3)))
theorem ok_lbound {f : Addr} {fd : FuncData} (F : Fun K "_law_leak_bound" "_law_leak_bound" sLBd f fd) (T : TxL mg) (hQ : HasL P w K mg base) (hI : HasIs P w K mg base) (hS' : HasSm P w K mg base) (hO : HasOv P w K mg base) : FnOk P w K mg base CX0 5 f fd ["_law_dam", "_law_loss", "_law_worths", "_law_value"] (spBound K) := by
  refine F.ok scLBd (fun vs H Q E h => ?_) (fun cdv A0 outer s H vs Q E hr h => ⟨_, wss_self, ?_⟩)
  · obtain ⟨l, dd, y, vd, vl, vw, vp, rfl, _⟩ := h; rfl
  obtain ⟨l, dd, y, vd, vl, vw, vp, rfl, hd, hl, hw, hp, O, B, hnn, hF, k⟩ := h
  have nd := scLBd.nd
  have hM4 : l.d.M ≤ 4 := O.M4
  have hM0 : 0 < l.d.M := O.M0
  have hlw : l.w.length = l.d.M := O.wl
  obtain ⟨D, B2⟩ := bot2 O B hF
  have zq : ∀ {q : Rat} {N : Nat}, Fr D N q → N ≤ 2 ^ 280 → Sz L q := fun h hN => ((h.mono hN).sz (b := 300) B2.p (Nat.lt_trans B2.lt (by decide)) (by decide)).mono (by decide)
  have zy : ∀ j, j < l.d.M → Sz L (y j) := fun j hj => zq (B2.fy j hj) (by decide)
  have fn : ∀ {n : Nat}, n ≤ 24 → Fr D (24 * 2 ^ 244) (n : Rat) := fun h => (Fr.int (Lw.isI_nat h)).mono (Nat.mul_le_mul_left _ (Nat.le_of_lt B2.lt))
  have zn : ∀ {n : Nat}, n ≤ 24 → Sz L (n : Rat) := fun h => (zsm O h).mono (by decide)
  have hinf : ∀ j, j < l.d.M → l.inf.getD j 0 ≤ 24 := fun j hj => Nat.le_trans (O.inf _ (getD_mem (d := 0) hj)) (by decide)
  obtain ⟨pp, ps, rfl, hpp, hps⟩ := id hp
  obtain ⟨wp, ws, rfl, hwp, hwl, hws⟩ := id hw
  have hpl := hps.1
  have ele : ((l.inf.map fun n : Nat => V.int (n : Int)).length : Int) = (l.d.M : Int) := by rw [List.length_map]; rfl
  refine ss_cons (s_if (k := false) (et_or3 ((et_not (et_val (ev_isi (k := true) (T := "tuple") (t := "tuple") T.isi (ev_v 3 hp) (ev_ty0 T.tup) fun v H1 h => tyx_TQ v H1 h))).is rfl)
    ((et_ne (ev_lenTQ T.len (ev_v 3 hp)) ((ev_lenT T.len (ev_dam3 (ev_v 0 hd))).imp (P1 := vI (l.d.M : Int)) fun v H' _ h => by rw [ele] at h; exact h)).is (by simp))
    (et_neE (hu_of64 hr) ((ev_lcT (g := gName 9) (n := ps.length) nd (es_T (xs := ps) (ev_v 3 (P := vT K ps) ⟨pp, rfl, hpp⟩)) (blkOk_by (N := nLBd) (sc := defScope sLBd) (own := [("_law_one", 9)]) (by decide +kernel)) (fun _ _ _ _ _ => pg_name (i := 9) nd rfl (Or.inl rfl)) (by omega) (fun _ => false) (fun _ => .non) (fun j x H3 H4 hj e hy => ?_)).imp fun v H' _ h => by rw [passed_none] at h; exact h))) (fun z => nomatch z) fun _ H1 e1 => ss_nil ?_)
  · obtain ⟨rfl, hx⟩ := hy
    have hj : j < l.d.M := by omega
    obtain ⟨u, q1, q2⟩ := hps.2 j hj
    obtain rfl : u = x := Option.some.inj (q1.symm.trans hx)
    have q2 := Stb.mono e q2
    refine ⟨_, gt_name, Same.refl _, rfl, fun s5 H5' C5 cl5 fp5 => ?_, fun z => nomatch z⟩
    exact EW.et (ew_or (k := false) (l := false) ((et_not (et_val (ev_lis hI (hr.mono (by decide)) (ev_v 9 q2) (zy j hj)))).is rfl) (ew_last_or fun _ => (et_lt (ev_num (ev_v 9 q2)) ev_i).is (decide_eq_false (by have := hnn j hj; have := (num_lt0 (y j)); grind))))
  have hd1 := Stb.mono (P := vDam K l) e1 hd
  have hl1 := Stb.mono (P := vQ K l.loss) e1 hl
  have hp1 := Stb.mono (P := vTQ K l.d.M y) e1 hp
  have hsl : Sz L l.loss := (Lw.szl O).mono (by decide)
  have s1 : Sz L (1 : Rat) := Sz.int (i := 1) (by decide) (by decide)
  have k0 := Lw.kept0 O
  have hik := inv_q k0
  have zk : Sz L l.d.kept := (kept_sz O).mono (by decide)
  have zik : Sz 4 (l.d.kept⁻¹) := by
    obtain ⟨h1, h2⟩ := Lw.kept_size O
    exact ⟨by rw [hik.1]; simp; omega, by have := hik.2; omega⟩
  refine ss_cons (s_set (i := 4) (P := vQ K l.d.kept) ((ev_lplus hQ (hr.mono (by decide)) (ev_q (q := 1) ev_i ev_i rfl rfl) (ev_lneg (ev_v 1 hl1) (ev_v 1 hl1)) ⟨s1, hsl.neg⟩).imp fun v H' _ h => by rw [loss_neg] at h; exact h) fun v4 H2 e2 h4 => ?_)
  have hd2 := Stb.mono (P := vDam K l) e2 hd1
  have hp2 := Stb.mono (P := vTQ K l.d.M y) e2 hp1
  have zst : l.st ≤ 24 := by have := O.st; have := O.cap; omega
  have zen : l.en ≤ 24 := by have := O.en; have := O.cap; omega
  have zeni : Sz 10 (- l.d.en * l.d.kept⁻¹) := ((zsm O zen).neg.mul zik).mono (by decide)
  have en0 : - l.d.en = (((0 - (l.en : Int) : Int)) : Rat) := by
    show - ((l.en : Nat) : Rat) = _
    rw [Int.zero_sub, Rat.intCast_neg]; rfl
  have ft0 : Fr D (2 ^ 270) (l.d.str * y 0) := (Fr.mulI (Lw.isI_nat zst) (B2.fy 0 hM0)).mono (by decide)
  have ft1 : Fr D (2 ^ 270) (- l.d.en * l.d.kept⁻¹ * y (l.d.M - 1)) := by
    rw [Rat.mul_assoc]
    exact (Fr.mulI (M := 24) ⟨0 - (l.en : Int), en0, by omega⟩ (B2.iy _ (by omega))).mono (by decide)
  let b0 : Rat := l.d.str * y 0 + - l.d.en * l.d.kept⁻¹ * y (l.d.M - 1)
  -- found = [.., ..]
  refine ss_cons (s_set (i := 5) (P := fun v H' => ∃ pA, v = .ref pA ∧ H2 pA = none ∧ Terms K D pA 2 b0 H') ((ev_lst (n := 2) (ea_two (P1 := vQ K (l.d.str * y 0)) (P2 := vQ K (- l.d.en * l.d.kept⁻¹ * y (l.d.M - 1)))
      (ev_lby hQ (hr.mono (by decide)) (ev_qi (ev_dam (ev_v 0 hd2) ev_i fun ip => rfl) rfl) (ev_ixQT (i := 0) (ev_v 3 hp2) ev_i hM0) ⟨zn zst, zy 0 hM0⟩)
      (ev_lby hQ (hr.mono (by decide)) (ev_lby hQ (hr.mono (by decide)) (ev_qi (q := - l.d.en) (ev_sub ev_i (ev_dam (v := .int (l.en : Int)) (ev_v 0 hd2) ev_i fun ip => rfl)) en0) (ev_q (q := l.d.kept⁻¹) (ev_den (ev_v 4 h4)) (ev_num (ev_v 4 h4)) hik.1 hik.2) ⟨(zn zen).neg, zik.mono (by decide)⟩) (ev_lastTQ (m := l.d.M - 1) (ev_v 3 hp2) (ev_neg ev_i) (by omega)) ⟨zeni.mono (by decide), zy _ (by omega)⟩))
      (fun vs H ⟨v, w, e, _⟩ => by rw [e]; exact Nat.le_refl 2)).imp fun v H' _ ⟨p, vs, H9, ev, hp0, hp1', e9, v1, v2, evs, g1, g2⟩ => ⟨p, ev, hp0, fun i => if i = 0 then l.d.str * y 0 else - l.d.en * l.d.kept⁻¹ * y (l.d.M - 1), vs, hp1', ⟨by rw [evs]; rfl, fun i hi => ?_⟩, ?_, fun i hi => ?_⟩) fun v5 H3 e3 ⟨pA, ev, hpA0, hT⟩ => ?_)
  · rw [evs]
    match i, hi with
    | 0, _ => exact ⟨v1, rfl, Stb.mono e9 g1⟩
    | 1, _ => exact ⟨v2, rfl, Stb.mono e9 g2⟩
  · rw [S_succ, S_succ, S_zero]
    show 0 + (if 0 = 0 then l.d.str * y 0 else _) + (if 1 = 0 then _ else - l.d.en * l.d.kept⁻¹ * y (l.d.M - 1)) = _
    rw [if_pos rfl, if_neg (by decide), Rat.zero_add]
  · show Fr D (2 ^ 270) (if i = 0 then l.d.str * y 0 else - l.d.en * l.d.kept⁻¹ * y (l.d.M - 1))
    split
    · exact ft0
    · exact ft1
  subst ev
  have e13 := e1.trans (e2.trans e3)
  have hp3 := Stb.mono (P := vTQ K l.d.M y) e3 hp2
  have hA0 : H pA = none := (e1.trans e2).free hpA0
  -- what stays
  have stay : ∀ {H' : Hp}, Same H H' → vDam K l vd H' ∧ vTQ K l.d.M y (.ref pp) H' ∧ SqT K H' wp ws := fun e => ⟨Stb.mono e hd, Stb.mono e hp, sameT e hwp⟩
  refine ss_cons (s_for PassesOwn.never (ei_R1 (n := l.d.M) T.rng (ev_lenTQ T.len (ev_v 3 hp3)) (by omega)) (pg_name (i := 6) nd rfl (Or.inl rfl))
    (fun i σ' H' => ∃ o6 o7 o8 n, σ' = [some vd, some vl, some (.ref wp), some (.ref pp), some v4, some (.ref pA), o6, o7, o8, none] ∧ Same H H' ∧ vQ K l.d.kept v4 H' ∧ n ≤ 2 + 4 * i ∧ Terms K D pA n (b0 + S i fun j => l.d.bterm y j) H')
    (fun H4 e4 => ⟨none, none, none, 2, rfl, e13.trans e4, Stb.mono (e3.trans e4) h4, Nat.le_refl _, by rw [S_zero, Rat.add_zero]; exact hT.mono e4⟩) (fun _ _ _ _ _ => trivial) ?_ ?_)
  · rintro i x σ' H4 H5 hi ⟨o6, o7, o8, n, rfl, e4, h44, hn, hT4⟩ ⟨rfl, rfl⟩
    refine ⟨_, gt_name, ?_⟩
    obtain ⟨hd4, hp4, hwp4⟩ := stay e4
    obtain ⟨f, ys, hA4, hy4, _⟩ := id hT4
    have fti : Fr D (2 ^ 270) (l.d.inf i * y i) := (Fr.mulI (Lw.isI_nat (hinf i hi)) (B2.fy i hi)).mono (by decide)
    refine ss_cons (s_app (l := pA) (P := vQ K (l.d.inf i * y i)) (ev_v 5 (P := vE (.ref pA)) rfl) hA4 (by have := hy4.1; omega) (ev_lby hQ (hr.mono (by decide)) (ev_qi (ev_inf (ev_dam3 (ev_v 0 hd4)) (ev_v 6 (P := vI (i : Int)) rfl) hi rfl) rfl) (ev_ixQT (ev_v 3 hp4) (ev_v 6 (P := vI (i : Int)) rfl) hi) ⟨zn (hinf i hi), zy i hi⟩) fun v H6 e6 h6 => ?_)
    have hT6 := (hT4.mono e6).add (e6 _ _ hA4) h6 fti
    have e46 : Same H (upd H6 pA (.lst (ys ++ [v]))) := upd_new (e4.trans e6) hA0
    have h46 := mutQ (o := .lst (ys ++ [v])) (.inl ⟨_, e6 _ _ hA4⟩ : IsM H6 pA) (Stb.mono e6 h44)
    generalize upd H6 pA (.lst (ys ++ [v])) = H7 at *
    obtain ⟨u, r1, pa, pv, rfl, r3, r4, r5⟩ := hws i _ (getD_of (d := []) (by omega : i < l.w.length))
    have r4 : pv.length = (l.ps i).length := r4
    have hps2 := ps2 O hi
    -- the pieces
    refine ss_mid (fun σ' H' => ∃ o7 o8 n, σ' = [some vd, some vl, some (.ref wp), some (.ref pp), some v4, some (.ref pA), some (.int (i : Int)), o7, o8, none] ∧ Same H H' ∧ vQ K l.d.kept v4 H' ∧ n ≤ 2 + 4 * i + 3 ∧ Terms K D pA n (b0 + (S i fun j => l.d.bterm y j) + l.d.inf i * y i + S (l.d.len i) fun q => l.d.am (l.d.st i + q) * max0 (l.d.pr (l.d.st i + q) - y i)) H')
      (s_for (g := g2 K 7 8) PassesOwn.never (ei_T ((ev_ixT (ev_v 2 (P := vT K ws) ⟨wp, rfl, (stay e46).2.2⟩) (ev_v 6 (P := vI (i : Int)) rfl) (atI_nat r1))) (sameT e46 r3)) (pg_tup rfl (pgs_cons (pg_name (i := 7) nd rfl (Or.inl rfl)) (pgs_cons (pg_name (i := 8) nd rfl (Or.inl rfl)) pgs_nil)))
      (fun q σ' H' => ∃ o7 o8 n, σ' = [some vd, some vl, some (.ref wp), some (.ref pp), some v4, some (.ref pA), some (.int (i : Int)), o7, o8, none] ∧ Same H H' ∧ vQ K l.d.kept v4 H' ∧ n ≤ 2 + 4 * i + 1 + q ∧ Terms K D pA n (b0 + (S i fun j => l.d.bterm y j) + l.d.inf i * y i + S q fun q => l.d.am (l.d.st i + q) * max0 (l.d.pr (l.d.st i + q) - y i)) H')
      (fun H8 e8 => ⟨o7, o8, n + 1, rfl, e46.trans e8, Stb.mono e8 h46, by omega, by rw [S_zero, Rat.add_zero]; exact hT6.mono e8⟩) (fun q σ' H' _ ⟨_, _, _, _, e, _⟩ => sameT e r3) ?_ ?_) ?_
    · rintro q x σ' H8 H9 hq ⟨o7, o8, n', rfl, e8, h48, hn', hT8⟩ ⟨rfl, hx⟩
      have hq : q < (l.ps i).length := by omega
      obtain ⟨u, s1', c, rfl, s2⟩ := r5 q _ (getD_of (d := (0, 0)) hq)
      obtain rfl : V.ref c = x := Option.some.inj (s1'.symm.trans hx)
      have hjw : i < l.w.length := by omega
      have ham := Lw.am_at (l := l) hjw hq
      have hpr := Lw.pr_at (l := l) hjw hq
      have hn9 := am9 O hi hq
      have s2 : SqT K H c [.int (((l.ps i).getD q (0, 0)).1 : Int), .int (((l.ps i).getD q (0, 0)).2 : Int)] := s2
      generalize (l.ps i).getD q (0, 0) = pr at *
      have fpr : Fr D (24 * 2 ^ 244) (l.d.pr (l.d.st i + q)) := by rw [hpr]; exact fn (by omega)
      have fov : Fr D (2 ^ 261) (max0 (l.d.pr (l.d.st i + q) - y i)) := (fr_max0 (fpr.sub (B2.fy i hi))).mono (by decide)
      have fam : isI 9 (l.d.am (l.d.st i + q)) := by rw [ham]; exact Lw.isI_nat hn9.1
      have ftm : Fr D (2 ^ 270) (l.d.am (l.d.st i + q) * max0 (l.d.pr (l.d.st i + q) - y i)) := (Fr.mulI fam fov).mono (by decide)
      have zam : Sz L (l.d.am (l.d.st i + q)) := by rw [ham]; exact zn (by omega)
      have zpr : Sz L (l.d.pr (l.d.st i + q)) := by rw [hpr]; exact zn (by omega)
      obtain ⟨f', ys', hA8, hy8, _⟩ := id hT8
      refine ⟨_, gt_two (sameT e8 s2), ?_⟩
      refine ss_one (s_app (l := pA) (P := vQ K (l.d.am (l.d.st i + q) * max0 (l.d.pr (l.d.st i + q) - y i))) (ev_v 5 (P := vE (.ref pA)) rfl) hA8 (by have := hy8.1; omega) (ev_lby hQ (hr.mono (by decide)) (ev_qi (ev_v 7 (P := vI (pr.1 : Int)) rfl) (by rw [ham]; rfl)) (ev_lover hO (hr.mono (by decide)) (ev_qi (ev_v 8 (P := vI (pr.2 : Int)) rfl) (by rw [hpr]; rfl)) (ev_ixQT (ev_v 3 (stay e8).2.1) (ev_v 6 (P := vI (i : Int)) rfl) hi) ⟨zpr, zy i hi⟩) ⟨zam, zq fov (by decide)⟩) fun v' H10 e10 h10 => ?_)
      have hT10 := (hT8.mono e10).add (e10 _ _ hA8) h10 ftm
      refine ⟨_, _, n' + 1, rfl, upd_new (e8.trans e10) hA0, mutQ (.inl ⟨_, e10 _ _ hA8⟩ : IsM H10 pA) (Stb.mono e10 h48), by omega, ?_⟩
      rw [S_succ, ← Rat.add_assoc]; exact hT10
    · rintro σ' H8 ⟨o7, o8, n', rfl, e8, h48, hn', hT8⟩
      rw [r4] at hT8
      exact ⟨o7, o8, n', rfl, e8, h48, by omega, hT8⟩
    rintro σ' H8 ⟨o7, o8, n', rfl, e8, h48, hn', hT8⟩
    -- if k > 0
    refine ss_one (s_if (k := decide (0 < (i : Int))) (et_gt (ev_v 6 (P := vI (i : Int)) rfl) ev_i) (fun hk H9 e9 => ?_) (fun hk H9 e9 => ss_nil ?_))
    · have hk : 0 < i := by have := of_decide_eq_true hk; omega
      have ei : (i : Int) - 1 = ((i - 1 : Nat) : Int) := by omega
      have e89 := e8.trans e9
      obtain ⟨f', ys', hA9, hy9, _⟩ := id (hT8.mono e9)
      have fov : Fr D (2 ^ 261) (max0 (l.d.kept * y i - y (i - 1))) := (fr_max0 ((B2.ky i hi).sub (B2.fy (i - 1) (by omega)))).mono (by decide)
      have ftm : Fr D (2 ^ 270) (l.d.cap * max0 (l.d.kept * y i - y (i - 1))) := (Fr.mulI (Lw.isI_nat O.cap) fov).mono (by decide)
      refine ss_one (s_app (l := pA) (P := vQ K (l.d.cap * max0 (l.d.kept * y i - y (i - 1)))) (ev_v 5 (P := vE (.ref pA)) rfl) hA9 (by have := hy9.1; omega) (ev_lby hQ (hr.mono (by decide)) (ev_qi (ev_dam (ev_v 0 (stay e89).1) ev_i fun ip => rfl) rfl) (ev_lover hO (hr.mono (by decide)) (ev_lby hQ (hr.mono (by decide)) (ev_v 4 (Stb.mono e9 h48)) (ev_ixQT (ev_v 3 (stay e89).2.1) (ev_v 6 (P := vI (i : Int)) rfl) hi) ⟨zk, zy i hi⟩) (ev_ixQT (i := i - 1) (ev_v 3 (stay e89).2.1) ((ev_sub (ev_v 6 (P := vI (i : Int)) rfl) ev_i).imp fun v H' _ h => by rw [show v = _ from h, ei]; rfl) (by omega)) ⟨zq (B2.ky i hi) (by decide), zy _ (by omega)⟩) ⟨zn O.cap, zq fov (by decide)⟩) fun v' H10 e10 h10 => ?_)
      have hT10 := ((hT8.mono e9).mono e10).add (e10 _ _ hA9) h10 ftm
      refine ⟨_, _, _, n' + 1, rfl, upd_new (e89.trans e10) hA0, mutQ (.inl ⟨_, e10 _ _ hA9⟩ : IsM H10 pA) (Stb.mono (e9.trans e10) h48), by omega, ?_⟩
      have : b0 + (S (i + 1) fun j => l.d.bterm y j) = b0 + (S i fun j => l.d.bterm y j) + l.d.inf i * y i + (S (l.d.len i) fun q => l.d.am (l.d.st i + q) * max0 (l.d.pr (l.d.st i + q) - y i)) + l.d.cap * max0 (l.d.kept * y i - y (i - 1)) := by
        rw [S_succ]
        have : l.d.bterm y i = l.d.inf i * y i + (S (l.d.len i) fun q => l.d.am (l.d.st i + q) * max0 (l.d.pr (l.d.st i + q) - y i)) + l.d.cap * max0 (l.d.kept * y i - y (i - 1)) := by
          unfold Dt.bterm; rw [if_pos hk]
        rw [this]; grind
      rw [this]; exact hT10
    · have hk : ¬ 0 < i := by have := of_decide_eq_false hk; omega
      refine ⟨_, _, _, n', rfl, e8.trans e9, Stb.mono e9 h48, by omega, ?_⟩
      have : b0 + (S (i + 1) fun j => l.d.bterm y j) = b0 + (S i fun j => l.d.bterm y j) + l.d.inf i * y i + (S (l.d.len i) fun q => l.d.am (l.d.st i + q) * max0 (l.d.pr (l.d.st i + q) - y i)) := by
        rw [S_succ]
        have : l.d.bterm y i = l.d.inf i * y i + (S (l.d.len i) fun q => l.d.am (l.d.st i + q) * max0 (l.d.pr (l.d.st i + q) - y i)) + 0 := by
          unfold Dt.bterm; rw [if_neg hk]
        rw [this]; grind
      rw [this]; exact hT8.mono e9
  · rintro σ' H4 ⟨o6, o7, o8, n, rfl, e4, h44, hn, f, ys, hA4, hy4, hsum, hfr⟩
    have hb : b0 + (S l.d.M fun j => l.d.bterm y j) = l.d.bound y := by
      show l.d.str * y 0 + - l.d.en * l.d.kept⁻¹ * y (l.d.M - 1) + _ = l.d.str * y 0 + - l.d.en / l.d.kept * y (l.d.M - 1) + _
      rw [Rat.div_def]
    have hS : ∀ i, i ≤ n → Fr D (2 ^ 280) (S i f) := fun i hi => (Fr.S fun j hj => hfr j (by omega)).mono (Nat.le_trans (Nat.mul_le_mul_right _ (by omega : i ≤ 18)) (by decide))
    refine ss_one (s_ret (P := vQ K (l.d.bound y)) (ev_call hS' (hr.mono (by decide)) (ea_one (P := vMQ K n f) (ev_v 5 (P := vMQ K n f) ⟨pA, ys, rfl, hA4, hy4⟩)) fun vs H5 e5 ⟨v, ev, pq, xs, ex, hx1, hx2⟩ Q kk => ⟨v, n, f, ev, ⟨pq, xs, ex, SqL.of hx1, hx2⟩, fun i hi => ⟨zq (hS i (by omega)) (by decide), zq (hfr i hi) (by decide)⟩, fun v' H6 e6 h6 => kk v' H6 e6 (by rw [← hb, ← hsum]; exact h6)⟩) fun v H5 e5 h5 => k v H5 (e4.trans e5) h5)
end
end Dw
set_option Elab.async false
set_option linter.all false
set_option maxRecDepth 100000
set_option maxHeartbeats 4000000
set_option pp.maxSteps 300
/-! set(a list of ints) -/
namespace Dw
open PySem PySem.Spec PyProof.Rows L2 RZ
section
variable {P : Program} {w : World} {A : Around} {E : Value → Shared → Prop} {s : Shared}
theorem set_lst {l : Addr} {items : Array Value} (ns : List Int) {Q : Value → Shared → Prop} (hh : A.handled = none) (hl : s.heap.IsList l items) (hit : IntsAre items.toList ns) (hb : ns.length + 1 < scanBound)
    (h : ∀ (h' : Heap) (tk c : Nat), SetR w h' s.heap.objs.size (fun j => decide (j ∈ ns)) c → c ≤ ns.length → (∀ b o, s.heap.get? b = some o → h'.get? b = some o) → Q (.ref s.heap.objs.size) { s with heap := h', toks := tk }) :
    wpAny (model P w) A (call (.type "set") [.ref l]) Q E s := by
  have hisz : items.size = ns.length := by
    have q := IntsAre.length hit
    rw [Array.length_toList] at q
    exact q
  obtain ⟨c, tl, hmro⟩ := F.called_set.mro
  have hmade := F.called_set.made
  have hsub := F.called_set.sub
  refine wpAny_call (codeAny_of_tree ?_)
  show wpAny _ _ (callAny (.type "set") _) _ _ _
  refine wpAny_pure ⟨Code.quiet_builtin _ (by decide +kernel), codeAny_builtin F.entry_type_call ?_⟩
  rw [Around.under_plain (weight_type_call_type "set" [.ref l] []) rfl]
  have h1 := F.called_set.notType
  have h2 := F.called_set.canCreate
  have hct := F.typeCall_set_1 (.ref l)
  repeat (any_goals (first | assumption | wp_step))
  refine codeAny_mono (code_set_led1 (.ref l) (E := E) (Q₁ := fun obj s₁ => obj = .ref s.heap.objs.size ∧ s₁ = { s with heap := s.heap.push { cls := .type "set", dict := none, data := .set #[] 0 (.fresh 0 0 (!w.params.followText "set-order")) } }) ⟨rfl, rfl⟩) fun r s₁ hr => ?_
  cases r with
  | error e => exact hr
  | ok fl =>
    cases fl with
    | ret obj =>
      obtain ⟨rfl, rfl⟩ := hr
      have hS : (s.heap.push { cls := .type "set", dict := none, data := .set #[] 0 (.fresh 0 0 (!w.params.followText "set-order")) }).get? s.heap.objs.size = some { cls := .type "set", dict := none, data := .set #[] 0 (.fresh 0 0 (!w.params.followText "set-order")) } := Heap.get?_push_size _ rfl
      have hT : Shared.TypeIs { s with heap := s.heap.push { cls := .type "set", dict := none, data := .set #[] 0 (.fresh 0 0 (!w.params.followText "set-order")) } } (.ref s.heap.objs.size) "set" := ⟨_, hS, rfl⟩
      have hli := F.called_set.init.lookup
      have hbi := F.called_set.init.bind (.ref s.heap.objs.size)
      repeat (any_goals (first | assumption | wp_step))
      refine codeAny_mono (codeAny_call_builtin (R := wants (fun r s₂ => r = .none ∧ ∃ h' tk c, s₂ = { s with heap := h', toks := tk } ∧ SetR w h' s.heap.objs.size (fun j => decide (j ∈ ns)) c ∧ c ≤ ns.length ∧
          (∀ b o, s.heap.get? b = some o → h'.get? b = some o)) E) F.called_set.init.plain F.entry_set_init (check_set_init_1 hT ?_)) fun r₂ s₂ hr₂ => ?_
      · obtain ⟨ol, hol, hcl, nl, hdl⟩ := hl
        obtain ⟨ocls, odict, odata, oslots⟩ := ol
        simp only at hcl hdl
        subst hcl; subst hdl
        have hol' : (s.heap.push { cls := .type "set", dict := none, data := .set #[] 0 (.fresh 0 0 (!w.params.followText "set-order")) }).get? l = some { cls := .type "list", dict := odict, data := .seq items nl, slots := oslots } := Heap.get?_push_of_some _ hol
        have hsls := F.sub_list_set
        have hslf := F.sub_list_frozenset
        have hne : (Value.type "list" == Value.type "dict") = false := by decide
        have hl1 : (s.heap.push { cls := .type "set", dict := none, data := .set #[] 0 (.fresh 0 0 (!w.params.followText "set-order")) }).IsList l items := ⟨_, hol', rfl, nl, rfl⟩
        unfold Builtin.«set.__init__» noKeywords Builtin.Frozenset.updateFrom
        generalize hPI : pyIter = PI
        wp_walk
        subst hPI
        refine wpAny_pyIter_list hl1 ?_
        refine wpAny_bind (wpAny_runValue ?_)
        have hlS : l < s.heap.objs.size := Heap.lt_size hol
        have hh3 : A.in1.in1.in1.handled = none := by simp [hh]
        have hneI : l ≠ (s.heap.push { cls := .type "set", dict := none, data := .set #[] 0 (.fresh 0 0 (!w.params.followText "set-order")) }).objs.size := by
          rw [Heap.size_push]; exact Nat.ne_of_lt (Nat.lt_succ_of_lt hlS)
        have hSf : s.heap.objs.size ∉ [(s.heap.push { cls := .type "set", dict := none, data := .set #[] 0 (.fresh 0 0 (!w.params.followText "set-order")) }).objs.size, l] := by
          rw [Heap.size_push]; simp only [List.mem_cons, List.mem_singleton, List.not_mem_nil, or_false, not_or]
          exact ⟨Nat.ne_of_lt (Nat.lt_succ_self _), Nat.ne_of_gt hlS⟩
        have hval : ∀ (i : Nat) (v : Value), items[i]? = some v → ∃ k t, ns[i]? = some k ∧ v = .int k t := fun i v hv => by
          have hi : i < ns.length := by rw [← hisz]; exact (Array.getElem?_eq_some_iff.mp hv).1
          obtain ⟨t, e⟩ := PyProof.Rows.IntsAre.int_at hit i v (by rw [Array.getElem?_toList]; exact hv)
          refine ⟨ns[i], t, List.getElem?_eq_getElem hi, ?_⟩
          rw [e, List.getD_eq_getElem?_getD, List.getElem?_eq_getElem hi] <;> rfl
        refine set_update_ints ((Walks.list hh3 _ l hneI items).toS) s.heap.objs.size
          hSf ns hisz hb hval (items.size - 0) 0 _ (by omega) (Nat.zero_le _)
          ⟨⟨_, Heap.get?_push_size _ rfl, rfl, rfl⟩, (hl1.push _)⟩ ?hS0 ?hR
        case hS0 =>
          have hget : ((s.heap.push { cls := .type "set", dict := none, data := .set #[] 0 (.fresh 0 0 (!w.params.followText "set-order")) }).push { cls := .type "list_iterator", data := .fields #[.ref l, .int 0 0] }).get? s.heap.objs.size
              = some { cls := .type "set", dict := none, data := .set #[] 0 (.fresh 0 0 (!w.params.followText "set-order")) } := Heap.get?_push_of_some _ hS
          exact ⟨0, Nat.le_refl 0, setR_new_at hget⟩
        case hR =>
          intro s' c' hm hc' hS'
          obtain ⟨h', g2, d', tk', os'⟩ := s'
          have eg : g2 = s.gens := hm.gens
          have ed : d' = s.drawn := hm.drawn
          have eo : os' = s.os := hm.os
          subst eg; subst ed; subst eo
          show wpAny _ _ _ _ _ _
          refine wpAny_pure ?_
          show wpAny _ _ (ret Value.none) _ _ _
          rw [hisz] at hc'
          refine wpAny_pure ⟨rfl, h', tk', c', rfl, hS', hc', fun b o e => ?_⟩
          have hb0 : b < s.heap.objs.size := Heap.lt_size e
          have hb1 : b ≠ s.heap.objs.size := Nat.ne_of_lt hb0
          have hb2 : b ≠ (s.heap.push { cls := .type "set", dict := none, data := .set #[] 0 (.fresh 0 0 (!w.params.followText "set-order")) }).objs.size := by
            rw [Heap.size_push]; exact Nat.ne_of_lt (Nat.lt_succ_of_lt hb0)
          exact hm.heap b o (by simp only [List.mem_cons, List.mem_singleton, List.not_mem_nil, or_false, not_or]; exact ⟨hb1, hb2⟩) (Heap.get?_push_of_some _ (Heap.get?_push_of_some _ e))
      · cases r₂ with
        | error e => exact hr₂
        | ok fl₂ =>
          cases fl₂ with
          | ret r =>
            obtain ⟨rfl, h', tk, c', rfl, hS', hc', hk'⟩ := hr₂
            repeat (any_goals (first | assumption | wp_step))
            exact h _ _ _ hS' hc' hk'
          | _ => exact hr₂.elim
    | _ => exact hr.elim
end
/-- set(a list of ints) -/
def rSetL (K : PySem.W.Frag) (w : World) : List V → Hp → VK → Prop := fun xs H Q => ∃ (a : Addr) (ns : List Int), xs = [.ref a] ∧ SqL K H a (ns.map V.int) ∧ ns.length < 60 ∧ ∀ p c, H p = none → c ≤ ns.length → Q (.ref p) (upd H p (SetO w p (fun j => decide (j ∈ ns)) c))
theorem ints_vals : ∀ {ns : List Int} {us : List Value}, Vals (ns.map V.int) us → IntsAre us ns
  | [], _, .nil => .nil
  | n :: ns, _, .cons h r => by
    obtain ⟨t, rfl⟩ := h
    exact .cons n t (ints_vals r)
theorem cr_setL {X : Cx} (hc : X.calm = true) : CallR X (.type "set") (rSetL X.K X.w) := by
  intro pins s σ H xs us Q I r h
  obtain ⟨a, ns, rfl, hq, h60, q⟩ := h
  rw [Vals.ref1 r]
  obtain ⟨its, rv, pl, hz⟩ := I.list hq
  refine set_lst (items := its.toArray) ns (I.ok.hd hc) pl.isList (by simpa using ints_vals rv) (by show ns.length + 1 < scanBound; unfold scanBound; omega) fun h' tk c R hc' hk => ?_
  exact ⟨.ref _, upd H s.heap.objs.size (SetO X.w s.heap.objs.size (fun j => decide (j ∈ ns)) c), I.laid (t' := tk) hk (Nat.le_refl _) (setO_new R), rfl, q _ c (I.hok.fresh (Nat.le_refl _)) hc'⟩
end Dw
set_option Elab.async false
set_option linter.all false
set_option maxRecDepth 100000
set_option maxHeartbeats 4000000
set_option pp.maxSteps 300
/-! what the law draws -/
namespace Dw
open PySem PySem.Spec PyProof.Rows L2 RZ
/-- the law's row: the script, the place, two numbers -/
structure RK (K : PySem.W.Frag) (sA : Addr) (ns : List Int) (rA : Addr) (H : Hp) : Prop where
  at_ : ∃ i x y : Int, H rA = some (.lst [.ref sA, .int i, .int x, .int y]) ∧ 0 ≤ i ∧ 0 ≤ x ∧ x < 2147483647
  sq : SqL K H sA (ns.map V.int)
section
variable {K : PySem.W.Frag} {sA rA : Addr} {ns : List Int} {H H' : Hp}
theorem RK.mono (h : RK K sA ns rA H) (e : Same H H') : RK K sA ns rA H' := let ⟨i, x, y, h1, h2⟩ := h.at_; ⟨⟨i, x, y, e _ _ h1, h2⟩, e.seq h.sq⟩
theorem rk_sq {vs : List V} (hr : H rA = some (.lst (.ref sA :: vs))) (h : SqL K H sA (ns.map V.int)) (e : SameB [rA] H H') : SqL K H' sA (ns.map V.int) := by
  have n : ∀ o, H sA = some o → (∀ vs, o ≠ .lst (.ref sA :: vs)) → sA ∉ [rA] := fun o h1 h2 z => by
    have z : sA = rA := by simpa using z
    rw [z, hr] at h1
    exact h2 vs (Option.some.inj h1).symm
  rcases h with (h | ⟨o, h⟩) | h
  · refine .inl (.inl (e _ _ (n _ h fun vs z => ?_) h))
    cases ns with
    | nil => cases z
    | cons a r => cases z
  · exact .inl (.inr ⟨o, e _ _ (n _ h (fun vs z => by cases z)) h⟩)
  · exact .inr h
theorem RK.ls (h : RK K sA ns rA H) : ∀ b ∈ [rA], ∃ ys, H b = some (.lst ys) := fun b hb => by
  obtain ⟨i, x, y, h1, _⟩ := h.at_
  have : b = rA := by simpa using hb
  exact ⟨_, by rw [this]; exact h1⟩
/-- the row is written anew -/
theorem RK.put (h : RK K sA ns rA H) {i x y : Int} (hi : 0 ≤ i) (hx : 0 ≤ x) (hx2 : x < 2147483647) : RK K sA ns rA (upd H rA (.lst [.ref sA, .int i, .int x, .int y])) := by
  obtain ⟨i', x', y', h1, _⟩ := h.at_
  exact ⟨⟨i, x, y, upd_same, hi, hx, hx2⟩, rk_sq h1 h.sq (sameB_upd (by simp))⟩
end
section
variable {P : Program} {w : World} {K : PySem.W.Frag} {mg : Str → Option Value} {base : Heap}
def spTaken (K : PySem.W.Frag) : Sp := fun vs H Q _ => ∃ (rA sA : Addr) (ns : List Int) (m : Nat), vs = [.ref rA, .int (m : Int)] ∧ RK K sA ns rA H ∧ 0 < m ∧ m ≤ 1000 ∧ ∀ (t : Nat) H', t < m → SameB [rA] H H' → RK K sA ns rA H' → Q (.int (t : Int)) H'
abbrev sTk : Stmt := top 49
abbrev nTk : List Str := ["_law_row", "_law_many", "_law_found", "_law_cell"]
theorem scTk : FnScope nTk ["_law_row", "_law_many"] (defScope sTk) := ⟨rfl, rfl, rfl, by decide +kernel, rfl, by decide +kernel, by decide +kernel⟩
theorem fmod_in (i : Int) {m : Nat} (h : 0 < m) : ∃ t : Nat, i.fmod (m : Int) = (t : Int) ∧ t < m := by
  rw [Int.fmod_eq_emod_of_nonneg _ (by omega)]
  have h1 := Int.emod_nonneg i (by omega : (m : Int) ≠ 0)
  have h2 := Int.emod_lt_of_pos i (by omega : (0 : Int) < m)
  exact ⟨(i % (m : Int)).toNat, by omega, by omega⟩
theorem ev_pow {X : Cx} {a b : Expr} {σ : L2.St} {H : Hp} {pos : Pos} {i j : Int} (ha : EV X a σ H (vI i)) (hb : EV X b σ H (vI j)) (hc : CPow i j) : EV X (.BinOp a .Pow b pos) σ H (vI (i ^ j.toNat)) := ev_op op_pow ha hb fun x y H1 _ p1 p2 Q q => ⟨i, j, p1, p2, hc, q _ H1 (Same.refl _) rfl⟩
theorem ok_taken {f : Addr} {fd : FuncData} (F : Fun K "_law_taken" "_law_taken" sTk f fd) (T : TxL mg) : FnOk P w K mg base CX0 1 f fd ["_law_row", "_law_many"] (spTaken K) := by
  refine F.ok scTk (fun vs H Q E h => ?_) (fun cdv A0 outer s H vs Q E hr h => ⟨_, wss_self, ?_⟩)
  · obtain ⟨rA, sA, ns, m, rfl, _⟩ := h; rfl
  obtain ⟨rA, sA, ns, m, rfl, hR, hm, hm1, k⟩ := h
  have nd := scTk.nd
  have hmz : (m : Int) ≠ 0 ∧ (m : Int).natAbs.log2 < 9000 := ⟨by omega, log9 (b := 10) (by simp; omega)⟩
  obtain ⟨i, x, y, hr0, hi, hx, hx2⟩ := hR.at_
  have at_ : ∀ {X : Cx} {a b : Expr} {σ : L2.St} {H' : Hp} {p1 : Pos} {xs : List V} {j : Int} {v : V}, H' rA = some (.lst xs) → EV X a σ H' (vE (.ref rA)) → EV X b σ H' (vI j) → atI xs j = some v → PlainIx b → EV X (.Subscript a b p1) σ H' (vE v) := fun {X a b σ H' p1 xs j v} h ha hb hv hp =>
    ev_ixL (ha.imp (P1 := vL X.K xs) fun u H'' e ev => ⟨rA, ev, SqL.of (e _ _ h)⟩) hb hv hp
  refine ss_cons (s_if (k := decide (0 < y)) (et_gt (at_ hr0 (ev_v 0 (P := vE (.ref rA)) rfl) ev_i rfl (fun _ _ => rfl)) ev_i) (fun hk H1 e1 => ?_) (fun hk H1 e1 => ss_nil ?_))
  · -- what is left of a wide cell
    obtain ⟨t, ht, htm⟩ := fmod_in y hm
    have hr1 := e1 _ _ hr0
    refine ss_cons (s_set (i := 2) (P := vI (y.fmod (m : Int))) (ev_mod (ev_int T.int (at_ hr1 (ev_v 0 (P := vE (.ref rA)) rfl) ev_i rfl (fun _ _ => rfl))) (ev_v 1 (P := vI (m : Int)) rfl) hmz.1) fun v H2 e2 ev => ?_)
    cases ev
    have hr2 := e2 _ _ hr1
    refine ss_cons (s_setL (j := 3) (P := vI (y.fdiv (m : Int))) (ev_div (at_ hr2 (ev_v 0 (P := vE (.ref rA)) rfl) ev_i rfl (fun _ _ => rfl)) (ev_v 1 (P := vI (m : Int)) rfl) hmz) (ev_v 0 (P := vE (.ref rA)) rfl) ev_i hr2 (by simp) fun v H3 e3 ⟨H4, e4, e5, ev⟩ => ?_)
    cases ev
    have h3 : RK K sA ns rA H3 := hR.mono ((e1.trans e2).trans e3)
    refine ss_one (s_ret (ev_v 2 (P := vI (y.fmod (m : Int))) rfl) fun v H6 e6 ev => ?_)
    rw [show v = _ from ev, ht]
    exact k t H6 htm ((sb_of ((e1.trans e2).trans e3)).trans ((sameB_upd (by simp)).trans (sb_of e6))) ((h3.put (i := i) (x := x) (y := y.fdiv (m : Int)) hi hx hx2).mono e6)
  · have hr1 := e1 _ _ hr0
    have h1 : RK K sA ns rA H1 := hR.mono e1
    -- the next place
    refine ss_cons (s_setL (j := 1) (P := vI (i + 1)) (ev_add (at_ hr1 (ev_v 0 (P := vE (.ref rA)) rfl) ev_i rfl (fun _ _ => rfl)) ev_i) (ev_v 0 (P := vE (.ref rA)) rfl) ev_i hr1 (by simp) fun v H2 e2 ⟨H2', e2a, e2b, ev⟩ => ?_)
    cases ev
    have h2 : RK K sA ns rA (upd H2 rA (.lst [.ref sA, .int (i + 1), .int x, .int y])) := (h1.mono e2).put (by omega) hx hx2
    have sb2 : SameB [rA] H (upd H2 rA (.lst [.ref sA, .int (i + 1), .int x, .int y])) := (sb_of (e1.trans e2)).trans (sameB_upd (by simp))
    show WSs _ _ _ _ (upd H2 rA (.lst [.ref sA, .int (i + 1), .int x, .int y]))
    have hr2 : upd H2 rA (.lst [.ref sA, .int (i + 1), .int x, .int y]) rA = some (.lst [.ref sA, .int (i + 1), .int x, .int y]) := upd_same
    generalize upd H2 rA (.lst [.ref sA, .int (i + 1), .int x, .int y]) = Ha at *
    have mx : (2147483647 : Int) ≠ 0 := by decide
    have mw : CMulW x 48271 := mulW (a := 31) (b := 16) (by omega) (by decide)
    refine ss_cons (s_if (k := decide ((ns.length : Int) < i + 1)) (et_gt (at_ hr2 (ev_v 0 (P := vE (.ref rA)) rfl) ev_i rfl (fun _ _ => rfl)) ((ev_lenL T.len ((at_ hr2 (ev_v 0 (P := vE (.ref rA)) rfl) ev_i rfl (fun _ _ => rfl)).imp (P1 := vL K (ns.map V.int)) fun v H' e ev => ⟨sA, ev, e.seq h2.sq⟩)).imp (P1 := vI (ns.length : Int)) fun v H' e ev => by rw [List.length_map] at ev; exact ev)) (fun hk H3 e3 => ?_) (fun hk H3 e3 => ss_nil ?_))
    · have hr3 := e3 _ _ hr2
      obtain ⟨x', hx', hxm⟩ := fmod_in (x * 48271 + 11) (by decide : 0 < 2147483647)
      refine ss_cons (s_setL (j := 2) (P := vI ((x * 48271 + 11).fmod 2147483647)) (ev_mod (ev_int T.int (ev_add (ev_mul (at_ hr3 (ev_v 0 (P := vE (.ref rA)) rfl) ev_i rfl (fun _ _ => rfl)) ev_i mw) ev_i)) ev_i mx) (ev_v 0 (P := vE (.ref rA)) rfl) ev_i hr3 (by simp) fun v H4 e4 ⟨H4', e4a, e4b, ev⟩ => ?_)
      cases ev
      have hx'' : (x * 48271 + 11).fmod 2147483647 = (x' : Int) := hx'
      have h4 : RK K sA ns rA (upd H4 rA (.lst [.ref sA, .int (i + 1), .int ((x * 48271 + 11).fmod 2147483647), .int y])) := (h2.mono (e3.trans e4)).put (by omega) (by omega) (by omega)
      obtain ⟨t, ht, htm⟩ := fmod_in (((x * 48271 + 11).fmod 2147483647).fdiv 7) hm
      refine ss_one (s_ret (P := vI ((((x * 48271 + 11).fmod 2147483647).fdiv 7).fmod (m : Int))) (ev_mod (ev_int T.int (ev_div (at_ (upd_same : upd H4 rA (.lst [.ref sA, .int (i + 1), .int ((x * 48271 + 11).fmod 2147483647), .int y]) rA = some (.lst [.ref sA, .int (i + 1), .int ((x * 48271 + 11).fmod 2147483647), .int y])) (ev_v 0 (P := vE (.ref rA)) rfl) ev_i rfl (fun _ _ => rfl)) ev_i ⟨by decide, by decide⟩)) (ev_v 1 (P := vI (m : Int)) rfl) hmz.1) fun v H5 e5 ev => ?_)
      rw [show v = _ from ev, ht]
      exact k t H5 htm (sb2.trans ((sb_of (e3.trans e4)).trans ((sameB_upd (by simp)).trans (sb_of e5)))) (h4.mono e5)
    · have hk : ¬ (ns.length : Int) < i + 1 := of_decide_eq_false hk
      obtain ⟨p, hp⟩ : ∃ p : Nat, i + 1 - 1 = (p : Int) := ⟨i.toNat, by omega⟩
      have hp2 : p < ns.length := by omega
      have hr3 := e3 _ _ hr2
      have h3 := h2.mono e3
      have hcell : atI (ns.map V.int) (i + 1 - 1) = some (.int (ns.getD p 0)) := by
        rw [hp]; exact atI_nat (by rw [List.getElem?_map, getD_of (d := 0) hp2]; rfl)
      refine ss_cons (s_set (i := 3) (P := vI (ns.getD p 0)) (ev_ixL (xs := ns.map V.int) ((at_ hr3 (ev_v 0 (P := vE (.ref rA)) rfl) ev_i rfl (fun _ _ => rfl)).imp (P1 := vL K (ns.map V.int)) fun v H' e ev => ⟨sA, ev, e.seq h3.sq⟩) (ev_sub (at_ hr3 (ev_v 0 (P := vE (.ref rA)) rfl) ev_i rfl (fun _ _ => rfl)) ev_i) hcell) fun v H4 e4 ev => ?_)
      cases ev
      generalize ns.getD p 0 = cell at *
      have hr4 := e4 _ _ hr3
      obtain ⟨x', hx', hxm⟩ := fmod_in (x * 48271 + cell + 11) (by decide : 0 < 2147483647)
      have hx'' : (x * 48271 + cell + 11).fmod 2147483647 = (x' : Int) := hx'
      refine ss_cons (s_setL (j := 2) (P := vI ((x * 48271 + cell + 11).fmod 2147483647)) (ev_mod (ev_int T.int (ev_add (ev_add (ev_mul (at_ hr4 (ev_v 0 (P := vE (.ref rA)) rfl) ev_i rfl (fun _ _ => rfl)) ev_i mw) (ev_v 3 (P := vI cell) rfl)) ev_i)) ev_i mx) (ev_v 0 (P := vE (.ref rA)) rfl) ev_i hr4 (by simp) fun v H5 e5 ⟨H5', e5a, e5b, ev⟩ => ?_)
      cases ev
      have h5 : RK K sA ns rA (upd H5 rA (.lst [.ref sA, .int (i + 1), .int ((x * 48271 + cell + 11).fmod 2147483647), .int y])) := (h3.mono (e4.trans e5)).put (by omega) (by omega) (by omega)
      have sb5 : SameB [rA] H (upd H5 rA (.lst [.ref sA, .int (i + 1), .int ((x * 48271 + cell + 11).fmod 2147483647), .int y])) := sb2.trans ((sb_of ((e3.trans e4).trans e5)).trans (sameB_upd (by simp)))
      have hr5 : upd H5 rA (.lst [.ref sA, .int (i + 1), .int ((x * 48271 + cell + 11).fmod 2147483647), .int y]) rA = some (.lst [.ref sA, .int (i + 1), .int ((x * 48271 + cell + 11).fmod 2147483647), .int y]) := upd_same
      show WSs _ _ _ _ (upd H5 rA (.lst [.ref sA, .int (i + 1), .int ((x * 48271 + cell + 11).fmod 2147483647), .int y]))
      generalize upd H5 rA (.lst [.ref sA, .int (i + 1), .int ((x * 48271 + cell + 11).fmod 2147483647), .int y]) = Hb at *
      refine ss_mid (fun σ' H' => σ' = [some (.ref rA), some (.int (m : Int)), none, some (.int cell)] ∧ SameB [rA] H H' ∧ RK K sA ns rA H')
        (s_if (k := decide ((10 : Int) ^ (18 : Int).toNat ≤ cell)) (et_ge (ev_v 3 (P := vI cell) rfl) (ev_pow ev_i ev_i ⟨by decide, by decide, by decide⟩)) (fun hk H6 e6 => ?_) (fun hk H6 e6 => ss_nil ⟨rfl, sb5.trans (sb_of e6), h5.mono e6⟩)) ?_
      · refine ss_one (s_setL (j := 3) (P := vI (cell.fdiv (m : Int))) (ev_div (ev_v 3 (P := vI cell) rfl) (ev_v 1 (P := vI (m : Int)) rfl) hmz) (ev_v 0 (P := vE (.ref rA)) rfl) ev_i (e6 _ _ hr5) (by simp) fun v H7 e7 ⟨H7', e7a, e7b, ev⟩ => ?_)
        cases ev
        exact ⟨rfl, sb5.trans ((sb_of (e6.trans e7)).trans (sameB_upd (by simp))), (h5.mono (e6.trans e7)).put (by omega) (by omega) (by omega)⟩
      rintro σ' H6 ⟨rfl, sb6, h6⟩
      obtain ⟨t, ht, htm⟩ := fmod_in cell hm
      refine ss_one (s_ret (P := vI (cell.fmod (m : Int))) (ev_mod (ev_int T.int (ev_v 3 (P := vI cell) rfl)) (ev_v 1 (P := vI (m : Int)) rfl) hmz.1) fun v H7 e7 ev => ?_)
      rw [show v = _ from ev, ht]
      exact k t H7 htm (sb6.trans (sb_of e7)) (h6.mono e7)
end
end Dw
set_option Elab.async false
set_option linter.all false
set_option maxRecDepth 100000
set_option maxHeartbeats 4000000
set_option pp.maxSteps 300
/-! readings that draw -/
namespace Dw
open PySem PySem.Spec PyProof.Rows L2 RZ
structure RW (K : PySem.W.Frag) (sA : Addr) (ns : List Int) (rA : Addr) (H H' : Hp) : Prop where
  k0 : RK K sA ns rA H
  keep : SameB [rA] H H'
  k1 : RK K sA ns rA H'
section
variable {K : PySem.W.Frag} {sA rA : Addr} {ns : List Int} {H H' H'' : Hp}
theorem RW.refl (h : RK K sA ns rA H) : RW K sA ns rA H H := ⟨h, SameB.refl _ _, h⟩
theorem RW.trans (a : RW K sA ns rA H H') (b : RW K sA ns rA H' H'') : RW K sA ns rA H H'' := ⟨a.k0, a.keep.trans b.keep, b.k1⟩
theorem RW.of (h : RK K sA ns rA H) (e : Same H H') : RW K sA ns rA H H' := ⟨h, sb_of e, h.mono e⟩
theorem RW.ext (a : RW K sA ns rA H H') (e : Same H' H'') : RW K sA ns rA H H'' := a.trans (RW.of a.k1 e)
theorem RW.new (a : RW K sA ns rA H H') {p : Addr} (h : H' p = none) : H p = none := by
  cases q : H p with
  | none => rfl
  | some o =>
    by_cases c : p = rA
    · obtain ⟨_, _, _, e, _⟩ := a.k1.at_
      rw [c, e] at h; cases h
    · rw [a.keep p o (by simpa using c) q] at h; cases h
end
/-- what stands when the row changes -/
class Stw (P : V → Hp → Prop) : Prop where
  mono : ∀ {K : PySem.W.Frag} {sA rA : Addr} {ns : List Int} {v : V} {H H' : Hp}, RW K sA ns rA H H' → P v H → P v H'
instance {x : V} : Stw (vE x) := ⟨fun _ h => h⟩
instance {p : V → Prop} : Stw (vP p) := ⟨fun _ h => h⟩
instance {K : PySem.W.Frag} {xs : List V} : Stw (vT K xs) := ⟨fun e ⟨p, h, q⟩ => ⟨p, h, sbT e.keep e.k0.ls q⟩⟩
instance {K : PySem.W.Frag} {q : Rat} : Stw (vQ K q) := ⟨fun e h => Stw.mono (P := vT K _) e h⟩
instance {α : Type} {K : PySem.W.Frag} {R : α → V → Hp → Prop} {xs : List α} [∀ x, Stw (R x)] : Stw (vTl K R xs) := ⟨fun e ⟨p, vs, h1, h2, h3, h4⟩ => ⟨p, vs, h1, sbT e.keep e.k0.ls h2, h3, fun i x hx => let ⟨u, q1, q2⟩ := h4 i x hx; ⟨u, q1, Stw.mono e q2⟩⟩⟩
instance {K : PySem.W.Frag} {l : Lw} : Stw (vDam K l) := ⟨fun e ⟨p, ip, h1, h2, h3⟩ => ⟨p, ip, h1, sbT e.keep e.k0.ls h2, sbT e.keep e.k0.ls h3⟩⟩
/-- an expression that may draw -/
def EX (sA : Addr) (ns : List Int) (rA : Addr) (X : Cx) (e : Expr) (σ : L2.St) (H : Hp) (P : V → Hp → Prop) : Prop := ∀ H1, RW X.K sA ns rA H H1 → ∀ Q : VK, (∀ v H2, RW X.K sA ns rA H1 H2 → P v H2 → Q v H2) → WE X e σ H1 Q
def EAX (sA : Addr) (ns : List Int) (rA : Addr) (X : Cx) (es : List Expr) (σ : L2.St) (H : Hp) (R : List V → Hp → Prop) : Prop := ∀ H1, RW X.K sA ns rA H H1 → ∀ Q : List V → Hp → Prop, (∀ v H2, RW X.K sA ns rA H1 H2 → R v H2 → Q v H2) → WA X es σ H1 Q
section
variable {sA rA : Addr} {ns : List Int} {X : Cx} {e a b : Expr} {es : List Expr} {σ : L2.St} {H : Hp} {pos p : Pos} {P P1 P2 : V → Hp → Prop} {R : List V → Hp → Prop}
theorem ex_of (h : ∀ H1, RW X.K sA ns rA H H1 → EV X e σ H1 P) : EX sA ns rA X e σ H P := fun H1 e1 Q q => (h H1 e1).go fun v H2 e2 pv => q v H2 (RW.of e1.k1 e2) pv
theorem EX.mono {H' : Hp} (h : EX sA ns rA X e σ H P) (s : RW X.K sA ns rA H H') : EX sA ns rA X e σ H' P := fun H1 e1 => h H1 (s.trans e1)
theorem EX.imp (h : EX sA ns rA X e σ H P) (f : ∀ v H', RW X.K sA ns rA H H' → P v H' → P1 v H') : EX sA ns rA X e σ H P1 := fun H1 e1 Q q => h H1 e1 Q fun v H2 e2 pv => q v H2 e2 (f v H2 (e1.trans e2) pv)
theorem EX.go (h : EX sA ns rA X e σ H P) (k : RK X.K sA ns rA H) {Q : VK} (q : ∀ v H2, RW X.K sA ns rA H H2 → P v H2 → Q v H2) : WE X e σ H Q := h H (RW.refl k) Q q
theorem EX.run (h : EX sA ns rA X e σ H P) (k : RK X.K sA ns rA H) {Q : VK} (q : ∀ v H2, RW X.K sA ns rA H H2 → P v H2 → Q v H2) : WE X e σ H Q := h.go k q
theorem eax_nil : EAX sA ns rA X [] σ H (fun vs _ => vs = []) := fun H1 e1 Q q => wa_of pa_nil (q [] H1 (RW.refl e1.k1) rfl)
theorem eax_cons [Stw P] (ha : EX sA ns rA X a σ H P) (hr : EAX sA ns rA X es σ H R) (hs : starEach (a :: es) X.env = (false, eval a X.env) :: starEach es X.env := by rfl) : EAX sA ns rA X (a :: es) σ H (fun vs H => ∃ v r, vs = v :: r ∧ P v H ∧ R r H) :=
  fun H1 e1 Q q => wa_of (pa_cons we_self wa_self hs) (ha H1 e1 _ fun v H2 e2 pv => hr H2 (e1.trans e2) _ fun r H3 e3 p2 => q _ H3 (e2.trans e3) ⟨v, r, rfl, Stw.mono e3 pv, p2⟩)
theorem ex_lst {n : Nat} (h : EAX sA ns rA X es σ H R) (hn : ∀ vs H, R vs H → vs.length ≤ n) (hz : n ≤ 1000 := by decide) : EX sA ns rA X (.List es pos) σ H (fun v H' => ∃ q vs H1, v = .ref q ∧ H q = none ∧ H' q = some (.lst vs) ∧ Same H1 H' ∧ R vs H1) := fun H1 e1 Q k =>
  we_of (pe_lst wa_self) (h H1 e1 _ fun vs H2 e2 r => ⟨Nat.le_trans (Nat.le_trans (hn vs H2 r) hz) (by decide), fun q hq => k _ _ (e2.ext (same_new hq)) ⟨q, vs, H2, rfl, (e1.trans e2).new hq, upd_same, same_new hq, r⟩⟩)
theorem ex_tup {n x1 : Nat} (h : EAX sA ns rA X es σ H R) (hn : ∀ vs H, R vs H → vs.length ≤ n) (hz : n ≤ 1000 := by decide) : EX sA ns rA X (.Tuple es x1 pos) σ H (fun v H' => ∃ q vs H1, v = .ref q ∧ H' q = some (.tup vs) ∧ Same H1 H' ∧ R vs H1) := fun H1 e1 Q k =>
  we_of (pe_tup wa_self) (h H1 e1 _ fun vs H2 e2 r => ⟨Nat.le_trans (Nat.le_trans (hn vs H2 r) hz) (by decide), fun q hq => k _ _ (e2.ext (same_new hq)) ⟨q, vs, H2, rfl, upd_same, same_new hq, r⟩⟩)
end
/-- a whole number below m -/
def vN (lo m : Nat) : V → Hp → Prop := vP fun v => ∃ t : Nat, v = .int (t : Int) ∧ lo ≤ t ∧ t < m
instance {lo m : Nat} : Stw (vN lo m) := inferInstanceAs (Stw (vP _))
instance {lo m : Nat} : Stb (vN lo m) := inferInstanceAs (Stb (vP _))
abbrev HasT (P : Program) (w : World) (K : PySem.W.Frag) (mg : Str → Option Value) (base : Heap) : Prop := Has P w K mg base CX0 "_law_taken" 1 ["_law_row", "_law_many"] (spTaken K)
section
variable {sA rA : Addr} {ns : List Int} {X : Cx} {e a b : Expr} {es : List Expr} {σ : L2.St} {H : Hp} {pos p : Pos} {P P1 P2 : V → Hp → Prop}
/-- _law_taken(_law_row, e) -/
theorem ex_taken {m : Nat} (hT : HasT X.prog X.w X.K X.mg X.base) (hr : Room 1 X.A) (ha : ∀ H1, RW X.K sA ns rA H H1 → EV X a σ H1 (vE (.ref rA))) (hb : ∀ H1, RW X.K sA ns rA H H1 → EV X b σ H1 (vI (m : Int))) (h0 : 0 < m) (h1 : m ≤ 1000)
    (hg : Gl X "_law_taken" := by rfl) (hs : starEach [a, b] X.env = (false, eval a X.env) :: starEach [b] X.env := by rfl) (hs2 : starEach [b] X.env = (false, eval b X.env) :: starEach [] X.env := by rfl) (hpl : (backTo pos (starEach [b] X.env)).any (·.1) = false := by rfl) :
    EX sA ns rA X (.Call (.Name "_law_taken" p) [a, b] [] pos) σ H (vN 0 m) := fun H1 e1 Q q =>
  we_call hT hr (ea_two (ha H1 e1) (hb H1 e1) hs hs2) (fun vs H2 e2 ⟨v, w', ev, h3, h4⟩ => ⟨rA, sA, ns, m, by rw [ev, h3, h4], e1.k1.mono e2, h0, h1, fun t H3 ht sb hk => q _ H3 ((RW.of e1.k1 e2).trans ⟨e1.k1.mono e2, sb, hk⟩) ⟨t, rfl, Nat.zero_le _, ht⟩⟩) hg (by decide) hs hpl
/-- 1 + e -/
theorem ex_one {m : Nat} {j : Nat} {p1 : Pos} (h : EX sA ns rA X a σ H (vN 0 m)) : EX sA ns rA X (.BinOp (.Constant (.int 1) j p1) .Add a pos) σ H (vN 1 (m + 1)) := fun H1 e1 Q q =>
  we_of (pe_op op_add (PE.mk fun pins s σ H Q I h => (pe_int.run pins s σ H Q I h)) we_self) (h H1 e1 _ fun v H2 e2 ⟨t, ev, h1, h2⟩ => ⟨1, (t : Int), rfl, ev, q _ H2 e2 ⟨t + 1, by show V.int (1 + (t : Int)) = V.int ((t + 1 : Nat) : Int); congr 1; omega, by omega, by omega⟩⟩)
end
section
variable {P : Program} {w : World} {K : PySem.W.Frag} {mg : Str → Option Value} {base : Heap}
/-! ### _law_pick -/
def spPick (K : PySem.W.Frag) : Sp := fun vs H Q _ => ∃ (rA sA tA : Addr) (ns : List Int) (xs : List V), vs = [.ref rA, .ref tA] ∧ RK K sA ns rA H ∧ H tA = some (.lst xs) ∧ tA ≠ rA ∧ 0 < xs.length ∧ xs.length ≤ 10 ∧ ∀ v H', v ∈ xs → RW K sA ns rA H H' → Q v H'
abbrev sPk : Stmt := top 50
theorem scPk : FnScope ["_law_row", "_law_things"] ["_law_row", "_law_things"] (defScope sPk) := ⟨rfl, rfl, rfl, by decide +kernel, rfl, by decide +kernel, by decide +kernel⟩
theorem ok_pick {f : Addr} {fd : FuncData} (F : Fun K "_law_pick" "_law_pick" sPk f fd) (T : TxL mg) (hT : HasT P w K mg base) : FnOk P w K mg base CX0 2 f fd ["_law_row", "_law_things"] (spPick K) := by
  refine F.ok scPk (fun vs H Q E h => ?_) (fun cdv A0 outer s H vs Q E hr h => ⟨_, wss_self, ?_⟩)
  · obtain ⟨rA, sA, tA, ns, xs, rfl, _⟩ := h; rfl
  obtain ⟨rA, sA, tA, ns, xs, rfl, hR, ht, hne, h1, h10, k⟩ := h
  have htw : ∀ {H1 : Hp}, RW K sA ns rA H H1 → H1 tA = some (.lst xs) := fun e => e.keep tA _ (by simpa using hne) ht
  refine ss_one (ws_of (ps_ret we_self) (we_of (pe_ix ix_list we_self we_self (fun _ _ => rfl)) ?_))
  refine (ev_v 1 (P := vE (.ref tA)) rfl).go fun v1 H1 e1 ev1 => ?_
  refine EX.run (sA := sA) (ns := ns) (rA := rA) (ex_taken (m := xs.length) hT hr (fun H2 e2 => ev_v 0 (P := vE (.ref rA)) rfl) (fun H2 e2 => ev_lenL T.len (ev_v 1 (P := vL K xs) ⟨tA, rfl, SqL.of (htw ((RW.of hR e1).trans e2))⟩)) h1 (by omega)) (hR.mono e1) fun v2 H2 e2 ⟨t, ev2, _, htl⟩ => ?_
  have e02 := (RW.of hR e1).trans e2
  have hx := getD_of (d := V.non) htl
  exact ⟨tA, xs, t, _, ev1, ev2, SqL.of (htw e02), atI_nat hx, k _ H2 (List.mem_of_getElem? hx) e02⟩
end
abbrev HasPk (P : Program) (w : World) (K : PySem.W.Frag) (mg : Str → Option Value) (base : Heap) : Prop := Has P w K mg base CX0 "_law_pick" 2 ["_law_row", "_law_things"] (spPick K)
section
variable {sA rA : Addr} {ns : List Int} {X : Cx} {e a b : Expr} {es : List Expr} {σ : L2.St} {H : Hp} {pos p p2 : Pos} {P : V → Hp → Prop} {R : List V → Hp → Prop}
/-- _law_pick(_law_row, [..]) -/
theorem ex_pick {n : Nat} [Stb P] [Stw P] (hT : HasPk X.prog X.w X.K X.mg X.base) (hr : Room 2 X.A) (ha : ∀ H1, RW X.K sA ns rA H H1 → EV X a σ H1 (vE (.ref rA))) (hb : EAX sA ns rA X es σ H R) (hn : ∀ vs H, R vs H → vs.length = n ∧ ∀ v ∈ vs, P v H) (h0 : 0 < n) (h1 : n ≤ 10)
    (hg : Gl X "_law_pick" := by rfl) (hs : starEach [a, .List es p2] X.env = (false, eval a X.env) :: starEach [.List es p2] X.env := by rfl) (hs2 : starEach [.List es p2] X.env = (false, eval (.List es p2) X.env) :: starEach [] X.env := by rfl) (hpl : (backTo pos (starEach [.List es p2] X.env)).any (·.1) = false := by rfl) :
    EX sA ns rA X (.Call (.Name "_law_pick" p) [a, .List es p2] [] pos) σ H P := by
  intro H1 e1 Q q
  obtain ⟨f, fd, G, hm, hk, hbn⟩ := hT.ex
  refine we_of (pe_call G hr hg hm hk hbn .nil pass0 (pa_cons we_self (pa_cons we_self pa_nil hs2) hs) (by decide) hs hpl) ?_
  refine (ha H1 e1).go fun v1 H2 e2 ev1 => ?_
  have e02 := e1.ext e2
  refine ex_lst (n := 10) hb (fun vs H h => by rw [(hn vs H h).1]; exact h1) (by decide) H2 e02 _ fun v2 H3 e3 ⟨tA, xs, H4, ev2, ht0, ht, e4, hR⟩ => ?_
  obtain ⟨hl, hP⟩ := hn xs H4 hR
  have e03 := e02.trans e3
  refine ⟨rA, sA, tA, ns, xs, by rw [ev1, ev2]; rfl, e03.k1, ht, fun z => ?_, by omega, by omega, fun v H5 hv e5 => q v H5 ((RW.of e1.k1 e2).trans (e3.trans e5)) (Stw.mono e5 (Stb.mono e4 (hP v hv)))⟩
  obtain ⟨_, _, _, hh, _⟩ := e1.k0.at_
  rw [z, hh] at ht0; cases ht0
end
end Dw
set_option Elab.async false
set_option linter.all false
set_option maxRecDepth 100000
set_option maxHeartbeats 4000000
set_option pp.maxSteps 300
/-! _law_leak_worths: the case that is drawn -/
namespace Dw
open PySem PySem.Spec PyProof.Rows L2 RZ
section
variable {sA rA : Addr} {ns : List Int} {X : Cx} {e a b c d o : Expr} {es : List Expr} {σ : L2.St} {H H1 : Hp} {pos p p2 spos : Pos} {P P1 P2 : V → Hp → Prop} {R : List V → Hp → Prop} {D : Ends}
theorem EX.at (h : EX sA ns rA X e σ H P) (s : RW X.K sA ns rA H H1) {Q : VK} (q : ∀ v H2, RW X.K sA ns rA H1 H2 → P v H2 → Q v H2) : WE X e σ H1 Q := h H1 s Q q
theorem eax3 [Stw P] (ha : EX sA ns rA X a σ H P) (hb : EX sA ns rA X b σ H P) (hc : EX sA ns rA X c σ H P) (h1 : starEach [a, b, c] X.env = (false, eval a X.env) :: starEach [b, c] X.env := by rfl) (h2 : starEach [b, c] X.env = (false, eval b X.env) :: starEach [c] X.env := by rfl) (h3 : starEach [c] X.env = (false, eval c X.env) :: starEach [] X.env := by rfl) : EAX sA ns rA X [a, b, c] σ H (fun vs H => vs.length = 3 ∧ ∀ v ∈ vs, P v H) := fun H1 e1 Q q =>
  eax_cons ha (eax_cons hb (eax_cons hc eax_nil h3) h2) h1 H1 e1 Q fun vs H2 e2 ⟨v1, r1, ev1, g1, v2, r2, ev2, g2, v3, r3, ev3, g3, ev4⟩ => q vs H2 e2 ⟨by rw [ev1, ev2, ev3, ev4]; rfl, fun v hv => by
    rw [ev1, ev2, ev3, ev4] at hv
    simp only [List.mem_cons, List.not_mem_nil, or_false] at hv
    rcases hv with rfl | rfl | rfl
    · exact g1
    · exact g2
    · exact g3⟩
theorem eax4 [Stw P] (ha : EX sA ns rA X a σ H P) (hb : EX sA ns rA X b σ H P) (hc : EX sA ns rA X c σ H P) (hd : EX sA ns rA X d σ H P) (h1 : starEach [a, b, c, d] X.env = (false, eval a X.env) :: starEach [b, c, d] X.env := by rfl) (h2 : starEach [b, c, d] X.env = (false, eval b X.env) :: starEach [c, d] X.env := by rfl) (h3 : starEach [c, d] X.env = (false, eval c X.env) :: starEach [d] X.env := by rfl) (h4 : starEach [d] X.env = (false, eval d X.env) :: starEach [] X.env := by rfl) : EAX sA ns rA X [a, b, c, d] σ H (fun vs H => vs.length = 4 ∧ ∀ v ∈ vs, P v H) := fun H1 e1 Q q =>
  eax_cons ha (eax_cons hb (eax_cons hc (eax_cons hd eax_nil h4) h3) h2) h1 H1 e1 Q fun vs H2 e2 ⟨v1, r1, ev1, g1, v2, r2, ev2, g2, v3, r3, ev3, g3, v4, r4, ev4, g4, ev5⟩ => q vs H2 e2 ⟨by rw [ev1, ev2, ev3, ev4, ev5]; rfl, fun v hv => by
    rw [ev1, ev2, ev3, ev4, ev5] at hv
    simp only [List.mem_cons, List.not_mem_nil, or_false] at hv
    rcases hv with rfl | rfl | rfl | rfl
    · exact g1
    · exact g2
    · exact g3
    · exact g4⟩
/-- x, y = a, b where drawing goes on -/
theorem s_parX {i j : Nat} {x y : Str} {px py pt : Pos} {kt k2 pt2} (h : EAX sA ns rA X [a, b] σ H R) (k : RK X.K sA ns rA H) (hq : ∀ vs H', RW X.K sA ns rA H H' → R vs H' → ∃ v w, vs = [v, w] ∧ D.nx ((σ.set i (some v)).set j (some w)) H') (hN : X.N.Nodup) (hi : X.N[i]? = some x := by rfl) (hj : X.N[j]? = some y := by rfl) (hij : i ≠ j := by decide)
    (hx : X.env.scope.names.lookup x = some .local := by rfl) (hy : X.env.scope.names.lookup y = some .local := by rfl) (hw : swappedStores [.Tuple [.Name x px, .Name y py] kt pt] (.Tuple [a, b] k2 pt2) X.env = pure (some [x, y]) := by rfl)
    (hs : swapsWithSole [.Tuple [.Name x px, .Name y py] kt pt] (.Tuple [a, b] k2 pt2) pos.line X.env = pure false := by rfl) (hc : X.calm = true := by rfl) :
    WS X (.Assign [.Tuple [.Name x px, .Name y py] kt pt] (.Tuple [a, b] k2 pt2) pos) D σ H := by
  refine ws_of (ps_par hc hN hi hj hij hx hy wa_self hw hs) ?_
  exact h H (RW.refl k) _ fun vs H' e r => hq vs H' e r
/-- l.append(e) where e draws -/
theorem s_appX {l : Addr} {xs : List V} {apos cpos : Pos} (k : RK X.K sA ns rA H) (ho : EV X o σ H (vE (.ref l))) (hl : H l = some (.lst xs)) (hne : l ≠ rA) (hz : xs.length < 100000) (he : EX sA ns rA X e σ H P) (h : ∀ v H', RW X.K sA ns rA H H' → P v H' → D.nx σ (upd H' l (.lst (xs ++ [v]))))
    (hs' : swapsWith (.Call (.Attribute o "append" apos) [e] [] cpos) none pos.line X.env = pure false := by rfl)
    (hbase : attributeBase o "append" X.env (eval o X.env) = eval o X.env := by rfl)
    (hfew : ((backTo cpos (starEach [e] X.env)).all (fun x => !x.1) && (backToKw cpos (keywordEach [] X.env)).all (fun x => x.1.isSome)
      && decide ([e].length + ([] : List Keyword).length + (if ([] : List Keyword).isEmpty then 0 else 1) < 30)) = true := by rfl)
    (hline : (apos.endLine == cpos.line) = true := by rfl) (hs : starEach [e] X.env = (false, eval e X.env) :: starEach [] X.env := by rfl) (hplain : (backTo cpos (starEach [] X.env)).any (·.1) = false := by rfl) :
    WS X (.Expr (.Call (.Attribute o "append" apos) [e] [] cpos) pos) D σ H := by
  refine ws_of (ps_expr (pe_bm PySem.F.plainAttrs_list PySem.F.slot_list_append PySem.F.type_list_append mt_append we_self (pa_cons we_self pa_nil hs) hbase hfew hline hs hplain) hs') ?_
  refine ho.go fun x H1 e1 ex => ?_
  cases ex
  refine ⟨.inl ⟨rfl, _, SqL.of (e1 _ _ hl)⟩, ?_⟩
  refine he H1 (RW.of k e1) _ fun v H2 e2 p => ?_
  exact ⟨l, xs, v, rfl, rfl, e2.keep l _ (by simpa using hne) (e1 _ _ hl), Nat.lt_of_lt_of_le hz (by decide), h v H2 ((RW.of k e1).trans e2) p⟩
/-- a comprehension whose items draw -/
theorem ex_lc {tg iter elt : Expr} {g : TG} {scope : Scope} {own : List (Str × Nat)} {Y : Nat → Hp → V → Hp → Prop} (pn : Nat → Prop) (Rr : Nat → V → Hp → Prop) [∀ j, Stb (Rr j)] [∀ j, Stw (Rr j)] [∀ j, Frm (Rr j)] (hN : X.N.Nodup) (ok : BlkOk X.N X.env.scope scope own) (hg : ∀ s H C cl fp, PG (CB X scope s H C cl fp) tg g)
    (hI : ∃ wi, PI X tg iter wi ∧ ∀ H1, RW X.K sA ns rA H H1 → ∀ R : It → Hp → Prop, (∀ n J G H2, pn n → RW X.K sA ns rA H1 H2 → Walk J n G Y → (∀ H3, RW X.K sA ns rA H2 H3 → G H3) → R J H2) → wi σ H1 R)
    (hz : ∀ n, pn n → n ≤ 1000)
    (hel : ∀ j x H3 H4, RW X.K sA ns rA H H3 → Y j H3 x H4 → ∃ σ2, GT g x (wipe σ (own.map (·.2))) H4 σ2 ∧ Same H3 H4 ∧ wipe σ2 (own.map (·.2)) = wipe σ (own.map (·.2)) ∧ ∀ s H C cl fp, EX sA ns rA (CB X scope s H C cl fp) elt σ2 H4 (Rr j))
    (hc : X.calm = true := by rfl) (hs : ∀ x, foldedSetIterable iter X.env x = pure x := by intro _; rfl) :
    EX sA ns rA X (.ListComp elt [⟨tg, iter, [], 0⟩] scope pos) σ H (fun v H' => ∃ q ys, v = .ref q ∧ H q = none ∧ H' q = some (.lst ys) ∧ pn ys.length ∧ ∀ (j : Nat) y, ys[j]? = some y → Rr j y H') := by
  obtain ⟨wi, pI, f⟩ := hI
  intro H1 e1 Q q
  refine we_of (pe_lcW hN pI ok hg hc hs) (f H1 e1 _ fun n J G H2 hn e2 wk hG Dd hD => ?_)
  have hDr : Dd ≠ rA := fun z => by
    obtain ⟨_, _, _, hh, _⟩ := e2.k1.at_
    rw [← z, hD] at hh; cases hh
  have grow : ∀ {H' : Hp} {zs : List V}, RW X.K sA ns rA H2 H' → RW X.K sA ns rA H2 (upd H' Dd (.lst zs)) := fun {H' zs} r => by
    have sb : SameB [rA] H2 (upd H' Dd (.lst zs)) := fun b o nb h => by
      rw [upd_ne (ne_of_none h hD)]; exact r.keep b o nb h
    obtain ⟨i0, x0, y0, g0, _⟩ := e2.k1.at_
    obtain ⟨i, x, y, g1, g2⟩ := r.k1.at_
    exact ⟨r.k0, sb, ⟨i, x, y, by rw [upd_ne (Ne.symm hDr)]; exact g1, g2⟩, rk_sq g0 e2.k1.sq sb⟩
  have w0 : RW X.K sA ns rA H2 (upd H2 Dd (.lst [])) := RW.of e2.k1 (same_new hD)
  refine lc_it (g := g) (tt := tYes) (te := fun σ H' Q => ∀ s H C cl fp, WE (CB X scope s H C cl fp) elt σ H' Q) (vs := own.map (·.2)) (σ := σ) (Qd := fun H => Q (.ref Dd) H) wk (fun i H' => RW X.K sA ns rA H2 H' ∧ ∃ acc, H' Dd = some (.lst acc) ∧ acc.length = i ∧ ∀ (j : Nat) y, acc[j]? = some y → Rr j y H') ⟨w0, [], upd_same, rfl, fun j y hj => by simp at hj⟩ (fun i H' hi p => hG H' p.1) (fun i x H3 H4 hi p y => ?_) fun H' p => ?_
  · obtain ⟨p1, acc, p3, p4, p5⟩ := p
    obtain ⟨σ2, gt, s4, hw, he⟩ := hel i x H3 H4 ((e1.trans e2).trans p1) y
    refine gt _ ⟨hw, ?_⟩
    show ∀ s H C cl fp, WE (CB X scope s H C cl fp) elt σ2 H4 _
    intro s5 H5 C cl fp
    have k4 := p1.k1.mono s4
    refine EX.run (X := CB X scope s5 H5 C cl fp) (he s5 H5 C cl fp) k4 fun v H6 e6 r => ?_
    have e36 : RW X.K sA ns rA H3 H6 := (RW.of p1.k1 s4).trans e6
    have hD6 : H6 Dd = some (.lst acc) := e36.keep Dd _ (by simpa using hDr) p3
    have hn1 := hz n hn
    refine ⟨acc, hD6, Nat.lt_of_lt_of_le (by omega : acc.length < 100001) (by decide), grow (p1.trans e36), acc ++ [v], upd_same, by simp [p4], fun j y' hj => ?_⟩
    by_cases hji : j < i
    · rw [List.getElem?_append_left (by omega)] at hj
      exact Frm.frm hD6 (Stw.mono e36 (p5 j y' hj))
    · by_cases hje : j = i
      · subst hje
        rw [List.getElem?_append_right (by omega), p4, Nat.sub_self] at hj
        cases hj
        exact Frm.frm hD6 r
      · rw [List.getElem?_append_right (by omega), List.getElem?_eq_none (by simp; omega)] at hj
        cases hj
  · obtain ⟨p1, acc, p3, p4, p5⟩ := p
    exact q _ H' (e2.trans p1) ⟨Dd, acc, rfl, (e1.trans e2).new hD, p3, by rw [p4]; exact hn, p5⟩
end
section
variable {sA rA : Addr} {ns : List Int} {X : Cx} {e tg : Expr} {σ : L2.St} {H : Hp} {pos p : Pos}
theorem rx_R1 {n : Nat} (hm : X.mg "range" = none) (he : ∀ H1, RW X.K sA ns rA H H1 → EV X e σ H1 (vI (n : Int))) (hn : n < 100000) (hg : Gl X "range" := by rfl) (hs : starEach [e] X.env = (false, eval e X.env) :: starEach [] X.env := by rfl) :
    ∃ wi, PI X tg (.Call (.Name "range" p) [e] [] pos) wi ∧ ∀ H1, RW X.K sA ns rA H H1 → ∀ R : It → Hp → Prop, (∀ n' J G H2, n' = n → RW X.K sA ns rA H1 H2 → Walk J n' G (YFn fun i => .int (i : Int)) → (∀ H3, RW X.K sA ns rA H2 H3 → G H3) → R J H2) → wi σ H1 R := by
  refine ⟨_, pi_range1 hg hm (pa_cons we_self pa_nil hs) hs, fun H1 e1 R r => (he H1 e1).go fun v H2 e2 ev => ⟨(n : Int), by rw [ev], by omega, by omega, ?_⟩⟩
  have en : ((n : Nat) : Int).toNat = n := Int.toNat_natCast n
  rw [en]
  refine r n _ _ H2 rfl (RW.of e1.k1 e2) ((walk_range (lo := 0) (n := n)).mono (fun _ h => h) fun i H x H' _ _ y => ⟨y.1, ?_⟩) fun _ _ => trivial
  rw [y.2]; show V.int (0 + (i : Int)) = V.int (i : Int); rw [Int.zero_add]
theorem rx_RX {m : Nat} (hm : X.mg "range" = none) (he : EX sA ns rA X e σ H (vN 0 m)) (hn : m < 100000) (hg : Gl X "range" := by rfl) (hs : starEach [e] X.env = (false, eval e X.env) :: starEach [] X.env := by rfl) :
    ∃ wi, PI X tg (.Call (.Name "range" p) [e] [] pos) wi ∧ ∀ H1, RW X.K sA ns rA H H1 → ∀ R : It → Hp → Prop, (∀ n' J G H2, n' < m → RW X.K sA ns rA H1 H2 → Walk J n' G (YFn fun i => .int (i : Int)) → (∀ H3, RW X.K sA ns rA H2 H3 → G H3) → R J H2) → wi σ H1 R := by
  refine ⟨_, pi_range1 hg hm (pa_cons we_self pa_nil hs) hs, fun H1 e1 R r => he H1 e1 _ fun v H2 e2 ⟨t, ev, _, ht⟩ => ⟨(t : Int), by rw [ev], by omega, by omega, ?_⟩⟩
  have en : ((t : Nat) : Int).toNat = t := Int.toNat_natCast t
  rw [en]
  refine r t _ _ H2 ht e2 ((walk_range (lo := 0) (n := t)).mono (fun _ h => h) fun i H x H' _ _ y => ⟨y.1, ?_⟩) fun _ _ => trivial
  rw [y.2]; show V.int (0 + (i : Int)) = V.int (i : Int); rw [Int.zero_add]
theorem rx_L {a : Addr} {xs : List V} (he : ∀ H1, RW X.K sA ns rA H H1 → EV X e σ H1 (vE (.ref a))) (ha : H a = some (.lst xs)) (hne : a ≠ rA) :
    ∃ wi, PI X tg e wi ∧ ∀ H1, RW X.K sA ns rA H H1 → ∀ R : It → Hp → Prop, (∀ n' J G H2, n' = xs.length → RW X.K sA ns rA H1 H2 → Walk J n' G (YAt xs) → (∀ H3, RW X.K sA ns rA H2 H3 → G H3) → R J H2) → wi σ H1 R := by
  refine ⟨_, pi_list we_self, fun H1 e1 R r => (he H1 e1).go fun v H2 e2 ev => ?_⟩
  have h : ∀ {H3 : Hp}, RW X.K sA ns rA H H3 → SqL X.K H3 a xs := fun e => SqL.of (e.keep a _ (by simpa using hne) ha)
  have e02 := e1.ext e2
  exact ⟨a, ev, ⟨xs, h e02⟩, r _ _ _ H2 rfl (RW.of e1.k1 e2) walk_list fun H3 e3 => h (e02.trans e3)⟩
end
instance {p : V → Prop} : Frm (vP p) := ⟨fun _ h => h⟩
instance {lo m : Nat} : Frm (vN lo m) := inferInstanceAs (Frm (vP _))
/-- a list of numbers -/
theorem nums {lo m : Nat} {H : Hp} : ∀ {ys : List V}, (∀ (j : Nat) y, ys[j]? = some y → vN lo m y H) → ∃ ts : List Nat, ys = ts.map (fun n : Nat => V.int (n : Int)) ∧ ∀ t ∈ ts, lo ≤ t ∧ t < m
  | [], _ => ⟨[], rfl, fun t ht => by cases ht⟩
  | y :: ys, h => by
    obtain ⟨t, ht, h1, h2⟩ := h 0 y rfl
    obtain ⟨ts, e, hts⟩ := nums (ys := ys) fun j y' hj => h (j + 1) y' (by simpa using hj)
    exact ⟨t :: ts, by rw [ht, e]; rfl, fun t' ht' => by
      rcases List.mem_cons.mp ht' with z | z
      · rw [z]; exact ⟨h1, h2⟩
      · exact hts t' z⟩
/-- a tuple of n numbers from lo on, below m -/
def vNs (K : PySem.W.Frag) (n lo m : Nat) : V → Hp → Prop := fun v H => ∃ p, ∃ ts : List Nat, v = .ref p ∧ SqT K H p (ts.map fun n : Nat => V.int (n : Int)) ∧ ts.length = n ∧ ∀ t ∈ ts, lo ≤ t ∧ t < m
instance {K : PySem.W.Frag} {n lo m : Nat} : Stw (vNs K n lo m) := ⟨fun e ⟨p, ts, h1, h2, h3⟩ => ⟨p, ts, h1, sbT e.keep e.k0.ls h2, h3⟩⟩
/-- the loss -/
def LoOk (q : Rat) : Prop := 0 ≤ q ∧ q < 1 ∧ q.den ≤ 10
def vLo (K : PySem.W.Frag) : V → Hp → Prop := fun v H => ∃ q, vQ K q v H ∧ LoOk q
instance {K : PySem.W.Frag} : Stw (vLo K) := ⟨fun e ⟨q, h1, h2⟩ => ⟨q, Stw.mono e h1, h2⟩⟩
instance {K : PySem.W.Frag} : Stb (vLo K) := ⟨fun e ⟨q, h1, h2⟩ => ⟨q, Stb.mono e h1, h2⟩⟩
theorem lo_ten : ∀ t : Fin 9, LoOk (Rat.divInt (t.val : Int) 10) := by
  have : ∀ t : Fin 9, 0 ≤ Rat.divInt (t.val : Int) 10 ∧ Rat.divInt (t.val : Int) 10 < 1 ∧ (Rat.divInt (t.val : Int) 10).den ≤ 10 := by decide +kernel
  exact this
/-- what stands in a month's pieces -/
def PsOk (ps : List (Nat × Nat)) : Prop := ps.length ≤ 2 ∧ (∀ a ∈ ps, 1 ≤ a.1 ∧ a.1 ≤ 9 ∧ 1 ≤ a.2 ∧ a.2 ≤ 9) ∧ ps.Pairwise fun a b => b.2 < a.2
def vPk (K : PySem.W.Frag) : V → Hp → Prop := fun v H => ∃ ps, vPs K ps v H ∧ PsOk ps
instance {K : PySem.W.Frag} : Stw (vPk K) := ⟨fun e ⟨ps, h1, h2⟩ => ⟨ps, Stw.mono e h1, h2⟩⟩
instance {K : PySem.W.Frag} : Stb (vPk K) := ⟨fun e ⟨ps, h1, h2⟩ => ⟨ps, Stb.mono e h1, h2⟩⟩
theorem gather {K : PySem.W.Frag} {H : Hp} : ∀ {ys : List V}, (∀ y ∈ ys, vPk K y H) → ∃ w : List (List (Nat × Nat)), w.length = ys.length ∧ (∀ p ∈ w, PsOk p) ∧ ∀ (i : Nat) x, w[i]? = some x → ∃ u, ys[i]? = some u ∧ vPs K x u H
  | [], _ => ⟨[], rfl, (fun p hp => by cases hp), (fun i x hx => by simp at hx)⟩
  | y :: ys, h => by
    obtain ⟨ps, h1, h2⟩ := h y List.mem_cons_self
    obtain ⟨w, g1, g2, g3⟩ := gather (ys := ys) fun y' hy => h y' (List.mem_cons_of_mem _ hy)
    refine ⟨ps :: w, by rw [List.length_cons, List.length_cons, g1], fun p hp => ?_, fun i x hx => ?_⟩
    · rcases List.mem_cons.mp hp with z | z
      · rw [z]; exact h2
      · exact g2 p z
    · cases i with
      | zero => simp at hx; subst hx; exact ⟨y, rfl, h1⟩
      | succ i =>
        have hx : w[i]? = some x := by simpa using hx
        obtain ⟨u, q1, q2⟩ := g3 i x hx
        exact ⟨u, by simpa using q1, q2⟩
/-- an amount, and the price q -/
def vPj (K : PySem.W.Frag) (q : Nat) : V → Hp → Prop := fun v H => ∃ a : Nat, vPr K (a, q) v H ∧ 1 ≤ a ∧ a ≤ 9
instance {K : PySem.W.Frag} {q : Nat} : Stb (vPj K q) := ⟨fun e ⟨a, h1, h2⟩ => ⟨a, Stb.mono (P := vT K _) e h1, h2⟩⟩
instance {K : PySem.W.Frag} {q : Nat} : Stw (vPj K q) := ⟨fun e ⟨a, h1, h2⟩ => ⟨a, Stw.mono (P := vT K _) e h1, h2⟩⟩
instance {K : PySem.W.Frag} {q : Nat} : Frm (vPj K q) := ⟨fun e ⟨a, h1, h2⟩ => ⟨a, Frm.frm (P := vT K _) e h1, h2⟩⟩
theorem gather2 {K : PySem.W.Frag} {H : Hp} : ∀ {qs : List Nat} {ys : List V}, ys.length = qs.length → (∀ (j : Nat) y, ys[j]? = some y → vPj K (qs.getD j 0) y H) → ∃ ps : List (Nat × Nat), ps.length = ys.length ∧ ps.map (·.2) = qs ∧ (∀ p ∈ ps, 1 ≤ p.1 ∧ p.1 ≤ 9) ∧ ∀ (i : Nat) x, ps[i]? = some x → ∃ u, ys[i]? = some u ∧ vPr K x u H
  | [], [], _, _ => ⟨[], rfl, rfl, (fun p hp => by cases hp), (fun i x hx => by simp at hx)⟩
  | [], _ :: _, h, _ => by cases h
  | _ :: _, [], h, _ => by cases h
  | q :: qs, y :: ys, hl, h => by
    obtain ⟨a, h1, h2⟩ := h 0 y rfl
    obtain ⟨ps, g1, g2, g3, g4⟩ := gather2 (qs := qs) (ys := ys) (by simpa using hl) fun j y' hj => h (j + 1) y' (by simpa using hj)
    refine ⟨(a, q) :: ps, by rw [List.length_cons, List.length_cons, g1], by rw [List.map_cons, g2], fun p hp => ?_, fun i x hx => ?_⟩
    · rcases List.mem_cons.mp hp with z | z
      · rw [z]; exact h2
      · exact g3 p z
    · cases i with
      | zero => simp at hx; subst hx; exact ⟨y, rfl, h1⟩
      | succ i =>
        have hx : ps[i]? = some x := by simpa using hx
        obtain ⟨u, q1, q2⟩ := g4 i x hx
        exact ⟨u, by simpa using q1, q2⟩
theorem nats : ∀ {ns : List Int} {ts : List Nat}, (∀ k ∈ ns, k ∈ ts.map fun n : Nat => (n : Int)) → ∃ qs : List Nat, ns = qs.map (fun n : Nat => (n : Int)) ∧ ∀ q ∈ qs, q ∈ ts
  | [], _, _ => ⟨[], rfl, (fun q hq => by cases hq)⟩
  | k :: ns, ts, h => by
    obtain ⟨t, ht, e⟩ := List.mem_map.mp (h k List.mem_cons_self)
    obtain ⟨qs, e2, hq⟩ := nats (ns := ns) fun k' hk => h k' (List.mem_cons_of_mem _ hk)
    refine ⟨t :: qs, by rw [List.map_cons, ← e2, e], fun q hq' => ?_⟩
    rcases List.mem_cons.mp hq' with z | z
    · rw [z]; exact ht
    · exact hq q z
end Dw
set_option Elab.async false
set_option linter.all false
set_option maxRecDepth 100000
set_option maxHeartbeats 4000000
set_option pp.maxSteps 300
namespace Dw
open PySem PySem.Spec PyProof.Rows L2 RZ
section
variable {P : Program} {w : World} {K : PySem.W.Frag} {mg : Str → Option Value} {base : Heap}
def vCase (K : PySem.W.Frag) (l : Lw) : V → Hp → Prop := fun v H => ∃ p vd vl vw, v = .ref p ∧ SqT K H p [vd, vl, vw] ∧ vDam K l vd H ∧ vQ K l.loss vl H ∧ vWs K l.w vw H
def spCase (K : PySem.W.Frag) : Sp := fun vs H Q _ => ∃ (rA sA : Addr) (ns : List Int), vs = [.ref rA] ∧ RK K sA ns rA H ∧ ∀ (l : Lw) v H', l.Ok → RW K sA ns rA H H' → vCase K l v H' → Q v H'
abbrev sCs : Stmt := top 59
abbrev nCs : List Str := ["_law_row", "_law_many", "_law_capacity", "_law_dam", "_law_loss", "_law_worths", "_law_k", "_law_turn", "_law_prices", "_law_one"]
theorem scCs : FnScope nCs ["_law_row"] (defScope sCs) := ⟨rfl, rfl, rfl, by decide +kernel, rfl, by decide +kernel, by decide +kernel⟩
theorem ok_case {f : Addr} {fd : FuncData} (F : Fun K "_law_leak_worths" "_law_leak_worths" sCs f fd) (T : TxL mg) (hT : HasT P w K mg base) (hPk : HasPk P w K mg base) (hR : HasLr P w K mg base) : FnOk P w K mg base CX0 4 f fd ["_law_row"] (spCase K) := by
  refine F.ok scCs (fun vs H Q E h => ?_) (fun cdv A0 outer s H vs Q E hr h => ⟨_, wss_self, ?_⟩)
  · obtain ⟨rA, sA, ns, rfl, _⟩ := h; rfl
  obtain ⟨rA, sA, ns, rfl, hK, k⟩ := h
  have nd := scCs.nd
  have hr1 := hr.mono (show 1 ≤ 3 by decide)
  have hr2 := hr.mono (show 2 ≤ 3 by decide)
  -- _law_many
  refine ss_cons (s_setW (i := 1) (EX.run (sA := sA) (ns := ns) (rA := rA) (ex_one (ex_taken (m := 4) hT hr1 (fun H1 e1 => ev_v 0 (P := vE (.ref rA)) rfl) (fun H1 e1 => ev_i) (by decide) (by decide))) hK fun v H1 e1 ⟨many, ev, hm1, hm4⟩ => ?_))
  subst ev
  -- _law_capacity
  refine ss_cons (s_setW (i := 2) (EX.run (sA := sA) (ns := ns) (rA := rA) (ex_pick (P := vN 0 25) (n := 3) hPk hr2 (fun H1 e1 => ev_v 0 (P := vE (.ref rA)) rfl) (eax3 (P := vN 0 25) (ex_of fun H1 e1 => ev_i.imp fun v H' _ ev => ⟨0, ev, by decide, by decide⟩) (ex_of fun H1 e1 => ev_i.imp fun v H' _ ev => ⟨5, ev, by decide, by decide⟩) (ex_taken (m := 25) hT hr1 (fun H1 e1 => ev_v 0 (P := vE (.ref rA)) rfl) (fun H1 e1 => ev_i) (by decide) (by decide))) (fun vs H h => h) (by decide) (by decide)) e1.k1 fun v H2 e2 ⟨cap, ev, _, hcap⟩ => ?_))
  subst ev
  -- _law_dam
  have hcp1 : 0 < cap + 1 := by omega
  have ecap : ∀ {X : Cx} {σ : L2.St} {H : Hp} {a b : Expr} {pos : Pos}, EV X a σ H (vI (cap : Int)) → EV X b σ H (vI 1) → EV X (.BinOp a .Add b pos) σ H (vI ((cap + 1 : Nat) : Int)) := fun h1 h2 => (ev_add h1 h2).imp fun v H' _ h => h
  refine ss_cons (s_setW (i := 3) (EX.run (sA := sA) (ns := ns) (rA := rA) (ex_tup (n := 4) (eax_cons (P := vI (cap : Int)) (ex_of fun H1 e1 => ev_v 2 (P := vI (cap : Int)) rfl) (eax_cons (P := vN 0 (cap + 1)) (ex_taken (m := cap + 1) hT hr1 (fun H1 e1 => ev_v 0 (P := vE (.ref rA)) rfl) (fun H1 e1 => ecap (ev_v 2 (P := vI (cap : Int)) rfl) ev_i) hcp1 (by omega))
    (eax_cons (P := vN 0 (cap + 1)) (ex_pick (P := vN 0 (cap + 1)) (n := 3) hPk hr2 (fun H1 e1 => ev_v 0 (P := vE (.ref rA)) rfl) (eax3 (P := vN 0 (cap + 1)) (ex_of fun H1 e1 => ev_i.imp fun v H' _ ev => ⟨0, ev, Nat.le_refl _, hcp1⟩) (ex_of fun H1 e1 => ev_i.imp fun v H' _ ev => ⟨0, ev, Nat.le_refl _, hcp1⟩) (ex_taken (m := cap + 1) hT hr1 (fun H1 e1 => ev_v 0 (P := vE (.ref rA)) rfl) (fun H1 e1 => ecap (ev_v 2 (P := vI (cap : Int)) rfl) ev_i) hcp1 (by omega))) (fun vs H h => h) (by decide) (by decide))
    (eax_cons (P := vNs K many 0 12) ?_ eax_nil)))) (fun vs H ⟨v, r, ev, _, v2, r2, ev2, _, v3, r3, ev3, _, v4, r4, ev4, _, ev5⟩ => by rw [ev, ev2, ev3, ev4, ev5]; exact Nat.le_refl 4)) e2.k1 fun v H3 e3 ⟨dp, vs, H9, ev, hdp, e9, v1, r1, ev1, g1, v2, r2, ev2, g2, v3, r3, ev3, g3, v4, r4, ev4, g4, ev5⟩ => ?_))
  · -- tuple([taken(row, 12) for k in range(many)])
    intro H4 e4 Q' q'
    refine we_of (pe_callTy call_tuple_of rfl T.tup (by decide +kernel) (pa_cons we_self pa_nil)) ?_
    refine EX.at (sA := sA) (ns := ns) (rA := rA) (ex_lc (g := gName 6) (own := [("_law_k", 6)]) (fun n => n = many) (fun _ => vN 0 12) nd (blkOk_by (N := nCs) (sc := defScope sCs) (own := [("_law_k", 6)]) (by decide +kernel)) (fun _ _ _ _ _ => pg_name (i := 6) nd rfl (Or.inl rfl)) (rx_R1 T.rng (fun H1 e1 => ev_v 1 (P := vI (many : Int)) rfl) (by omega)) (fun n hn => by omega) (fun j x H5 H6 e5 hy => ?_)) e4 fun v H5 e5 ⟨lp, ys, ev, h0, h1, h2, h3⟩ => ?_
    · obtain ⟨rfl, rfl⟩ := hy
      exact ⟨_, gt_name, Same.refl _, rfl, fun s5 H5' C5 cl5 fp5 => ex_taken (m := 12) hT hr1 (fun H1 e1 => ev_v 0 (P := vE (.ref rA)) rfl) (fun H1 e1 => ev_i) (by decide) (by decide)⟩
    · obtain ⟨ts, et, hts⟩ := nums h3
      refine ⟨lp, ys, by rw [ev], .inl ⟨SqL.of h1, fun q hq => q' _ _ (e5.ext (same_new hq)) ⟨q, ts, rfl, SqT.of (by rw [upd_same, et]), ?_, hts⟩⟩⟩
      have := congrArg List.length et
      rw [List.length_map] at this
      omega
  subst ev
  obtain ⟨st, es, _, hst⟩ := g2
  obtain ⟨en, ee, _, hen⟩ := g3
  obtain ⟨ip, inf, ei, hip, hil, hin⟩ := g4
  have e03 := ((RW.of hK (Same.refl _)).trans (e1.trans e2)).trans e3
  have hd3 : SqT K H3 dp [.int (cap : Int), .int (st : Int), .int (en : Int), .ref ip] ∧ SqT K H3 ip (inf.map fun n : Nat => V.int (n : Int)) := by
    refine ⟨SqT.of (by rw [hdp, ev1, ev2, ev3, ev4, ev5, es, ee, ei, show v1 = _ from g1]), sameT e9 hip⟩
  clear hdp e9 ev1 ev2 ev3 ev4 ev5 hip
  -- _law_loss, _law_worths
  refine ss_cons (s_parX (sA := sA) (ns := ns) (rA := rA) (i := 4) (j := 5) (R := fun vs H => ∃ v w, vs = [v, w] ∧ vLo K v H ∧ vNew H3 w H) (fun H4 e4 Q' q' => wa_of (pa_cons we_self (pa_cons we_self pa_nil)) ?_) e3.k1 (fun vs H4 e4 ⟨v4, v5, ev, hv4, hv5⟩ => ⟨v4, v5, ev, ?_⟩) nd)
  · refine EX.at (sA := sA) (ns := ns) (rA := rA) (ex_pick (P := vLo K) (n := 4) hPk hr2 (fun H1 e1 => ev_v 0 (P := vE (.ref rA)) rfl) (eax4 (P := vLo K) (ex_of fun H1 e1 => (ev_q (q := 0) ev_i ev_i rfl rfl).imp fun v H' _ h => ⟨0, h, by decide, by decide, by decide⟩) (ex_of fun H1 e1 => (ev_q (q := ⟨1, 2, by decide, by decide⟩) ev_i ev_i rfl rfl).imp fun v H' _ h => ⟨_, h, by decide, by decide, by decide⟩) (ex_of fun H1 e1 => (ev_q (q := ⟨1, 10, by decide, by decide⟩) ev_i ev_i rfl rfl).imp fun v H' _ h => ⟨_, h, by decide, by decide, by decide⟩) ?_) (fun vs H h => h) (by decide) (by decide)) e4 fun v H5 e5 hv => ?_
    · intro H5 e5 Q5 q5
      obtain ⟨f5, fd5, G5, hm5, hk5, hb5⟩ := hR.ex
      refine we_of (pe_call G5 hr1 rfl hm5 hk5 hb5 .nil pass0 (pa_cons we_self (pa_cons we_self pa_nil)) (by decide) rfl rfl) ?_
      refine EX.at (sA := sA) (ns := ns) (rA := rA) (ex_taken (m := 9) hT hr1 (fun H1 e1 => ev_v 0 (P := vE (.ref rA)) rfl) (fun H1 e1 => ev_i) (by decide) (by decide)) e5 fun v H6 e6 ⟨t, ev, _, ht⟩ => ?_
      refine (ev_i (X := _) (σ := _) (H := H6)).go fun v7 H7 e7 ev7 => ?_
      exact ⟨(t : Int), 10, by rw [ev, show v7 = _ from ev7]; rfl, by decide, by decide, fun v8 H8 e8 h8 => q5 v8 H8 (e6.ext (e7.trans e8)) ⟨_, h8, lo_ten ⟨t, ht⟩⟩⟩
    · refine ev_new.go fun v6 H6 e6 ⟨wA, ew, h0, h1⟩ => q' [v, v6] H6 (e5.ext e6) ⟨v, v6, rfl, Stb.mono e6 hv, wA, ew, ?_, h1⟩
      exact (e4.trans e5).new h0
  obtain ⟨wA, rfl, hw0, hw1⟩ := hv5
  have e04 := e03.trans e4
  have hd4 : SqT K H4 dp [.int (cap : Int), .int (st : Int), .int (en : Int), .ref ip] ∧ SqT K H4 ip (inf.map fun n : Nat => V.int (n : Int)) := ⟨sbT e4.keep e4.k0.ls hd3.1, sbT e4.keep e4.k0.ls hd3.2⟩
  have hwr : wA ≠ rA := fun z => by
    obtain ⟨_, _, _, hh, _⟩ := e4.k0.at_
    rw [← z, hw0] at hh; cases hh
  have hwH : H wA = none := e03.new hw0
  have hv4 := hv4
  have k4 := e04.k1
  refine ss_cons (s_for PassesOwn.never (ei_R1 (n := many) T.rng (ev_v 1 (P := vI (many : Int)) rfl) (by omega)) (pg_name (i := 6) nd rfl (Or.inl rfl))
    (fun i σ' H' => ∃ o6 o8 ys, σ' = [some (.ref rA), some (.int (many : Int)), some (.int (cap : Int)), some (.ref dp), some v4, some (.ref wA), o6, none, o8, none] ∧ RW K sA ns rA H H' ∧ H' wA = some (.lst ys) ∧ ys.length = i ∧ (∀ y ∈ ys, vPk K y H') ∧ vLo K v4 H' ∧ SqT K H' dp [.int (cap : Int), .int (st : Int), .int (en : Int), .ref ip] ∧ SqT K H' ip (inf.map fun n : Nat => V.int (n : Int)))
    (fun H5 e5 => ⟨none, none, [], rfl, e04.ext e5, e5 _ _ hw1, rfl, (fun y hy => by cases hy), Stb.mono e5 hv4, sameT e5 hd4.1, sameT e5 hd4.2⟩) (fun _ _ _ _ _ => trivial) ?_ ?_)
  · rintro i x σ' H50 H5 hi ⟨o6, o8, ys, rfl, e5, hA5, hyl, hys, hv5, hd5, hip5⟩ ⟨rfl, rfl⟩
    refine ⟨_, gt_name, ?_⟩
    have k5 := e5.k1
    -- _law_prices
    refine ss_mid (fun σ' H' => ∃ (pl : Addr) (qs : List Nat), σ' = [some (.ref rA), some (.int (many : Int)), some (.int (cap : Int)), some (.ref dp), some v4, some (.ref wA), some (.int (i : Int)), none, some (.ref pl), none] ∧ RW K sA ns rA H5 H' ∧ H5 pl = none ∧ H' pl = some (.lst (qs.map fun n : Nat => V.int (n : Int))) ∧ qs.length ≤ 2 ∧ (∀ q ∈ qs, 1 ≤ q ∧ q ≤ 9) ∧ qs.Pairwise fun a b => b < a)
      (s_setW (i := 8) (we_of (pe_revL we_self) (we_of (pe_callB (cr_sortedSet rfl) rfl T.srt (by decide +kernel) (pa_cons we_self pa_nil)) (we_of (pe_callTy (cr_setL rfl) rfl T.set (by decide +kernel) (pa_cons we_self pa_nil)) (EX.at (sA := sA) (ns := ns) (rA := rA) (H := H5) (ex_lc (g := gName 7) (own := [("_law_turn", 7)]) (fun n => n < 3) (fun _ => vN 1 10) nd (blkOk_by (N := nCs) (sc := defScope sCs) (own := [("_law_turn", 7)]) (by decide +kernel)) (fun _ _ _ _ _ => pg_name (i := 7) nd rfl (Or.inl rfl)) (rx_RX (m := 3) T.rng (ex_taken (m := 3) hT hr1 (fun H1 e1 => ev_v 0 (P := vE (.ref rA)) rfl) (fun H1 e1 => ev_i) (by decide) (by decide)) (by decide)) (fun n hn => by omega) (fun j x H6 H7 e6 hy => ?_)) (RW.refl k5) fun v H6 e6 ⟨lp, zs, ev, h0, h1, h2, h3⟩ => ?_))))) ?_
    · obtain ⟨rfl, rfl⟩ := hy
      exact ⟨_, gt_name, Same.refl _, rfl, fun s5 H5' C5 cl5 fp5 => ex_one (ex_taken (m := 9) hT hr1 (fun H1 e1 => ev_v 0 (P := vE (.ref rA)) rfl) (fun H1 e1 => ev_i) (by decide) (by decide))⟩
    · obtain ⟨ts, et, hts⟩ := nums h3
      have htl : ts.length < 3 := by
        have := congrArg List.length et
        rw [List.length_map] at this
        omega
      refine ⟨lp, ts.map fun n : Nat => (n : Int), by rw [ev], SqL.of (by rw [h1, et, List.map_map]; rfl), by rw [List.length_map]; omega, fun sp c hsp hc => ?_⟩
      rw [List.length_map] at hc
      refine ⟨sp, _, c, rfl, upd_same, by omega, fun ns' p' hpw hmem hlen hp' => ⟨p', _, rfl, SqL.of upd_same, fun p2 hp2 => ?_⟩⟩
      obtain ⟨qs, eq, hq⟩ := nats (ns := ns') (ts := ts) fun k' hk' => by
        have := (hmem k').mp hk'
        simpa using this
      subst eq
      have e7 : RW K sA ns rA H5 (upd (upd (upd H6 sp _) p' (.lst ((qs.map fun n : Nat => (n : Int)).map V.int))) p2 (.lst ((qs.map fun n : Nat => (n : Int)).map V.int).reverse)) := ((e6.ext (same_new hsp)).ext (same_new hp')).ext (same_new hp2)
      refine ⟨p2, qs.reverse, rfl, e7, ((e6.ext (same_new hsp)).ext (same_new hp')).new hp2, ?_, ?_, fun q hq' => ?_, ?_⟩
      · rw [upd_same, List.map_map, List.map_reverse]; rfl
      · rw [List.length_reverse]
        rw [List.length_map] at hlen
        omega
      · have := hts q (hq q (List.mem_reverse.mp hq'))
        omega
      · rw [List.pairwise_reverse]
        rw [List.pairwise_map] at hpw
        exact hpw.imp fun h => by omega
    rintro σ' H7 ⟨pl, qs, rfl, e7, hpl0, hpl, hql, hqs, hqp⟩
    have hplr : pl ≠ rA := fun z => by
      obtain ⟨_, _, _, hh, _⟩ := k5.at_
      rw [← z, hpl0] at hh; cases hh
    have hA7 := e7.keep wA _ (by simpa using hwr) hA5
    have hqn : (qs.map fun n : Nat => V.int (n : Int)).length = qs.length := List.length_map _
    -- _law_worths.append(tuple([..]))
    refine ss_one (s_appX (sA := sA) (ns := ns) (rA := rA) (P := vPk K) e7.k1 (ev_v 5 (P := vE (.ref wA)) rfl) hA7 hwr (by omega) (fun H8 e8 Q' q' => we_of (pe_callTy call_tuple_of rfl T.tup (by decide +kernel) (pa_cons we_self pa_nil)) ?_) fun v H8 e8 hv => ?_)
    · refine EX.at (sA := sA) (ns := ns) (rA := rA) (ex_lc (g := gName 9) (own := [("_law_one", 9)]) (fun n => n = (qs.map fun n : Nat => V.int (n : Int)).length) (fun j => vPj K (qs.getD j 0)) nd (blkOk_by (N := nCs) (sc := defScope sCs) (own := [("_law_one", 9)]) (by decide +kernel)) (fun _ _ _ _ _ => pg_name (i := 9) nd rfl (Or.inl rfl)) (rx_L (a := pl) (fun H1 e1 => ev_v 8 (P := vE (.ref pl)) rfl) hpl hplr) (fun n hn => by omega) (fun j x H9 H10 e9 hy => ?_)) e8 fun v H9 e9 ⟨lp, zs, ev, h0, h1, h2, h3⟩ => ?_
      · obtain ⟨rfl, hx⟩ := hy
        have hj : j < qs.length := by
          have := (List.getElem?_eq_some_iff.mp hx).1
          omega
        rw [List.getElem?_map, getD_of (d := 0) hj] at hx
        cases hx
        refine ⟨_, gt_name, Same.refl _, rfl, fun s5 H5' C5 cl5 fp5 => ?_⟩
        exact (ex_tup (n := 2) (eax_cons (P := vN 1 10) (ex_one (ex_taken (m := 9) hT hr1 (fun H1 e1 => ev_v 0 (P := vE (.ref rA)) rfl) (fun H1 e1 => ev_i) (by decide) (by decide))) (eax_cons (P := vI ((qs.getD j 0 : Nat) : Int)) (ex_of fun H1 e1 => ev_v 9 (P := vI ((qs.getD j 0 : Nat) : Int)) rfl) eax_nil)) (fun vs H ⟨v, r, ev, _, v2, r2, ev2, _, ev3⟩ => by rw [ev, ev2, ev3]; exact Nat.le_refl 2)).imp fun v H' _ ⟨q, vs, H1, ev, hq, _, v1, r1, ev1, ⟨t, et, t1, t9⟩, v2, r2, ev2, et2, ev3⟩ => ⟨t, ⟨q, ev, SqT.of (by rw [hq, ev1, ev2, ev3, et, show v2 = _ from et2])⟩, t1, by omega⟩
      · obtain ⟨ps, g1, g2, g3, g4⟩ := gather2 (qs := qs) (ys := zs) (by omega) h3
        refine ⟨lp, zs, by rw [ev], .inl ⟨SqL.of h1, fun q hq => q' _ _ (e9.ext (same_new hq)) ⟨ps, ⟨q, zs, rfl, SqT.of upd_same, g1.symm, fun i x hx => ?_⟩, by omega, fun a ha => ?_, ?_⟩⟩⟩
        · obtain ⟨u, q1, q2⟩ := g4 i x hx
          exact ⟨u, q1, Stb.mono (P := vPr K x) (same_new hq) q2⟩
        · have h1 := g3 a ha
          have h2 := hqs a.2 (by rw [← g2]; exact List.mem_map.mpr ⟨a, ha, rfl⟩)
          omega
        · rw [← g2, List.pairwise_map] at hqp
          exact hqp
    · have e58 := e7.trans e8
      have hA8 := e8.keep wA _ (by simpa using hwr) hA7
      have hm : IsM H8 wA := .inl ⟨_, hA8⟩
      have keepP : ∀ {y : V} {H9 : Hp} {zs : List V}, H9 wA = some (.lst ys) → vPk K y H9 → vPk K y (upd H9 wA (.lst zs)) := fun h ⟨ps, ⟨q, vs, h1, h2, h3, h4⟩, h5⟩ => ⟨ps, ⟨q, vs, h1, frmT h h2, h3, fun i x hx => let ⟨u, g1, ⟨q', g2, g3⟩⟩ := h4 i x hx; ⟨u, g1, q', g2, frmT h g3⟩⟩, h5⟩
      have e9 : RW K sA ns rA H (upd H8 wA (.lst (ys ++ [v]))) := by
        have r := e5.trans e58
        obtain ⟨i0, x0, y0, g0, g0'⟩ := r.k0.at_
        obtain ⟨i1, x1, y1, g1, g1'⟩ := r.k1.at_
        have sb : SameB [rA] H (upd H8 wA (.lst (ys ++ [v]))) := fun b o nb h => by
          rw [upd_ne (ne_of_none h hwH)]; exact r.keep b o nb h
        exact ⟨r.k0, sb, ⟨i1, x1, y1, by rw [upd_ne (Ne.symm hwr)]; exact g1, g1'⟩, rk_sq g0 r.k0.sq sb⟩
      refine ⟨_, _, ys ++ [v], rfl, e9, upd_same, by rw [List.length_append, hyl]; rfl, fun y hy => ?_, ?_, frmT hA8 (sbT e58.keep e58.k0.ls hd5), frmT hA8 (sbT e58.keep e58.k0.ls hip5)⟩
      · rcases List.mem_append.mp hy with z | z
        · exact keepP hA8 (Stw.mono e58 (hys y z))
        · have : y = v := by simpa using z
          rw [this]; exact keepP hA8 hv
      · obtain ⟨q, ⟨p, h1, h2⟩, h3⟩ := Stw.mono (P := vLo K) e58 hv5
        exact ⟨q, ⟨p, h1, frmT hA8 h2⟩, h3⟩
  · rintro σ' H5 ⟨o6, o8, ys, rfl, e5, hA5, hyl, hys, ⟨q, hv5, hq0, hq1, hq10⟩, hd5, hip5⟩
    obtain ⟨w, g1, g2, g3⟩ := gather hys
    have hO : (⟨cap, st, en, inf, q, w⟩ : Lw).Ok := ⟨by show 0 < inf.length; omega, by show inf.length ≤ 4; omega, by show w.length = inf.length; omega, by show cap ≤ 24; omega, by show st ≤ cap; omega, by show en ≤ cap; omega, fun x hx => by have := hin x hx; omega, hq0, hq1, hq10, fun p hp => (g2 p hp).1, fun p hp => (g2 p hp).2.1, fun p hp => (g2 p hp).2.2⟩
    have hwsq : ∀ {H6 : Hp}, Same H5 H6 → ∀ wt, H6 wt = some (.tup ys) → vWs K w (.ref wt) H6 := fun e wt h => ⟨wt, ys, rfl, SqT.of h, g1.symm, fun i x hx => let ⟨u, r1, r2⟩ := g3 i x hx; ⟨u, r1, Stb.mono (P := vPs K x) e r2⟩⟩
    refine ss_one (s_ret (P := fun v H' => vCase K ⟨cap, st, en, inf, q, w⟩ v H') ((ev_tup (n := 3) (ea_cons (P := vE (.ref dp)) (ev_v 3 (P := vE (.ref dp)) rfl) (ea_two (P1 := vQ K q) (P2 := vWs K w) (ev_v 4 hv5) (ev_ty call_tuple_of T.tup (ea_one (ev_v 5 (P := vE (.ref wA)) rfl)) (fun vs H6 e6 ⟨v, ev, ev2⟩ Q' q' => ⟨wA, ys, by rw [ev, ev2], .inl ⟨SqL.of (e6 _ _ hA5), fun wt hwt => q' _ _ (same_new hwt) (hwsq (e6.trans (same_new hwt)) wt upd_same)⟩⟩) (by decide +kernel)))) (fun vs H ⟨v, w', e, _, v2, w2, e2, _⟩ => by rw [e, e2]; exact Nat.le_refl 3)).imp fun v H' e' ⟨p, vs, H9, ev, hp, e9, v1, r1, ev1, f1, v2, v3, ev2, f2, f3⟩ => ⟨p, v1, v2, v3, ev, SqT.of (by rw [hp, ev1, ev2]), ⟨dp, ip, f1, sameT e' hd5, sameT e' hip5⟩, Stb.mono e9 f2, Stb.mono (P := vWs K w) e9 f3⟩) fun v H6 e6 h6 => k _ v H6 hO (e5.ext e6) h6)
end
end Dw
set_option Elab.async false
set_option linter.all false
set_option maxRecDepth 100000
set_option maxHeartbeats 4000000
set_option pp.maxSteps 300
/-! a lambda handed to _law_told; what else is tracked stays, tables too -/
namespace Dw
open PySem PySem.Spec PyProof.Rows L2 RZ LamX
section
variable {X : Cx} {pins : List (Addr × Obj)} {σ : L2.St} {H : Hp} {s : Shared}
/-- the lambda is made: only its maker's table changes -/
theorem lam_make3 {c P : Addr} {params : Arguments} {body : Expr} {scope : Scope} {pos : Pos} {E : Value → Shared → Prop} {Q : Value → Shared → Prop} (I : Inv X pins σ H s) (TB : LamX.TabB X.base X.mg c P) (hcode : X.env.code = .ref c)
    (hT : TabS H P (X.env.qual ++ "<lambda>")) (hdef : defaultsOf params X.env = ([], [])) (hfree : ∀ y ∈ scope.names, y.2 = .free → ∃ c, X.env.cells.lookup y.1 = some c)
    (h : ∀ (f c' : Addr) (pm ctv : Value) (H1 : Hp) (s' : Shared), Inv X pins σ H1 s' → SameB [P] H H1 → TabS H1 P (X.env.qual ++ "<lambda>") →
      s'.heap.get? f = some (PySem.W.kla_obj "<lambda>" (X.env.qual ++ "<lambda>") params body scope (cloFrom X.env.cells scope.names []) pm c' ctv) → H1 f = none → f ∉ frs X.stack → H1 c' = some (CodeO c' (X.env.qual ++ "<lambda>")) → Q (.ref f) s') :
    wpAny (model X.prog X.w) X.A (eval (.Lambda params body scope pos) X.env) Q E s := by
  obtain ⟨ps, hP, ht, ha⟩ := id hT
  have hP' : s.heap.get? P = some { cls := .none, data := .fields ps } := I.hok P _ hP
  have nofr : ∀ f, s.heap.objs.size ≤ f → f ∉ frs X.stack := fun f hf z => by
    rcases List.mem_cons.mp (I.stkSub _ z) with e | e
    · have h1 := I.lt
      rw [← e] at h1
      exact Nat.lt_irrefl _ (Nat.lt_of_lt_of_le h1 hf)
    · exact I.nofs hf e
  refine PySem.W.kla_eval hdef ?_
  cases hc : codeAmong pos ps.toList with
  | none =>
    refine PySem.W.kla_makeFunction (mg := X.mg) (c := c) (P := P) (ps := ps) (closure_ok hfree) I.ok.glob (I.mod.glob.keeps I.bk) hcode (TB.code.keeps I.bk) hP' ht hc TB.gP (TB.bm.keeps I.bk) fun c' ctv h' tk hx hge hlt hrec htb => ?_
    obtain ⟨c2, oc, vs, t, e2, hoc, hd, hv⟩ := hrec
    cases e2
    have hsz : s.heap.objs.size ≤ h'.objs.size := Nat.le_trans hge (Nat.le_of_lt hlt)
    have nC : H c' = none := I.hok.fresh hge
    have I1 := inv_table (t' := tk) (more := #[rawInt pos.line, rawInt pos.col, .ref c']) (h' := h'.push (PySem.W.kla_obj "<lambda>" (X.env.qual ++ "<lambda>") params body scope (cloFrom X.env.cells scope.names []) ((X.mg "__name__").getD .none) c' ctv)) I hP
      (fun b o hb e => Heap.get?_push_of_some _ (hx b o hb e)) (Heap.get?_push_of_some _ htb) hge ⟨oc, vs, t, Heap.get?_push_of_some _ hoc, hd, hv⟩
    have hE : SameB [P] H (upd (upd H P (.tbl (ps ++ #[rawInt pos.line, rawInt pos.col, .ref c']))) c' (CodeO c' (X.env.qual ++ "<lambda>"))) := fun b o nb e => by
      rw [upd_ne (ne_of_none e nC), upd_ne (by simpa using nb)]
      exact e
    have nPc : P ≠ c' := ne_of_none hP nC
    have eL : (ps ++ #[rawInt pos.line, rawInt pos.col, .ref c']).toList = ps.toList ++ [rawInt pos.line, rawInt pos.col, .ref c'] := by simp
    refine h h'.objs.size c' ((X.mg "__name__").getD .none) ctv _ _ I1 hE ⟨_, by rw [upd_ne nPc, upd_same], by rw [eL]; exact PySem.TriplesOk_snoc _ _ _ _ ht, fun p' cv hcv => ?_⟩ (Heap.get?_push_size _ rfl) ?_ (nofr _ hsz) upd_same
    · rw [eL] at hcv
      rcases among_app _ ht hcv with z | z
      · obtain ⟨c0, e1, e2⟩ := ha p' cv z
        exact ⟨c0, e1, hE _ _ (fun z => by
          have z : c0 = P := by simpa using z
          rw [z, hP] at e2
          exact codeO_ne _ (Option.some.inj e2).symm) e2⟩
      · exact ⟨c', z, upd_same⟩
    · rw [upd_ne (Nat.ne_of_gt hlt), upd_ne (Nat.ne_of_gt (Nat.lt_of_lt_of_le (Heap.lt_size hP') hsz))]
      exact I.hok.fresh hsz
  | some cv =>
    obtain ⟨c', e, hco⟩ := ha pos cv hc
    subst e
    refine PySem.W.kla_makeFunctionHit (mg := X.mg) (c := c) (P := P) (ps := ps) (closure_ok hfree) I.ok.glob (I.mod.glob.keeps I.bk) hcode (TB.code.keeps I.bk) hP' ht hc (TB.bm.keeps I.bk) fun ctv h' tk hx hsz => ?_
    have I1 : Inv X pins σ H { s with heap := h'.push (PySem.W.kla_obj "<lambda>" (X.env.qual ++ "<lambda>") params body scope (cloFrom X.env.cells scope.names []) ((X.mg "__name__").getD .none) c' ctv), toks := tk } := I.kept fun b o e => Heap.get?_push_of_some _ (hx b o e)
    exact h h'.objs.size c' ((X.mg "__name__").getD .none) ctv H _ I1 (SameB.refl _ _) hT (Heap.get?_push_size _ rfl) (I.hok.fresh hsz) (nofr _ hsz) hco
end
/-- told(lambda: ..), the law's own table at P -/
def tLam3 (P : Addr) (q : Str) (TT : (XK → Hp → VK → Prop) → Hp → VK → Prop) (t : XK → TE) : TE := fun σ H Q => TabS H P q ∧ ∀ H1, SameB [P] H H1 → TabS H1 P q → TT (fun E H' Q' => t E σ H' Q') H1 Q
section
variable {X : Cx}
theorem pe_lam3 {TT : (XK → Hp → VK → Prop) → Hp → VK → Prop} {x a : Str} {g c P : Addr} {k : Nat} {pg : Arguments} {bg : List Stmt} {sg : Scope} {dV kV doc pm cdv ct oc : Value} {an od : Option Addr} {osl : Array (Option Value)} {Ng : List Str}
    {params : Arguments} {body : Expr} {scope : Scope} {t : XK → TE} {p lpos pos : Pos} (hg : Gl X x) (hm : X.mg x = some (.ref g)) (hk : PySem.W.keepIn X.K (.ref g) = true)
    (lk : X.K.lookup g = some ⟨oc, od, .func (PySem.W.fnOf x x pg bg sg dV kV doc pm an cdv ct), osl⟩) (hcg : PySem.W.codeIn X.K cdv x = true) (hb : L2.Binds X.K (PySem.W.fnOf x x pg bg sg dV kV doc pm an cdv ct) [a] []) (Sg : FnScope Ng [a] sg) (hNg : Ng[0]? = some a) (hva : Vis sg a)
    (hG : GivesTo X Ng x sg g cdv bg a (X.env.qual ++ "<lambda>") TT)
    (TB : LamX.TabB X.base X.mg c P) (hcode : X.env.code = .ref c) (hr : Room (k + 2) X.A) (L : LamS X.env.scope scope) (hdef : defaultsOf params X.env = ([], []))
    (hbind : ∀ (q : Str) (cl : List (Str × Addr)) (pm cv ctv : Value), bindArgs (PySem.W.kla_fn "<lambda>" q params body scope cl pm cv ctv) ⟨[], []⟩ = pure [])
    (hbody : ∀ (A : Around) (outer : List Env) (s : Shared) (H : Hp) (E : XK) (f c' : Addr), Room k (A.deeper (lamEnv X scope s.heap.objs.size f c')) → PE (lamCx X A outer s H E scope f c') body (t E))
    (hdb : (x == ("__debug__" : Str)) = false := by decide) (hd : (a == ("__debug__" : Str)) = false := by decide) (hcd : (a == ("__classdict__" : Str)) = false := by decide) :
    PE X (.Call (.Name x p) [.Lambda params body scope lpos] [] pos) (tLam3 P (X.env.qual ++ "<lambda>") TT t) := by
  refine ⟨fun pins s σ H Q I h => ?_⟩
  obtain ⟨hT, h⟩ := h
  refine wpAny_Call_Name_kw (ld_glob I hg hm ?_ hdb)
  refine PySem.W.callWith_K (h₀ := X.base) I.ok.mod.kin hk ?_ (by rfl) (by rfl)
  show wpAny _ _ (spliced ((false, eval (.Lambda params body scope lpos) X.env) :: backTo pos (starEach [] X.env))) _ _ s
  refine Calls.spliced_cons (lam_make3 I TB hcode hT hdef (L.has I.ok) fun f c' pm' ctv H1 s' I1 eN T1 hf hfn hfr hco => ?_)
  refine Calls.spliced_nil ⟨I1.kIn, ?_⟩
  have rc : codeAny (model X.prog X.w) X.A (.call (.ref g) ⟨[.ref f], []⟩) (CR C8.CX0 X.stack X.prog X.w H1 s' Q C8.E0) s' := by
    refine run_ofS (N := Ng) (ps := [a]) (us := [.ref f]) (vs := [.ref f]) lk hcg Sg hr I1.env0 (hb s' [.ref f] I1.kIn rfl) (.cons rfl .nil) rfl fun hr' => ?_
    obtain ⟨t', ht', hq'⟩ := hG f c' s' H1 Q (fun E H' Q' => t E σ H' Q') (fun W pn xe E p1 p2 tk hW => pe_act (i := 0) I1 L hf hfn hfr (hbind _ _ _ _ _) tk hW hr' (fun A outer s H hr2 => hbody A outer s H E f c' hr2) hNg hva hd hcd) hco (h H1 eN T1)
    exact ⟨t', ht'.nox, hq'⟩
  refine wpAny_call (codeAny_mono rc fun r s2 hq => ?_)
  cases r with
  | error e => exact (show False from hq).elim
  | ok fl =>
    cases fl with
    | ret u => exact I1.after hq
    | next => exact False.elim hq
    | brk => exact False.elim hq
    | cont => exact False.elim hq
abbrev sTold : Stmt := top 58
abbrev nTold : List Str := ["_law_work", "e"]
theorem scTold : FnScope nTold ["_law_work"] (defScope sTold) := ⟨rfl, rfl, rfl, by decide +kernel, rfl, by decide +kernel, by decide +kernel⟩
/-- what _law_told makes of it -/
def TTold2 (NP : Addr) : (XK → Hp → VK → Prop) → Hp → VK → Prop := fun tl H Q => tl (fun cls d H' => cls = .ref NP ∧ d = none ∧ Q (.str "no plan") H') H Q
theorem told2 {g NP DE : Addr} {cdg : Value} {q : Str} (hNP : X.mg "NoPlan" = some (.ref NP)) (hDE : X.mg "DamError" = some (.ref DE)) (hisi : X.mg "isinstance" = none) (C : ExcC X.K NP) (hx : PySem.W.exmOne X.K (.ref NP) (.ref DE) = some true) :
    GivesTo X nTold "_law_told" (defScope sTold) g cdg (defBody sTold) "_law_work" q (TTold2 NP) := by
  intro f c' s H Q tl act hc h
  refine ⟨_, pss_one (ps_try_as (X := (cxOf C8.CX0 X.prog X.w X.K X.mg X.base nTold "_law_told" (defScope sTold) g cdg X.A X.stack s H C8.E0).nox) (i := 1) (c := .ref DE)
      (tb := fun W D σ H => ∃ Ech : XK, (∀ cls d σ' H', Ech cls d H' → W cls d σ' H') ∧ σ[0]? = some (some (.ref f)) ∧ H c' = some (CodeO c' q) ∧ tl Ech H D.rt)
      (ts := fun a cls d D σ H => cls = .ref NP ∧ d = none ∧ (σ.length = 2 → σ[1]? = some (some (.ref a))) ∧ D.rt (.str "no plan") H)
      rfl rfl scTold.nd rfl rfl ⟨rfl, by decide, .inl hDE⟩ L2.takes0 (fun W pn xe tk _ => ?_) (fun a oe cls d pn hz hf => ?_)), ?_⟩
  · refine ⟨fun pins s' σ H' D I h' => ?_⟩
    obtain ⟨Ech, hW, h1, h2, h3⟩ := h'
    exact (pss_one (ps_ret (act W pn xe Ech _ _ tk hW))).run pins s' σ H' D I ⟨h1, h2, h3⟩
  · refine ⟨fun pins s' σ H' D I h' => ?_⟩
    obtain ⟨ec, ed, hs1, hq⟩ := h'
    subst ec
    subst ed
    have hs1 := hs1 I.len
    refine (?_ : WSs ((cxOf C8.CX0 X.prog X.w X.K X.mg X.base nTold "_law_told" (defScope sTold) g cdg X.A X.stack s H C8.E0).nox.suite a ((a, oe) :: pn)) _ D σ H') pins s' I
    refine ss_one (ws_of (ps_ret we_self) (we_of (pe_ifExp wt_self we_self we_self) ?_))
    refine (?_ : WT _ _ _ _ _)
    refine wt_of (pt_val we_self (fun _ => rfl)) (we_of (pe_callB (call_isE C hz hf) rfl hisi (by decide +kernel) (pa_cons we_self (pa_cons we_self pa_nil))) ?_)
    refine we_of (pe_var (i := 1) rfl (Or.inl rfl) (by decide) (by decide)) ⟨.ref a, hs1, we_of (pe_glob (v := V.ref NP) rfl hNP rfl) ?_⟩
    exact ⟨.ref NP, .ref NP, true, rfl, (fun u r => r), if_pos (by simp), true, rfl, we_of pe_str hq⟩
  · exact ⟨fun cls d H' => cls = .ref NP ∧ d = none ∧ Q (.str "no plan") H', fun cls d σ' H' ⟨e1, e2, e3⟩ => ⟨true, by rw [e1]; exact hx, fun _ a _ => ⟨e1, e2, fun hl => by
      have : 1 < σ'.length := by rw [List.length_set] at hl; omega
      simp [this], e3⟩, fun z => nomatch z⟩, rfl, hc, h⟩
end
end Dw
set_option Elab.async false
set_option linter.all false
set_option maxRecDepth 100000
set_option maxHeartbeats 4000000
set_option pp.maxSteps 300
/-! law -/
namespace Dw
open PySem PySem.Spec PyProof.Rows L2 RZ
/-- a def whose code object is known -/
structure FunC (K : PySem.W.Frag) (x qual : Str) (st : Stmt) (f : Addr) (fd : FuncData) (c : Addr) : Prop where
  ex : ∃ (oc : Value) (od : Option Addr) (kV doc pm : Value) (an : Option Addr) (ct : Value) (osl : Array (Option Value)),
    fd = PySem.W.fnOf x qual (defArgs st) (defBody st) (defScope st) .none kV doc pm an (.ref c) ct ∧ K.lookup f = some ⟨oc, od, .func fd, osl⟩ ∧ PySem.W.codeIn K (.ref c) qual = true
  kp : PySem.W.keepIn K (.ref f) = true
theorem FunC.ok {P : Program} {w : World} {K : PySem.W.Frag} {mg : Str → Option Value} {base : Heap} {x qual : Str} {st : Stmt} {f c : Addr} {fd : FuncData} {N ps : List Str} {k : Nat} {sp : Sp} (F : FunC K x qual st f fd c) (S : FnScope N ps (defScope st)) (len : ∀ vs H Q E, sp vs H Q E → vs.length = ps.length)
    (hbody : ∀ (A : Around) (outer : List Env) (s : Shared) (H : Hp) (vs : List V) (Q : VK) (E : XK), Room k (A.deeper (envOfC qual (defScope st) s.heap.objs.size f (.ref c))) → sp vs H Q E →
      ∃ t, PSs (cxOf CX0 P w K mg base N qual (defScope st) f (.ref c) A outer s H E).nox (defBody st) t ∧ t { nx := fun _ H' => Q .non H', rt := Q } (start N vs) H) : FnOk P w K mg base CX0 (k + 1) f fd ps sp := by
  obtain ⟨oc, od, kV, doc, pm, an, ct, osl, rfl, lk, hcd⟩ := F.ex
  refine fn_of lk hcd S len fun A outer s H vs Q E hr hsp => ?_
  obtain ⟨t, h, q⟩ := hbody A outer s H vs Q E hr hsp
  exact ⟨t, h.nox, q⟩
section
variable {l : Lw}
theorem w_le (O : l.Ok) {x y x' y' : Nat → Rat} (b : Best3 l x y) (b' : Best3 l x' y') : wOf l x ≤ wOf l x' := by
  obtain ⟨nn, F⟩ := (Dt.lpf_iff (Lw.dok O).M0 x).mp b.f
  obtain ⟨_, h2, _, _, h5⟩ := Dt.optimum (Lw.dok O) b'.f b'.d b'.e
  have h := Dt.weak (Lw.dok O) F nn (l := fun j => 0 - y' j) h2
  rw [← h5] at h
  exact h
theorem w_eq (O : l.Ok) {x y x' y' : Nat → Rat} (b : Best3 l x y) (b' : Best3 l x' y') : wOf l x = wOf l x' := by
  have h1 := w_le O b b'
  have h2 := w_le O b' b
  grind
theorem w_bound (O : l.Ok) {x y x' y' : Nat → Rat} (b : Best3 l x y) (b' : Best3 l x' y') : l.d.bound (fun j => 0 - y' j) = wOf l x := by
  obtain ⟨_, _, _, _, h5⟩ := Dt.optimum (Lw.dok O) b'.f b'.d b'.e
  rw [w_eq O b b']
  exact h5.symm
theorem fr300 {dd N : Nat} {q : Rat} (B : Bot dd) (h : Fr dd N q) (hN : N < 2 ^ 300) : Sz 300 q := h.sz B.p (Nat.lt_trans B.l (by decide)) hN
theorem plan_ok (O : l.Ok) {x y : Nat → Rat} (b : Best3 l x y) : PlanOk l (l.d.rel x) fun j => x (l.d.cnt + l.d.M + j) := by
  obtain ⟨h1, h2, h3, h4, _⟩ := Dt.optimum (Lw.dok O) b.f b.d b.e
  obtain ⟨dd, B, f1, f2, f3⟩ := rel_fr O b
  exact ⟨h1, fun j hj => fr300 B (f1 j hj) (by decide), fun j hj => (h3 j hj).1, fun j hj => (h3 j hj).2, fun j hj => fr300 B (f3 _ (by unfold Dt.cols; omega)) (by decide), h4⟩
theorem w_fr (O : l.Ok) {x y : Nat → Rat} (b : Best3 l x y) : Sz L (wOf l x) := by
  obtain ⟨dd, B, f1, f2, f3⟩ := rel_fr O b
  have hM4 : l.d.M ≤ 4 := O.M4
  have : Fr dd (l.d.M * 2 ^ 250) (wOf l x) := Fr.S fun j hj => (mw_fin O B hj (f1 j hj) (Nat.le_refl _)).2
  exact (fr300 B (this.mono (Nat.mul_le_mul_right _ hM4)) (by decide)).mono (by decide)
end
section
variable {P : Program} {w : World} {K : PySem.W.Frag} {mg : Str → Option Value} {base : Heap} {C NP DE P0 cL : Addr} {Ts : List Addr}
def spLaw (K : PySem.W.Frag) (P0 : Addr) (Ts : List Addr) : Sp := fun vs H Q _ => ∃ (sA : Addr) (ns : List Int), vs = [.ref sA] ∧ SqL K H sA (ns.map V.int) ∧ H P0 = some (.tbl #[]) ∧ (∀ T ∈ Ts, H T = some (.tbl #[])) ∧ ∀ H', Q (.bl true) H'
abbrev sLaw : Stmt := top 65
abbrev nLaw : List Str := ["_law_script", "_law_row", "_law_dam", "_law_loss", "_law_worths", "_law_found", "_law_plan"]
theorem scLaw : FnScope nLaw ["_law_script"] (defScope sLaw) := ⟨rfl, rfl, rfl, by decide +kernel, rfl, by decide +kernel, by decide +kernel⟩
/-- the law's callees -/
structure HasAll (P : Program) (w : World) (K : PySem.W.Frag) (mg : Str → Option Value) (base : Heap) (NP : Addr) (Ts : List Addr) : Prop where
  case_ : Has P w K mg base CX0 "_law_leak_worths" 4 ["_law_row"] (spCase K)
  lw : HasX P w K mg base "leak_worth" 10 n3 (spLk K NP Ts (vWorth K))
  lp : HasX P w K mg base "leak_plan" 10 n3 (spLk K NP Ts (vPlan K))
  lr : HasX P w K mg base "leak_prices" 10 n3 (spLk K NP Ts (vPris K))
  holds : Has P w K mg base CX0 "_law_leak_holds" 3 ["_law_dam", "_law_loss"] (spHolds K)
  isr : HasIs P w K mg base
  plan : Has P w K mg base CX0 "_law_leak_plan" 4 ["_law_dam", "_law_loss", "_law_value"] (spLPlan K)
  worth : Has P w K mg base CX0 "_law_worth" 4 ["_law_worths", "_law_plan"] (spWorth K)
  bound : Has P w K mg base CX0 "_law_leak_bound" 5 ["_law_dam", "_law_loss", "_law_worths", "_law_value"] (spBound K)
/-- told, as the law finds it -/
structure HasTd (K : PySem.W.Frag) (mg : Str → Option Value) (NP DE : Addr) : Prop where
  ex : ∃ (g : Addr) (oc : Value) (od an : Option Addr) (osl : Array (Option Value)) (kV doc pm cdv ct : Value), mg "_law_told" = some (.ref g) ∧ PySem.W.keepIn K (.ref g) = true ∧
    K.lookup g = some ⟨oc, od, .func (PySem.W.fnOf "_law_told" "_law_told" (defArgs sTold) (defBody sTold) (defScope sTold) .none kV doc pm an cdv ct), osl⟩ ∧ PySem.W.codeIn K cdv "_law_told" = true ∧
    L2.Binds K (PySem.W.fnOf "_law_told" "_law_told" (defArgs sTold) (defBody sTold) (defScope sTold) .none kV doc pm an cdv ct) ["_law_work"] []
  de : mg "DamError" = some (.ref DE)
  ec : ExcC K NP
  exm : PySem.W.exmOne K (.ref NP) (.ref DE) = some true
theorem lam_takes {X : Cx} {A : Around} {outer : List Env} {s : Shared} {H : Hp} {E : XK} {scope : Scope} {f c' : Addr} : L2.Takes (LamX.lamCx X A outer s H E scope f c') (fun cls d _ H => E cls d H) := L2.takes_of (E := E) rfl rfl rfl rfl
theorem we_told {X : Cx} {σ : L2.St} {H : Hp} {Q : VK} {params : Arguments} {body : Expr} {scope : Scope} {p lpos pos : Pos} (D : HasTd X.K X.mg NP DE) (hNP : X.mg "NoPlan" = some (.ref NP)) (hisi : X.mg "isinstance" = none) (TB : LamX.TabB X.base X.mg cL P0) (hcode : X.env.code = .ref cL) (hr : Room 12 X.A)
    (hT : LamX.TabS H P0 (X.env.qual ++ "<lambda>"))
    (h : ∀ H1, SameB [P0] H H1 → LamX.TabS H1 P0 (X.env.qual ++ "<lambda>") → ∀ (A : Around) (outer : List Env) (s : Shared) (H0 : Hp) (f c' : Addr), Room 10 (A.deeper (LamX.lamEnv X scope s.heap.objs.size f c')) → WE (LamX.lamCx X A outer s H0 (fun cls d H' => cls = .ref NP ∧ d = none ∧ Q (.str "no plan") H') scope f c') body σ H1 Q)
    (LB : LamX.lamSB (defScope (top 65)) scope = true := by decide +kernel) (hsc : X.env.scope = defScope (top 65) := by rfl) (hg : Gl X "_law_told" := by rfl) (hdef : defaultsOf params X.env = ([], []) := by rfl)
    (hbind : ∀ (q : Str) (cl : List (Str × Addr)) (pm cv ctv : Value), bindArgs (PySem.W.kla_fn "<lambda>" q params body scope cl pm cv ctv) ⟨[], []⟩ = pure [] := by intro _ _ _ _ _; rfl) :
    WE X (.Call (.Name "_law_told" p) [.Lambda params body scope lpos] [] pos) σ H Q := by
  obtain ⟨g, oc, od, an, osl, kV, doc, pm, cdv, ct, hg1, hg2, hg3, hg4, hg5⟩ := D.ex
  refine we_of (pe_lam3 (k := 10) (t := fun E σ H Q => ∀ (A : Around) (outer : List Env) (s : Shared) (H0 : Hp) (f c' : Addr), Room 10 (A.deeper (LamX.lamEnv X scope s.heap.objs.size f c')) → WE (LamX.lamCx X A outer s H0 E scope f c') body σ H Q) hg hg1 hg2 hg3 hg4 hg5 scTold rfl (Or.inl rfl) (told2 hNP D.de hisi D.ec D.exm) TB hcode hr (by rw [hsc]; exact LamX.lamS_by LB) hdef hbind (fun A outer s H E f c' hr' => ⟨fun pins s' σ H' Q I h => h A outer s H f c' hr' pins s' I⟩)) ⟨hT, fun H1 sb T1 => ?_⟩
  exact h H1 sb T1
theorem ok_law {f : Addr} {fd : FuncData} (F : FunC K "law" "law" sLaw f fd cL) (T : TxL mg) (N : TxN K mg NP) (A : HasAll P w K mg base NP Ts) (D : HasTd K mg NP DE) (TB : LamX.TabB base mg cL P0) (hP0 : P0 ∉ Ts) : FnOk P w K mg base CX0 13 f fd ["_law_script"] (spLaw K P0 Ts) := by
  refine F.ok scLaw (fun vs H Q E h => ?_) (fun A0 outer s H vs Q E hr h => ⟨_, wss_self, ?_⟩)
  · obtain ⟨sA, ns, rfl, _⟩ := h; rfl
  obtain ⟨sA, ns, rfl, hS, hT0, hTs, k⟩ := h
  have nd := scLaw.nd
  obtain ⟨g, oc, od, an, osl, kV, doc, pm, cdv, ct, hg1, hg2, hg3, hg4, hg5⟩ := D.ex
  -- _law_row
  refine ss_cons (s_set (i := 1) (P := fun v H' => ∃ rA, v = .ref rA ∧ H rA = none ∧ H' rA = some (.lst [.ref sA, .int 0, .int 4436, .int 0])) ((ev_lst (n := 4) (ea_cons (P := vE (.ref sA)) (ev_v 0 (P := vE (.ref sA)) rfl) (ea_cons (P := vI 0) ev_i (ea_two (P1 := vI 4436) (P2 := vI 0) ev_i ev_i))) (fun vs H ⟨v, r, e, _, v2, r2, e2, _, v3, v4, e3, _⟩ => by rw [e, e2, e3]; exact Nat.le_refl 4)).imp fun v H' _ ⟨p, vs, H1, ev, h0, h1, _, v1, r1, e1, g1, v2, r2, e2, g2, v3, v4, e3, g3, g4⟩ => ⟨p, ev, h0, by rw [h1, e1, e2, e3, g1, g2, g3, g4]⟩) fun v H1 e1 ⟨rA, ev, hr0, hr1⟩ => ?_)
  subst ev
  have hK : RK K sA ns rA H1 := ⟨⟨0, 4436, 0, hr1, by decide, by decide, by decide⟩, e1.seq hS⟩
  -- the case
  refine ss_cons (s_asgW (g := g3 K 2 3 4) (we_call A.case_ (hr.mono (by decide)) (ea_one (ev_v 1 (P := vE (.ref rA)) rfl)) fun vs H2 e2 ⟨v, ev, h2⟩ => ⟨rA, sA, ns, by rw [ev, h2], hK.mono e2, fun l v H3 O e3 ⟨p, vd, vl, vw, ev, hp, hd, hl, hw⟩ => ?_⟩) (pg_tup rfl (pgs_cons (pg_name (i := 2) nd rfl (Or.inr rfl)) (pgs_cons (pg_name (i := 3) nd rfl (Or.inr rfl)) (pgs_cons (pg_name (i := 4) nd rfl (Or.inr rfl)) pgs_nil)))))
  subst ev
  refine ⟨_, gt_three hp, ?_⟩
  have tbl3 : ∀ {T : Addr}, H T = some (.tbl #[]) → H3 T = some (.tbl #[]) := fun {T} h => e3.keep T _ (fun z => by
    have z : T = rA := by simpa using z
    rw [z, hr0] at h; cases h) (e2 _ _ (e1 _ _ h))
  have hT3 : LamX.TabS H3 P0 ("law.<locals>." ++ "<lambda>") := LamX.TabS.nil (tbl3 hT0)
  have hTb3 : Tb Ts H3 := fun T hT => ⟨#[], tbl3 (hTs T hT), trivial⟩
  clear tbl3 hT0 hTs e3 e2 e1
  have tab : ∀ {H' H'' : Hp} {q : Str}, Tb Ts H' → SameB Ts H' H'' → LamX.TabS H' P0 q → LamX.TabS H'' P0 q := fun {H' H'' q} t e ⟨ps, h1, h2, h3⟩ => ⟨ps, e _ _ hP0 h1, h2, fun pos cv hc => by
    obtain ⟨c, e1, e2⟩ := h3 pos cv hc
    refine ⟨c, e1, e _ _ (fun z => ?_) e2⟩
    obtain ⟨ps', h4, _⟩ := t c z
    rw [h4] at e2
    exact LamX.codeO_ne _ (Option.some.inj e2).symm⟩
  have tb0 : ∀ {H' H'' : Hp}, Tb Ts H' → SameB [P0] H' H'' → Tb Ts H'' := fun t e T hT => by
    obtain ⟨ps, h1, h2⟩ := t T hT
    exact ⟨ps, e _ _ (fun z => by
      have z : T = P0 := by simpa using z
      exact hP0 (z ▸ hT)) h1, h2⟩
  have st0 : ∀ {H' H'' : Hp} {q : Str}, LamX.TabS H' P0 q → SameB [P0] H' H'' → (vDam K l vd H' → vDam K l vd H'') ∧ (vQ K l.loss vl H' → vQ K l.loss vl H'') ∧ (vWs K l.w vw H' → vWs K l.w vw H'') := fun {H' H'' q} ⟨ps, h1, h2, _⟩ e => by
    have t : Tb [P0] H' := fun T hT => by
      have z : T = P0 := by simpa using hT
      rw [z]; exact ⟨ps, h1, h2⟩
    exact ⟨fun h => Stx.mono (P := vDam K l) t e h, fun h => Stx.mono (P := vQ K l.loss) t e h, fun h => Stx.mono (P := vWs K l.w) t e h⟩
  by_cases hf : ∃ x, LPF l.d.rows l.d.cols l.d.A l.d.g x
  · have hgh : l.d.en ≤ l.d.gh l.d.M := (Dt.feasible_iff (Lw.dok O)).mp hf
    have no : ¬ NoX l := fun h => hf.elim fun x hx => h x hx
    -- found
    refine ss_cons (s_setW (i := 5) (we_told (Q := fun v H1 => _) D N.mgN T.isi TB rfl hr hT3 fun H4 sb4 hT4 A5 outer5 s5 H05 f5 c5 hr5 => ?_))
    obtain ⟨m1, m2, m3⟩ := st0 hT3 sb4
    have hTb4 := tb0 hTb3 sb4
    refine we_callX A.lw lam_takes hr5 (ea_cons (P := vDam K l) (ev_v 2 (m1 hd)) (ea_two (P1 := vQ K l.loss) (P2 := vWs K l.w) (ev_v 3 (m2 hl)) (ev_v 4 (m3 hw)))) fun vs H5 e5 ⟨v1, r, ev, h1, v2, v3, er, h2, h3⟩ => ⟨l, v1, v2, v3, by rw [ev, er], h1, h2, h3, O, hTb4.same e5, fun H' hno _ => (no hno).elim, fun x y v5 H6 b3 x6 hv5 => ?_⟩
    have hd6 := Stx.mono (P := vDam K l) (hTb4.same e5) x6.keep (Stb.mono (P := vDam K l) e5 (m1 hd))
    have hl6 := Stx.mono (P := vQ K l.loss) (hTb4.same e5) x6.keep (Stb.mono (P := vQ K l.loss) e5 (m2 hl))
    have hw6 := Stx.mono (P := vWs K l.w) (hTb4.same e5) x6.keep (Stb.mono (P := vWs K l.w) e5 (m3 hw))
    have hv5 : vQ K (wOf l x) v5 H6 := hv5
    -- if not _law_leak_holds(..)
    refine ss_cons (s_if (k := false) ((et_not (et_val (ev_call (P := vB (!decide (l.d.gh l.d.M < l.d.en))) A.holds (hr.mono (by decide)) (ea_two (P1 := vDam K l) (P2 := vQ K l.loss) (ev_v 2 hd6) (ev_v 3 hl6)) fun vs H7 e7 ⟨a, b, ev, h1, h2⟩ Q kk => ⟨l, a, b, ev, h1, h2, O, fun H8 e8 => kk _ H8 e8 rfl⟩))).is (by
      have : ¬ l.d.gh l.d.M < l.d.en := by grind
      rw [decide_eq_false this]; rfl)) (fun z => nomatch z) fun _ H7 e7 => ss_nil ?_)
    have tb7 := x6.tb.same e7
    -- plan
    refine ss_cons (s_setW (i := 6) (we_callX (W := fun _ _ _ _ => False) A.lp L2.takes0 (hr.mono (by decide)) (ea_cons (P := vDam K l) (ev_v 2 (Stb.mono (P := vDam K l) e7 hd6)) (ea_two (P1 := vQ K l.loss) (P2 := vWs K l.w) (ev_v 3 (Stb.mono (P := vQ K l.loss) e7 hl6)) (ev_v 4 (Stb.mono (P := vWs K l.w) e7 hw6)))) fun vs H8 e8 ⟨v1, r, ev, h1, v2, v3, er, h2, h3⟩ => ⟨l, v1, v2, v3, by rw [ev, er], h1, h2, h3, O, tb7.same e8, fun H' hno _ => (no hno).elim, fun x' y' v8 H9 b3' x9 hv8 => ?_⟩))
    have e68 := e7.trans e8
    have tb8 := tb7.same e8
    have hd9 := Stx.mono (P := vDam K l) tb8 x9.keep (Stb.mono (P := vDam K l) e68 hd6)
    have hl9 := Stx.mono (P := vQ K l.loss) tb8 x9.keep (Stb.mono (P := vQ K l.loss) e68 hl6)
    have hw9 := Stx.mono (P := vWs K l.w) tb8 x9.keep (Stb.mono (P := vWs K l.w) e68 hw6)
    have hv9 := Stx.mono (P := vQ K (wOf l x)) tb8 x9.keep (Stb.mono e68 hv5)
    have hv8 : vTQ K l.d.M (l.d.rel x') v8 H9 := hv8
    obtain ⟨dd, B, f1, f2, f3⟩ := rel_fr O b3'
    have pk := plan_ok O b3'
    have hwe := w_eq O b3' b3
    refine ss_cons (s_if (k := false) (et_or3 ((et_not (et_val (ev_lis A.isr (hr.mono (by decide)) (ev_v 5 hv9) (w_fr O b3)))).is rfl)
      ((et_not (et_val (ev_call (P := vB true) A.plan (hr.mono (by decide)) (ea_cons (P := vDam K l) (ev_v 2 hd9) (ea_two (P1 := vQ K l.loss) (P2 := vTQ K l.d.M (l.d.rel x')) (ev_v 3 hl9) (ev_v 6 hv8))) fun vs H10 e10 ⟨v1, r, ev, h1, v2, v3, er, h2, h3⟩ Q kk => ⟨l, _, _, v1, v2, v3, by rw [ev, er], h1, h2, h3, O, pk, fun H11 e11 => kk _ H11 e11 rfl⟩))).is rfl)
      ((et_neQ (hu_of64 hr) (ev_call (P := vQ K (wOf l x')) A.worth (hr.mono (by decide)) (ea_two (P1 := vWs K l.w) (P2 := vTQ K l.d.M (l.d.rel x')) (ev_v 4 hw9) (ev_v 6 hv8)) fun vs H10 e10 ⟨v1, v2, ev, h1, h2⟩ Q kk => ⟨l, dd, _, v1, v2, ev, h1, h2, O, B, f1, fun v11 H11 e11 h11 => kk v11 H11 e11 h11⟩) (ev_v 5 hv9)).is (by rw [hwe]; simp))) (fun z => nomatch z) fun _ H10 e10 => ss_nil ?_)
    -- return _law_leak_bound(.., leak_prices(..)) == found
    have tb10 := x9.tb.same e10
    have hd10 := Stb.mono (P := vDam K l) e10 hd9
    have hl10 := Stb.mono (P := vQ K l.loss) e10 hl9
    have hw10 := Stb.mono (P := vWs K l.w) e10 hw9
    have hv10 := Stb.mono (P := vQ K (wOf l x)) e10 hv9
    obtain ⟨fb, fdb, Gb, hmb, hkb, hbb⟩ := A.bound.ex
    refine ss_one (ws_of (ps_ret we_self) (we_of (pe_cmpR (op_eqD (hu_of64 hr)) we_self we_self (nomark _)) ?_))
    refine we_of (pe_call Gb (hr.mono (by decide)) rfl hmb hkb hbb .nil pass0 (pa_cons we_self (pa_cons we_self (pa_cons we_self (pa_cons we_self pa_nil)))) (by decide) rfl rfl) ?_
    refine (ev_v 2 hd10).go fun w1 H11 e11 g1 => (ev_v 3 (Stb.mono e11 hl10)).go fun w2 H12 e12 g2 => (ev_v 4 (Stb.mono (P := vWs K l.w) (e11.trans e12) hw10)).go fun w3 H13 e13 g3 => ?_
    have e1013 := (e11.trans e12).trans e13
    have tb13 := tb10.same e1013
    refine we_callX (W := fun _ _ _ _ => False) A.lr L2.takes0 (hr.mono (by decide)) (ea_cons (P := vDam K l) (ev_v 2 (Stb.mono (P := vDam K l) e1013 hd10)) (ea_two (P1 := vQ K l.loss) (P2 := vWs K l.w) (ev_v 3 (Stb.mono (P := vQ K l.loss) e1013 hl10)) (ev_v 4 (Stb.mono (P := vWs K l.w) e1013 hw10)))) fun vs H14 e14 ⟨v1, r, ev, h1, v2, v3, er, h2, h3⟩ => ⟨l, v1, v2, v3, by rw [ev, er], h1, h2, h3, O, tb13.same e14, fun H' hno _ => (no hno).elim, fun x2 y2 w4 H15 b32 x15 g4 => ?_⟩
    have tb14 := tb13.same e14
    have g1 := Stx.mono (P := vDam K l) tb14 x15.keep (Stb.mono (P := vDam K l) ((e12.trans e13).trans e14) g1)
    have g2 := Stx.mono (P := vQ K l.loss) tb14 x15.keep (Stb.mono (P := vQ K l.loss) (e13.trans e14) g2)
    have g3 := Stx.mono (P := vWs K l.w) tb14 x15.keep (Stb.mono (P := vWs K l.w) e14 g3)
    have hv15 := Stx.mono (P := vQ K (wOf l x)) tb14 x15.keep (Stb.mono (e1013.trans e14) hv10)
    obtain ⟨dd2, B2, p1, p2, p3⟩ := rel_fr O b32
    obtain ⟨_, hnn, _⟩ := Dt.optimum (Lw.dok O) b32.f b32.d b32.e
    refine ⟨l, dd2, fun j => 0 - y2 j, w1, w2, w3, w4, rfl, g1, g2, g3, g4, O, B2, hnn, p2, fun w5 H16 e16 g5 => ?_⟩
    refine (ev_v 5 (Stb.mono e16 hv15)).go fun w6 H17 e17 g6 => ?_
    have hb : l.d.bound (fun j => 0 - y2 j) = wOf l x := w_bound O b3 b32
    refine ⟨_, _, dp_q (Stb.mono e17 g5), dp_q g6, by rfl, by rfl, ?_⟩
    rw [eqv_q, hb, decide_eq_true rfl]
    exact k H17
  · have hgh : ¬ l.d.en ≤ l.d.gh l.d.M := fun h => hf ((Dt.feasible_iff (Lw.dok O)).mpr h)
    have no : NoX l := fun x hx => hf ⟨x, hx⟩
    refine ss_cons (s_setW (i := 5) (we_told (Q := fun v H1 => _) D N.mgN T.isi TB rfl hr hT3 fun H4 sb4 hT4 A5 outer5 s5 H05 f5 c5 hr5 => ?_))
    obtain ⟨m1, m2, m3⟩ := st0 hT3 sb4
    have hTb4 := tb0 hTb3 sb4
    refine we_callX A.lw lam_takes hr5 (ea_cons (P := vDam K l) (ev_v 2 (m1 hd)) (ea_two (P1 := vQ K l.loss) (P2 := vWs K l.w) (ev_v 3 (m2 hl)) (ev_v 4 (m3 hw)))) fun vs H5 e5 ⟨v1, r, ev, h1, v2, v3, er, h2, h3⟩ => ⟨l, v1, v2, v3, by rw [ev, er], h1, h2, h3, O, hTb4.same e5, fun H6 hno x6 σ' => ⟨rfl, rfl, ?_⟩, fun x y v5 H6 b3 x6 hv5 => (no x b3.f).elim⟩
    have tb5 := hTb4.same e5
    have hd6 := Stx.mono (P := vDam K l) tb5 x6.keep (Stb.mono (P := vDam K l) e5 (m1 hd))
    have hl6 := Stx.mono (P := vQ K l.loss) tb5 x6.keep (Stb.mono (P := vQ K l.loss) e5 (m2 hl))
    have hw6 := Stx.mono (P := vWs K l.w) tb5 x6.keep (Stb.mono (P := vWs K l.w) e5 (m3 hw))
    have hT6 := tab tb5 x6.keep (hT4.ext e5)
    refine ss_cons (s_if (k := true) ((et_not (et_val (ev_call (P := vB (!decide (l.d.gh l.d.M < l.d.en))) A.holds (hr.mono (by decide)) (ea_two (P1 := vDam K l) (P2 := vQ K l.loss) (ev_v 2 hd6) (ev_v 3 hl6)) fun vs H7 e7 ⟨a, b, ev, h1, h2⟩ Q kk => ⟨l, a, b, ev, h1, h2, O, fun H8 e8 => kk _ H8 e8 rfl⟩))).is (by
      have : l.d.gh l.d.M < l.d.en := by grind
      rw [decide_eq_true this]; rfl)) (fun _ H7 e7 => ?_) fun z => nomatch z)
    -- return found == 'no plan' and told(..) == 'no plan'
    refine ss_one (ws_of (ps_ret we_self) (we_of (pe_and (pe_cmpR op_eq we_self we_self (nomark _)) (pe_one (pe_cmpR op_eq we_self we_self (nomark _)))) ?_))
    refine (ev_v 5 (P := vE (.str "no plan")) rfl).go fun w1 H8 e8 g1 => ev_s.go fun w2 H9 e9 g2 => ?_
    cases g1
    cases g2
    refine ⟨rfl, true, by simp, ?_⟩
    have e79 := (e7.trans e8).trans e9
    have tb9 := x6.tb.same e79
    have hT9 := hT6.ext e79
    refine we_told (Q := fun v H1 => _) D N.mgN T.isi TB rfl hr hT9 fun H10 sb10 hT10 A5 outer5 s5 H05 f5 c5 hr5 => ?_
    obtain ⟨m4, m5, m6⟩ := st0 hT9 sb10
    have hTb10 := tb0 tb9 sb10
    refine we_callX A.lr lam_takes hr5 (ea_cons (P := vDam K l) (ev_v 2 (m4 (Stb.mono (P := vDam K l) e79 hd6))) (ea_two (P1 := vQ K l.loss) (P2 := vWs K l.w) (ev_v 3 (m5 (Stb.mono (P := vQ K l.loss) e79 hl6))) (ev_v 4 (m6 (Stb.mono (P := vWs K l.w) e79 hw6))))) fun vs H11 e11 ⟨v1, r, ev, h1, v2, v3, er, h2, h3⟩ => ⟨l, v1, v2, v3, by rw [ev, er], h1, h2, h3, O, hTb10.same e11, fun H12 hno x12 σ' => ⟨rfl, rfl, ?_⟩, fun x y v5 H6 b3 x6 hv5 => (no x b3.f).elim⟩
    refine ev_s.go fun w3 H13 e13 g3 => ?_
    cases g3
    exact ⟨rfl, k H13⟩
end
end Dw
set_option Elab.async false
set_option linter.all false
set_option maxRecDepth 100000
set_option maxHeartbeats 4000000
set_option pp.maxSteps 300
/-! generators: their number never shrinks -/
namespace Dw
open PySem PySem.Spec PyProof.Rows L2
theorem runs_gens {M : Model} {Γ : PySem.Ctx} {p : Pos} {t : Sem Fin} {fs : List Frame} {s s' : Shared} {e : End} (h : Runs M Γ p t fs s e s') : s.gens.size ≤ s'.gens.size := by
  induction h <;> (try simp only [Shared.setGen, Array.size_setIfInBounds, Array.size_push] at *) <;> omega
theorem wakes_gens {M : Model} {Γ : PySem.Ctx} {p : Pos} {g : Nat} {r : Resume} {s s' : Shared} {res : GenResult} (h : Wakes M Γ p g r s res s') : s.gens.size ≤ s'.gens.size := by
  have key : ∀ {Γ : PySem.Ctx} {p : Pos} {t : Sem Fin} {fs : List Frame} {e : End} {s1 : Shared} {x : GenState}, Runs M Γ p t fs (s.setGen g .running) e s1 → s.gens.size ≤ (s1.setGen g x).gens.size := fun hr => by
    have := runs_gens hr
    simpa only [Shared.setGen, Array.size_setIfInBounds] using this
  unfold Wakes at h
  split at h
  · exact h.elim
  · split at h
    · obtain ⟨_, _, hr, _, _, rfl⟩ := h
      exact key hr
    · rw [h.2]; simp [Shared.setGen]
    · rw [h.2]; simp [Shared.setGen]
  · obtain ⟨_, _, hr, _, _, rfl⟩ := h
    exact key hr
  · rw [h.2]; simp [Shared.setGen]
  · rw [h.2]; simp [Shared.setGen]
theorem wp_gens {α : Type} (M : Model) (Γ : PySem.Ctx) (n : Nat) (t : Sem α) : ∀ (Q : α → Pos → Shared → Prop) (E : Value → Pos → Shared → Prop) (p : Pos) (s : Shared), n ≤ s.gens.size → Sem.wp M Γ t Q E p s →
    Sem.wp M Γ t (fun a p' s' => n ≤ s'.gens.size ∧ Q a p' s') (fun e p' s' => n ≤ s'.gens.size ∧ E e p' s') p s := by
  induction t with
  | pure a => exact fun Q E p s hn h => ⟨hn, h⟩
  | raise e => exact fun Q E p s hn h => ⟨hn, h⟩
  | unsupported _ => exact fun Q E p s _ h => h
  | finish _ => exact fun Q E p s _ h => h
  | register _ _ => exact fun Q E p s _ h => h
  | yield _ _ _ _ => exact fun Q E p s _ h => h
  | fork _ _ => exact fun Q E p s _ h => h
  | await _ _ _ _ _ => exact fun Q E p s _ h => h
  | rule _ k ih => exact fun Q E p s hn h => ih () Q E p s hn h
  | «at» p' k ih => exact fun Q E p s hn h => ih () Q E p' s hn h
  | point _ k ih => exact fun Q E p s hn h => ih () Q E p s hn h
  | load a _ k ih => exact fun Q E p s hn ⟨o, ho, h⟩ => ⟨o, ho, ih o Q E p s hn h⟩
  | update a _ f k ih => exact fun Q E p s hn h => ⟨h.1, ih () Q E p _ hn h.2⟩
  | loadIfAlive a k ih => exact fun Q E p s hn h => ih _ Q E p s hn h
  | alloc o k ih => exact fun Q E p s hn h => ih _ Q E p _ hn h
  | fresh k ih => exact fun Q E p s hn h => ih _ Q E p _ hn h
  | ask k ih => exact fun Q E p s hn h => ih _ Q E p s hn h
  | choose src m k ih => exact fun Q E p s hn h => ⟨h.1, ih _ Q E p _ hn h.2⟩
  | os q _ k ih => exact fun Q E p s hn h => ih _ Q E p _ hn h
  | call c hd _ _ k ih => exact fun Q E p s hn ⟨r, s', hr, h⟩ => ⟨r, s', hr, ih r Q E p s' (Nat.le_trans hn (runs_gens hr)) h⟩
  | handled own k ih => exact fun Q E p s hn h => ih _ Q E p s hn h
  | genState g k ih => exact fun Q E p s hn ⟨st, hs, h⟩ => ⟨st, hs, ih _ Q E p s hn h⟩
  | newGen c k ih => exact fun Q E p s hn h => ih _ Q E p _ (by simp only [Array.size_push]; omega) h
  | resume g r _ k ih => exact fun Q E p s hn ⟨res, s', hw, h⟩ => ⟨res, s', hw, ih res Q E p s' (Nat.le_trans hn (wakes_gens hw)) h⟩
  | stack k ih => exact fun Q E p s hn h => ih _ Q E p s hn h
  | thread k ih => exact fun Q E p s hn h => ih _ Q E p s hn h
theorem wpAny_gens {α : Type} {M : Model} {A : Around} {s : Shared} {t : Sem α} {Q : α → Shared → Prop} {E : Value → Shared → Prop} {n : Nat} (hn : n ≤ s.gens.size) (h : wpAny M A t Q E s) :
    wpAny M A t (fun a s' => n ≤ s'.gens.size ∧ Q a s') (fun e s' => n ≤ s'.gens.size ∧ E e s') s := fun Γ p hΓ => wp_gens M Γ n t _ _ p s hn (h Γ p hΓ)
end Dw
set_option Elab.async false
set_option linter.all false
set_option maxRecDepth 100000
set_option maxHeartbeats 4000000
set_option pp.maxSteps 300
/-! all(.. for x in ..) whose element may call defs -/
namespace Dw
open PySem PySem.Spec PyProof.Rows L2
/-- the context of a generator expression's turns -/
def genCx (X : Cx) (A : Around) (s : Shared) (H : Hp) (cenv : Env) (fp : List Addr) : Cx :=
  { X with A := A, s_0 := s, H_0 := H, env := cenv, outer := X.stack, stack := cenv :: X.stack, ex := fp, fn := fun _ => false, calm := true, pn := [], xe := fun _ _ => False }
theorem Inv.withGens {X : Cx} {pins : List (Addr × Obj)} {σ : L2.St} {H : Hp} {s : Shared} {g' : Array GenState} (I : Inv X pins σ H s) (h : AllBare g') : Inv X pins σ H { s with gens := g' } :=
  ⟨I.ok, I.os, h, I.base, I.loc, I.cell, I.free, I.freeC, I.pin, I.hok, I.len⟩
theorem bare_set {a : Array GenState} {g : Nat} {x : GenState} (h : AllBare a) (hx : x.bare = true) : AllBare (a.setIfInBounds g x) := fun y hy => by
  obtain ⟨i, hi, rfl⟩ := Array.mem_iff_getElem.mp hy
  have hi' : i < a.size := by simpa using hi
  rw [Array.getElem_setIfInBounds hi']
  split
  · exact hx
  · exact h _ (Array.getElem_mem hi')
/-- a generator's turns -/
structure Gn where
  X : Cx
  A : Around
  s4 : Shared
  H4 : Hp
  cenv : Env
  fp : List Addr
  it : Addr
  a : Addr
  og : Obj
  g : Nat
  σ : L2.St
  ix : Nat
  n : Nat
  tn : Nat → Heap → Prop
  J : Nat → Hp → Prop
def Gn.cx (G : Gn) : Cx := genCx G.X G.A G.s4 G.H4 G.cenv G.fp
/-- ahead of turn i -/
structure GS (G : Gn) (i : Nat) (o : Option V) (H : Hp) (s : Shared) : Prop where
  I : Inv G.cx [(G.a, G.og)] (G.σ.set G.ix o) H s
  t : G.tn i s.heap
  n : ∀ b ∈ G.fp, H b = none
  j : G.J i H
  z : G.g < s.gens.size
def GsY (G : Gn) : Protocol := fun m s₀ v s kap => v = .bool true ∧ (∃ o H, GS G (G.n - m) o H s) ∧ ∀ s'' o H, GS G (G.n - m) o H s'' → kap (.send .none) s''
/-- its end -/
def GsE (G : Gn) (s : Shared) : Prop := ∃ o H, Inv G.cx [(G.a, G.og)] (G.σ.set G.ix o) H s ∧ G.J G.n H ∧ G.g < s.gens.size
def GsR (G : Gn) : GenEnd := fun m s₀ r s => r = .ok .next ∧ (m = 0 ∧ GsE G s)
section
variable {G : Gn} {Jt : It} {elt iter : Expr} {x : Str} {px gpos : Pos} {scope : Scope} {te : TE}
abbrev genE (elt iter : Expr) (x : Str) (px gpos : Pos) (scope : Scope) : Expr := .GeneratorExp elt [⟨.Name x px, iter, [], 0⟩] scope gpos
theorem gen_seg {Ag : Around} (hA : G.A = Ag.over (.compLoop (genE elt iter x px gpos scope) 0 (.ref G.it) .none G.cenv) []) (hsc : G.cenv.scope = scope) (hco : scope.isCoroutine = false)
    (T : Turn G.X.prog G.X.w G.X.K (.Name x px) Jt G.fp G.it G.tn) (hap : ∀ b ∈ G.fp, G.a ≠ b) (pg : PG G.cx (.Name x px) (gName G.ix)) (pe : PE G.cx elt te)
    (hgo : ∀ i H, i < G.n → G.J i H → Jt.go i H) (hst : ∀ H, G.J G.n H → Jt.stop G.n H)
    (step : ∀ i H v H', i < G.n → G.J i H → Jt.yld i H v H' → te (G.σ.set G.ix (some v)) H' fun y H'' => y = .bl true ∧ G.J (i + 1) H'') :
    ∀ (k i : Nat) (s₀ s : Shared) (o : Option V) (H : Hp), G.n - i = k → i ≤ G.n → GS G i o H s →
      Seg (model G.X.prog G.X.w) Ag (GsR G) (GsY G) (G.n - i) s₀ (.compLoop (genE elt iter x px gpos scope) 0 (.ref G.it) .none G.cenv) ((model G.X.prog G.X.w).den (.compLoop (genE elt iter x px gpos scope) 0 (.ref G.it) .none G.cenv)) [] s := by
  have stat : ∀ {i : Nat} {o : Option V} {H : Hp} {s : Shared}, GS G i o H s → ∀ b ∈ G.fp, FpOk G.cx [(G.a, G.og)] H b := fun {i o H s} S b hb =>
    ⟨S.n b hb, (S.I.ok.exf b hb).1, S.I.ok.exfs b hb, .inl hb, fun x c e => (S.I.ok.exf b hb).2 x c e, fun p hp => by
      have e : p = (G.a, G.og) := by simpa [Gn.cx, genCx] using hp
      rw [e]; exact hap b hb⟩
  intro k
  induction k with
  | zero =>
    intro i s₀ s o H hk hi S
    have hin : i = G.n := by omega
    subst hin
    show Seg _ Ag _ _ _ s₀ _ ((compTurn (genE elt iter x px gpos scope) 0 (.ref G.it) .none G.cenv).onRaise (leaving G.cenv)) [] s
    rw [compTurn_gen, Sem.onRaise_eq_wrap]
    refine seg_bind_wrap (wpAny_standAt ?_)
    refine seg_bind_wrap ?_
    rw [← hA]
    have td := T.done G.cx rfl rfl rfl rfl G.n [(G.a, G.og)] s _ H (fun _ _ => False) S.I (stat S) S.t (hst H S.j)
    refine wpAny_mono (wpAny_gens (n := s.gens.size) (Nat.le_refl _) td) (fun r s1 h1 => ?_) fun e s' z => z.2.elim
    obtain ⟨hz, rfl, I1⟩ := h1
    exact seg_end (.ok .next) ⟨rfl, by omega, o, H, I1, S.j, Nat.lt_of_lt_of_le S.z hz⟩
  | succ k ih =>
    intro i s₀ s o H hk hi S
    have hlt : i < G.n := by omega
    show Seg _ Ag _ _ _ s₀ _ ((compTurn (genE elt iter x px gpos scope) 0 (.ref G.it) .none G.cenv).onRaise (leaving G.cenv)) [] s
    rw [compTurn_gen, Sem.onRaise_eq_wrap]
    refine seg_bind_wrap (wpAny_standAt ?_)
    refine seg_bind_wrap ?_
    rw [← hA]
    have ti := T.item G.cx rfl rfl rfl rfl i [(G.a, G.og)] s _ H (fun _ _ => False) S.I (stat S) S.t (hgo i H hlt S.j)
    refine wpAny_mono (wpAny_gens (n := s.gens.size) (Nat.le_refl _) ti) (fun r s1 h1 => ?_) fun e s' z => z.2.elim
    obtain ⟨hz1, u, rfl, h1⟩ := h1
    refine seg_bind_wrap ?_
    rw [← hA]
    refine wpAny_mono (wpAny_gens (n := s.gens.size) hz1 h1) (fun _ s2 h2 => ?_) fun e s' z => z.2.elim
    obtain ⟨hz2, v, H2, I2, rv, y2, t2, n2⟩ := h2
    have f2 : ∀ b ∈ G.fp, FpOk G.cx [(G.a, G.og)] H2 b := fun b hb => ⟨n2 b hb, (stat S b hb).2⟩
    have I2' := I2.pinned f2 (T.obj _ _ t2)
    refine seg_bind_wrap ?_
    rw [← hA]
    refine wpAny_mono (wpAny_gens (n := s.gens.size) hz2 (pg.run _ s2 _ H2 v u (fun σ' H' => σ' = G.σ.set G.ix (some v) ∧ H' = H2) I2' rv ⟨by rw [List.set_set], rfl⟩)) (fun _ s3 h3 => ?_) fun e s' z => z.2.elim
    obtain ⟨hz3, σ3, H3, I3, e3, e3'⟩ := h3
    subst e3 e3'
    refine seg_bind_wrap (wpAny_tests_nil ?_)
    simp only [if_true]
    have hy : ∀ v, yieldOut G.cenv v = yieldValue v := fun v => by simp only [yieldOut, hsc, hco, Bool.false_eq_true, if_false]
    simp only [hy]
    rw [Sem.bind_eq_wrap', Sem.bind_eq_wrap', Sem.wrap_wrap, Sem.wrap_wrap]
    refine seg_wrap ?_
    rw [← hA]
    refine wpAny_mono (wpAny_gens (n := s.gens.size) hz3 (pe.run _ s3 _ H3 _ I3 (step i H v H3 hlt S.j y2))) (fun w s4 h4 => ?_) fun e s' z => z.2.elim
    obtain ⟨hz4, v4, H4, I4, r4, e4, j4⟩ := h4
    subst e4
    have r4 : w = .bool true := r4
    subst r4
    have pin4 : ∀ b ∈ G.fp, ∀ o, s2.heap.get? b = some o → s4.heap.get? b = some o ∧ H4 b = none := fun b hb o e =>
      let z := I4.pin (b, o) (List.mem_append_right _ (List.mem_append_right _ (mem_pinsAt hb e)))
      ⟨z.1, z.2.1⟩
    have S4 : GS G (i + 1) (some v) H4 s4 := ⟨I4.unpinned, T.keep _ _ _ t2 fun b hb o e => (pin4 b hb o e).1, fun b hb => by
      obtain ⟨o, e, _⟩ := T.obj _ _ t2 b hb
      exact (pin4 b hb o e).2, j4, Nat.lt_of_lt_of_le S.z hz4⟩
    have e1 : G.n - i = (G.n - (i + 1)) + 1 := by omega
    have e2 : G.n - (G.n - (i + 1)) = i + 1 := by omega
    rw [e1]
    refine seg_at (seg_yield rfl rfl rfl ⟨rfl, ⟨some v, H4, by rw [e2]; exact S4⟩, fun s'' o'' H'' S'' => ?_⟩)
    rw [e2] at S''
    exact seg_again rfl (ih (i + 1) s'' s'' o'' H'' (by omega) hlt S'')
end
end Dw
set_option Elab.async false
set_option linter.all false
set_option maxRecDepth 100000
set_option maxHeartbeats 4000000
set_option pp.maxSteps 300
/-! all(.. for x in ..): the walk -/
namespace Dw
open PySem PySem.Spec PyProof.Rows L2
/-- ahead of turn i, the generator asleep -/
def GQ (G : Gn) (Ag : Around) (i : Nat) (s : Shared) : Prop := (∃ o H, GS G i o H s) ∧ ∃ gs, s.gens[G.g]? = some gs ∧ ∀ s'' o H, GS G i o H s'' → gs.Goes (model G.X.prog G.X.w) Ag (GsR G) (GsY G) (G.n - i) (.send .none) s''
/-- the generator's object -/
def GOb (G : Gn) : Prop := ∃ nm qn, G.og.cls = .type "generator" ∧ G.og.data = .fields #[.int G.g 0, nm, qn] ∧ G.og.slots = #[]
section
variable {G : Gn}
theorem GS.isGen {i : Nat} {o : Option V} {H : Hp} {s : Shared} (S : GS G i o H s) (hO : GOb G) : s.heap.IsGen G.a G.g := by
  obtain ⟨nm, qn, h1, h2, h3⟩ := hO
  exact ⟨G.og, nm, qn, (S.I.pin (G.a, G.og) (by simp)).1, h1, h2, h3⟩
theorem GS.set {i : Nat} {o : Option V} {H : Hp} {s : Shared} (S : GS G i o H s) {x : GenState} (hx : x.bare = true) : GS G i o H (s.setGen G.g x) :=
  ⟨Inv.withGens S.I (bare_set S.I.bare hx), S.t, S.n, S.j, by show G.g < (s.gens.setIfInBounds G.g x).size; rw [Array.size_setIfInBounds]; exact S.z⟩
theorem setGen_at {s : Shared} {g : Nat} {x : GenState} (h : g < s.gens.size) : (s.setGen g x).gens[g]? = some x := by simp [Shared.setGen, h]
theorem gen_item {A1 : Around} {i : Nat} {s : Shared} {E : Value → Shared → Prop} (hO : GOb G) (hh : A1.handled = none) (hroom : A1.depth < recursionLimit) (hi : i < G.n) (h : GQ G A1.in1 i s) :
    wpAny (model G.X.prog G.X.w) A1 (pyNext (.ref G.a)) (fun r s' => r = some (.bool true) ∧ GQ G A1.in1 (i + 1) s') E s := by
  obtain ⟨⟨o, H, S⟩, gs, hgs, hgo⟩ := h
  obtain ⟨m, hm⟩ : ∃ m, G.n - i = m + 1 := ⟨G.n - i - 1, by omega⟩
  rw [hm] at hgo
  refine wpAny_pyNext_genexpQ (P := fun m s₀ s₁ => m = 0 ∧ GsE G s₁) (Y := GsY G) (n := m + 1) hh S.I.nolimit hroom (S.isGen hO) hgs (hgo _ o H (S.set rfl)) (fun v s₁ gs' hb hv => ?_) (fun s₁ hp h' hk => ?_)
  · obtain ⟨rfl, ⟨o1, H1, S1⟩, kap⟩ := hv
    have e : G.n - (m + 1 - 1) = i + 1 := by omega
    rw [e] at S1 kap
    refine ⟨rfl, ⟨o1, H1, S1.set hb⟩, gs', setGen_at S1.z, fun s'' o2 H2 S2 => ?_⟩
    have e2 : G.n - (i + 1) = m := by omega
    rw [e2]
    exact kap s'' o2 H2 S2
  · exact absurd hp.1 (Nat.succ_ne_zero m)
theorem gen_done {A1 : Around} {s : Shared} {E : Value → Shared → Prop} (hO : GOb G) (hh : A1.handled = none) (hroom : A1.depth < recursionLimit) (h : GQ G A1.in1 G.n s) :
    wpAny (model G.X.prog G.X.w) A1 (pyNext (.ref G.a)) (fun r s' => r = none ∧ ∃ o H, Inv G.cx [(G.a, G.og)] (G.σ.set G.ix o) H s' ∧ G.J G.n H) E s := by
  obtain ⟨⟨o, H, S⟩, gs, hgs, hgo⟩ := h
  rw [Nat.sub_self] at hgo
  refine wpAny_pyNext_genexpQ (P := fun m s₀ s₁ => m = 0 ∧ GsE G s₁) (Y := GsY G) (n := 0) hh S.I.nolimit hroom (S.isGen hO) hgs (hgo _ o H (S.set rfl)) (fun v s₁ gs' hb hv => ?_) (fun s₁ hp h' hk => ?_)
  · obtain ⟨rfl, ⟨o1, H1, S1⟩, kap⟩ := hv
    exact False.elim (kap _ o1 H1 S1)
  · obtain ⟨_, o1, H1, I1, j1, z1⟩ := hp
    exact ⟨rfl, o1, H1, (Inv.withGens (g' := s₁.gens.setIfInBounds G.g .finished) I1 (bare_set I1.bare rfl)).kept (h' := h') (t' := s₁.toks) hk, j1⟩
end
theorem all_loop {prog : Program} {w : World} {A : Around} {R : Result → Shared → Prop} {a : Addr} {n : Nat} {I : Nat → Shared → Prop}
    (turn : ∀ i s (E : Value → Shared → Prop), i < n → I i s → wpAny (model prog w) A.in1 (pyNext (.ref a)) (fun r s' => r = some (.bool true) ∧ I (i + 1) s') E s)
    (fin : ∀ s (E : Value → Shared → Prop), I n s → wpAny (model prog w) A.in1 (pyNext (.ref a)) (fun r s' => r = none ∧ R (.ok (.ret (.bool true))) s') E s) :
    ∀ (k i : Nat) (s : Shared), n - i = k → i ≤ n → I i s → codeAny (model prog w) A (.builtin "all.loop" ⟨[.ref a], []⟩) R s := by
  intro k
  induction k with
  | zero =>
    intro i s hk hi hI
    have hin : i = n := by omega
    subst hin
    refine codeAny_builtin F.entry_all_loop ?_
    rw [Around.under_plainId F.plain_all_loop _]
    show wpAny _ A.in1 (pyNext (.ref a) >>= _) _ _ s
    refine wpAny_bind (wpAny_mono (fin s _ hI) (fun r s1 h1 => ?_) fun _ _ e => e)
    obtain ⟨rfl, h1⟩ := h1
    exact wpAny_bind (wpAny_rule (wpAny_pure h1))
  | succ k ih =>
    intro i s hk hi hI
    have hlt : i < n := by omega
    refine codeAny_builtin F.entry_all_loop ?_
    rw [Around.under_plainId F.plain_all_loop _]
    show wpAny _ A.in1 (pyNext (.ref a) >>= _) _ _ s
    refine wpAny_bind (wpAny_mono (turn i s _ hlt hI) (fun r s1 h1 => ?_) fun _ _ e => e)
    obtain ⟨rfl, h1⟩ := h1
    refine wpAny_bind (wpAny_holding (wpAny_truthy_bool ?_))
    refine wpAny_bind (wpAny_letGo ?_)
    simp only [if_true]
    exact wpAny_pure ⟨plainId_quiet F.plain_all_loop _, ih (i + 1) _ (by omega) hlt h1⟩
theorem call_allG {prog : Program} {w : World} {A : Around} {a : Addr} {g n : Nat} {I : Nat → Shared → Prop} {Q : Value → Shared → Prop} {E : Value → Shared → Prop} {s : Shared} (hg : s.heap.IsGen a g) (hI : I 0 s)
    (turn : ∀ i s (E : Value → Shared → Prop), i < n → I i s → wpAny (model prog w) A.in1 (pyNext (.ref a)) (fun r s' => r = some (.bool true) ∧ I (i + 1) s') E s)
    (fin : ∀ s (E : Value → Shared → Prop), I n s → wpAny (model prog w) A.in1 (pyNext (.ref a)) (fun r s' => r = none ∧ Q (.bool true) s') E s) :
    wpAny (model prog w) A (call (.builtin "all") [.ref a]) Q E s := by
  refine call_function_tree F.kind_all F.plain_all F.entry_all (F.args_all1 _) ?_
  unfold Builtin.«all»
  refine wpAny_bind (m := oneArg "all" _) (wpAny_pure ?_)
  refine wpAny_bind (wpAny_pyIter_gen hg ?_)
  exact wpAny_pure ⟨plainId_quiet F.plain_all_loop _, all_loop turn fin n 0 s rfl (Nat.zero_le _) hI⟩
end Dw
set_option Elab.async false
set_option linter.all false
set_option maxRecDepth 100000
set_option maxHeartbeats 4000000
set_option pp.maxSteps 300
/-! all(.. for x in ..) -/
namespace Dw
open PySem PySem.Spec PyProof.Rows L2
theorem over_frames {A : Around} {c : Code} {l : List Env} {ce : Env} (h : A.frames = some l) (hc : c.envs = [ce]) : (A.over c []).frames = some (ce :: l) := by
  unfold Around.over
  simp [h, hc, pushEnvs, envsOf]
section
variable {X : Cx} {pins : List (Addr × Obj)} {σ : L2.St} {H : Hp} {s : Shared}
theorem gen_start {A : Around} {scope : Scope} {own : List (Str × Nat)} {fp : List Addr} {code : Value} {p : Addr × Obj} {m : Str → Option Value} {s6 : Shared} (I : Inv X pins σ H s) (ok : BlkOk X.N X.env.scope scope own) (hcell : ∀ y ∈ scope.names, y.2 ≠ .cell) (hN : X.N.Nodup)
    (hfp : ∀ b ∈ fp, FpOk X pins H b ∧ b < s.heap.objs.size) (hd : A.handled = none) (hfr : A.frames = some (genEnv scope (cloFrom X.env.cells scope.names []) s.heap.objs.size code builtinsNs X.env :: X.stack))
    (hns : s6.heap.Ns s.heap.objs.size m) (kp : ∀ b o, s.heap.get? b = some o → s6.heap.get? b = some o) (hp1 : s6.heap.get? p.1 = some p.2) (hp2 : s.heap.objs.size < p.1) (hp3 : ∀ v, p.2.data ≠ .cell v) (hos : s6.os = s.os) (hg : AllBare s6.gens) :
    Inv (genCx X A s H (genEnv scope (cloFrom X.env.cells scope.names []) s.heap.objs.size code builtinsNs X.env) fp) [p] (wipe σ (own.map (·.2))) H s6 := by
  have hfree : ∀ y ∈ scope.names, y.2 = .free → ∃ c, X.env.cells.lookup y.1 = some c := fun y hy e => by
    rcases ok.free y hy e with k | k
    · exact I.ok.has _ (.inl k)
    · exact I.ok.has _ (.inr k)
  have cm : ∀ {y c}, (cloFrom X.env.cells scope.names []).lookup y = some c → X.env.cells.lookup y = some c := fun {y c} e => by
    rcases cloFrom_mem (PySem.mem_of_lookup e) with hm | ⟨h1, h2⟩
    · cases hm
    · obtain ⟨c1, hc⟩ := hfree _ h1 rfl
      have hc : X.env.cells.lookup y = some c1 := hc
      have e2 : c = c1 := by rw [h2, hc]; rfl
      rw [e2]
      exact hc
  have look : ∀ {y}, scope.names.lookup y = some .free → ∃ c, (cloFrom X.env.cells scope.names []).lookup y = some c := fun {y} hl => by
    have hy : (y, NameKind.free) ∈ scope.names := PySem.mem_of_lookup hl
    exact mem_lookup (cloFrom_has (cells := X.env.cells) (acc := []) hy)
  refine ⟨⟨I.ok.mod, ok.kind, I.ok.glob, rfl, Nat.le_refl _, fun y z c e1 e2 => I.ok.inj y z c (cm e1) (cm e2), fun y hy => ?_, fun y c z _ => ?_, fun _ => hd, hfr, .inr ⟨rfl, rfl⟩, fun b hb => ⟨Nat.ne_of_lt (hfp b hb).2, fun y c e z => ?_⟩, I.bs, Nat.le_trans I.ok.bsz I.sz, fun b o e hb => ?_,
      fun b hb z => ?_, I.stack, I.stkFree⟩,
    hos, hg, Un.kept kp, ⟨m, hns, fun i y v e1 e2 e3 => ?_⟩, fun y c e => ?_, I.hok.fresh (Nat.le_refl _), fun y c e => ?_, fun q hq => ?_, I.hok.kept kp, by rw [wipe_length]; exact I.len⟩
  · have hy : scope.names.lookup y = some .cell ∨ scope.names.lookup y = some .free := hy
    rcases hy with hy | hy
    · exact absurd rfl (hcell _ (PySem.mem_of_lookup hy))
    · exact look hy
  · have z : false = true := z
    cases z
  · exact (hfp b hb).1.2.2.2.2.1 y c (cm e) z
  · rcases (hfp b hb).1.2.2.2.1 with z | z
    · exact I.ok.noex b o e z
    · exact absurd (Nat.lt_of_lt_of_le (Heap.lt_size e) (Nat.le_trans I.ok.bsz z)) (Nat.lt_irrefl _)
  · rcases List.mem_cons.mp (I.stkSub b z) with z | z
    · exact (hfp b hb).1.2.1 z
    · exact (hfp b hb).1.2.2.1 z
  · obtain ⟨e2, hne⟩ := wipe_some e2
    have e3 : Vis scope y := e3
    have no : ∀ k', scope.names.lookup y = some k' → ¬ (k' = .local ∨ k' = .cell) := fun k' e hh => by
      rcases ok.own _ (PySem.mem_of_lookup e) hh with e' | e'
      · obtain ⟨p, hp, hpy⟩ := List.mem_map.mp e'
        have e3 := ok.ix p hp
        have : p.1 = y := hpy
        rw [this] at e3
        exact hne (List.mem_map.mpr ⟨p, hp, nodup_ix hN e3 e1⟩)
      · exact e' (List.mem_of_getElem? e1)
    rcases e3 with k | k | k
    · exact absurd (.inl rfl) (no _ k)
    · exact absurd (.inr rfl) (no _ k)
    · obtain ⟨m, hn, hl⟩ := I.loc
      have hvis : Vis X.env.scope y := (ok.free _ (PySem.mem_of_lookup k) rfl).elim (fun k => .inr (.inl k)) (fun k => .inr (.inr k))
      obtain ⟨w', r, q⟩ := hl i y v e1 e2 hvis
      obtain ⟨c2, h2⟩ := look k
      refine ⟨w', r, .inr ⟨.inr k, c2, h2, ?_⟩⟩
      have c1 := cm h2
      rcases q with ⟨k', _⟩ | ⟨_, c3, e', z⟩
      · have k' : X.env.scope.names.lookup y = some .local := k'
        rcases ok.free _ (PySem.mem_of_lookup k) rfl with k2 | k2 <;> rw [show X.env.scope.names.lookup y = _ from k2] at k' <;> cases k'
      · rw [c1] at e'
        cases e'
        exact z.keeps kp
  · obtain ⟨w', z⟩ := I.cell y c (cm e)
    exact ⟨w', z.keeps kp⟩
  · exact I.freeC y c (cm e)
  · have e : q = p := by simpa [genCx] using hq
    subst e
    exact ⟨hp1, I.hok.fresh (Nat.le_of_lt hp2), Nat.ne_of_gt hp2, fun z => by
      rcases List.mem_cons.mp (I.stkSub q.1 z) with z | z
      · have := I.lt
        rw [← z] at this
        exact Nat.lt_irrefl _ (Nat.lt_trans hp2 this)
      · exact I.nofs (Nat.le_of_lt hp2) z, hp3⟩
/-- all(elt for x in iter), each element true -/
def tAllG (P : Addr) (ix : Nat) (wi : TI) (te : TE) : TE := fun σ H Q => wi σ H fun Jt H1 => GxR.TabG H1 P ∧ ∀ H2, GxR.Tabbed P H1 H2 → ∃ (n : Nat) (J : Nat → Hp → Prop), J 0 H2 ∧ (∀ i H, i < n → J i H → Jt.go i H) ∧ (∀ H, J n H → Jt.stop n H ∧ Q (.bl true) H) ∧
  ∀ i H v H', i < n → J i H → Jt.yld i H v H' → te (σ.set ix (some v)) H' fun y H'' => y = .bl true ∧ J (i + 1) H''
theorem pe_all {c P : Addr} {elt iter : Expr} {x : Str} {px p pos gpos : Pos} {scope : Scope} {ix k : Nat} {wi : TI} {te : TE} (hr : Room (k + 1) X.A) (hg : Gl X "all") (hm : X.mg "all" = none) (hb : bootBuiltins "all" = some (.builtin "all")) (TB : GxR.TabB X.base X.mg c P) (hcode : X.env.code = .ref c) (hN : X.N.Nodup)
    (ok : BlkOk X.N X.env.scope scope [(x, ix)]) (hcell : ∀ y ∈ scope.names, y.2 ≠ .cell) (hx : scope.names.lookup x = some .local) (h0 : scope.names.lookup (".0" : Str) = some NameKind.local) (hco : scope.isCoroutine = false) (hi : PI X (.Name x px) iter wi)
    (he : ∀ (A : Around) (s : Shared) (H : Hp) (cl : List (Str × Addr)) (C : Addr) (code : Value) (fp : List Addr), Room k A → PE (genCx X A s H (genEnv scope cl C code builtinsNs X.env) fp) elt te)
    (hs : ∀ v, genFold iter X.env v = pure v)
    (hst : starEach [genE elt iter x px gpos scope] X.env = (false, eval (genE elt iter x px gpos scope) X.env) :: starEach [] X.env := by rfl) :
    PE X (.Call (.Name "all" p) [genE elt iter x px gpos scope] [] pos) (tAllG P ix wi te) := by
  refine ⟨fun pins s σ H Q I h => ?_⟩
  have hfree : ∀ y ∈ scope.names, y.2 = .free → ∃ c, X.env.cells.lookup y.1 = some c := fun y hy e => by
    rcases ok.free y hy e with k | k
    · exact I.ok.has _ (.inl k)
    · exact I.ok.has _ (.inr k)
  refine wpAny_Call_Name_kw (ld_blt I hg hm hb ?_)
  refine PyProof.Rows.callWith_builtin1 ?_ hst (by rfl)
  rw [hst]
  show wpAny _ _ (spliced ((false, eval (genE elt iter x px gpos scope) X.env) :: backTo pos (starEach [] X.env))) _ _ s
  refine Calls.spliced_cons (wpAny_GeneratorExp_make hco (closure_ok hfree) hcell h0 ok.kind (by have := hr.dp; omega) ?_ hs)
  refine thn (hi.run pins s σ H _ I h) fun xv s1 hx1 => thn hx1 fun itv s2 h2 => ?_
  obtain ⟨it, fp, tn, Jt, H2, rfl, I2, T, st2, f2, ⟨ps, hP, ht⟩, q⟩ := h2
  refine ⟨I2.nolimit, ?_⟩
  have hP2 : s2.heap.get? P = some { cls := .none, data := .fields ps } := I2.hok P _ hP
  have cd : PySem.W.CodeHd s2.heap c P := TB.code.keeps fun b u e => I2.bk b u e
  have sz2 : ∀ b ∈ fp, b < s2.heap.objs.size := fun b hb => by
    obtain ⟨o, e, _⟩ := T.obj _ _ st2 b hb
    exact Heap.lt_size e
  have nP : ∀ b ∈ fp, b ≠ P := fun b hb z => by
    have := (f2 b hb).1
    rw [z, hP] at this
    cases this
  have cont : ∀ (code : Value) (h3 : Heap) (tk : Nat) (ps' : Array Value), Heap.ExtBut P s2.heap h3 → s2.heap.objs.size ≤ h3.objs.size → h3.get? P = some { cls := .none, data := .fields ps' } → (∃ more, ps' = ps ++ more) → TriplesOk ps'.toList →
      wpAny (model X.prog X.w) X.A (builtinsFor X.env.globals X.env.builtins) (fun bi s₄ => ∀ h', h'.Ns s₄.heap.objs.size (fun y => if y = ".0" then some (Value.ref it) else none) → Heap.SameBut s₄.heap.objs.size (s₄.heap.push { cls := .type "frame", data := .dict #[] }) h' →
          wpAny (model X.prog X.w) X.A (spliced (backTo pos (starEach [] X.env))) (fun vs s' => wpAny (model X.prog X.w) X.A (call (.builtin "all") (.ref h'.objs.size :: vs)) (EP X pins σ Q) X.xe s') X.xe { s₄ with
            gens := s₄.gens.push (.fresh (.compStart (genE elt iter x px gpos scope) 0 (.ref it) .none (genEnv scope (cloFrom X.env.cells scope.names []) s₄.heap.objs.size code bi X.env))),
            toks := s₄.toks + 1 + 1 + 1,
            heap := h'.push { cls := .type "generator", data := .fields #[.int s₄.gens.size 0, .str "<genexpr>" (s₄.toks + 1), .str (X.env.qual ++ "<genexpr>") (s₄.toks + 1 + 1)] } }) X.xe { s2 with heap := h3, toks := tk } := by
    intro code h3 tk ps' hx3 hsz hP3 hmore ht3
    obtain ⟨more, rfl⟩ := hmore
    obtain ⟨bm, ob, e1, e2, e3, e4, e5, e6, e7, e8⟩ := TB.bm
    have keep3 : ∀ b u, b ≠ P → s2.heap.get? b = some u → h3.get? b = some u := fun b u hb e => hx3 b u hb e
    refine wpAny_builtinsFor (m := X.mg) (by rw [I2.ok.glob]; exact (I2.mod.glob.keeps I2.bk).extBut hx3 TB.gP) e1 e2 (keep3 _ _ e4 (I2.bk _ _ e5)) e6 e7 e8 ?_
    have I4 : Inv X pins σ (upd H2 P (.tbl (ps ++ more))) { s2 with heap := h3, toks := tk } := GxR.inv_tab (t' := tk) (g' := s2.gens) (d' := s2.drawn) I2 hP keep3 hP3 I2.bare
    obtain ⟨n, J, j0, jgo, jst, jel⟩ := q _ ⟨⟨_, upd_same, ht3⟩, fun b hb => upd_ne hb⟩
    generalize hH4 : upd H2 P (.tbl (ps ++ more)) = H4 at I4 j0
    generalize hs4 : ({ s2 with heap := h3, toks := tk } : Shared) = s4 at I4
    have h43 : s4.heap = h3 := by rw [← hs4]
    intro h' hns hsb
    have hsz' : h'.objs.size = s4.heap.objs.size + 1 := by rw [hsb.1, Heap.size_push]
    have kp4 : ∀ b o, s4.heap.get? b = some o → h'.get? b = some o := fun b o e => hsb.extBut b o (Nat.ne_of_lt (Heap.lt_size e)) (Heap.get?_push_of_some _ e)
    generalize hog : ({ cls := .type "generator", data := .fields #[.int s4.gens.size 0, .str "<genexpr>" (s4.toks + 1), .str (X.env.qual ++ "<genexpr>") (s4.toks + 1 + 1)] } : Obj) = og
    generalize hce : genEnv scope (cloFrom X.env.cells scope.names []) s4.heap.objs.size code builtinsNs X.env = ce
    generalize hs6 : ({ s4 with gens := s4.gens.push (.fresh (.compStart (genE elt iter x px gpos scope) 0 (.ref it) .none ce)), toks := s4.toks + 1 + 1 + 1, heap := h'.push og } : Shared) = s6
    have kp6 : ∀ b o, s4.heap.get? b = some o → s6.heap.get? b = some o := fun b o e => by rw [← hs6]; exact Heap.get?_push_of_some _ (kp4 b o e)
    have f4 : ∀ b ∈ fp, FpOk X pins H4 b ∧ b < s4.heap.objs.size := fun b hb => by
      refine ⟨⟨?_, (f2 b hb).2⟩, by rw [h43]; exact Nat.lt_of_lt_of_le (sz2 b hb) hsz⟩
      rw [← hH4, upd_ne (nP b hb)]
      exact (f2 b hb).1
    have st4 : tn 0 s4.heap := T.keep _ _ _ st2 fun b hb o e => by rw [h43]; exact keep3 b o (nP b hb) e
    have I6 : Inv (genCx X (X.A.in1.in1.over (.compLoop (genE elt iter x px gpos scope) 0 (.ref it) .none ce) []) s4 H4 ce fp) [(h'.objs.size, og)] (σ.set ix none) H4 s6 := by
      subst hce
      refine gen_start (own := [(x, ix)]) (m := fun y => if y = ".0" then some (Value.ref it) else none) I4 ok hcell hN f4 hr.hd ?_ ?_ kp6 (by rw [← hs6]; exact Heap.get?_push_size _ (by rw [← hog]; rfl)) (by rw [hsz']; exact Nat.lt_succ_self _) (fun v z => by rw [← hog] at z; cases z) (by rw [← hs6]) (by rw [← hs6]; exact I4.bare.push rfl)
      · have hf : X.A.in1.in1.frames = some X.stack := I4.env0.in1.in1.frames
        exact over_frames hf rfl
      · rw [← hs6]
        exact hns.push _
    have gz : s4.gens.size < s6.gens.size := by rw [← hs6]; simp
    have hrA : Room k (X.A.in1.in1.over (.compLoop (genE elt iter x px gpos scope) 0 (.ref it) .none ce) []) := by
      refine ⟨hr.hd, ?_, ?_⟩
      · have := hr.dp
        show X.A.depth + 0 + 1 + 3 * k + 5 < _
        omega
      · have := hr.un
        show X.A.units + 1 + 1 + 0 + 3 + 16 * k + 200 < _
        omega
    have hgen : s6.gens[s4.gens.size]? = some (.fresh (.compStart (genE elt iter x px gpos scope) 0 (.ref it) .none ce)) := by rw [← hs6]; exact Array.getElem?_push_size ..
    have pe : PE (genCx X (X.A.in1.in1.over (.compLoop (genE elt iter x px gpos scope) 0 (.ref it) .none ce) []) s4 H4 ce fp) elt te := by
      subst hce
      exact he _ _ _ _ _ _ _ hrA
    have pg : PG (genCx X (X.A.in1.in1.over (.compLoop (genE elt iter x px gpos scope) 0 (.ref it) .none ce) []) s4 H4 ce fp) (.Name x px) (gName ix) := by
      subst hce
      exact pg_name hN (ok.ix (x, ix) (by simp)) (.inl hx) (.inr hx)
    have hcs : ce.scope = scope := by rw [← hce]; rfl
    let G : Gn := ⟨X, X.A.in1.in1.over (.compLoop (genE elt iter x px gpos scope) 0 (.ref it) .none ce) [], s4, H4, ce, fp, it, h'.objs.size, og, s4.gens.size, σ, ix, n, tn, J⟩
    have hO : GOb G := ⟨_, _, by rw [show G.og = og from rfl, ← hog], by rw [show G.og = og from rfl, ← hog], by rw [show G.og = og from rfl, ← hog]⟩
    have S0 : GS G 0 none H4 s6 := ⟨I6, T.keep _ _ _ st4 fun b _ o e => kp6 b o e, fun b hb => (f4 b hb).1.1, j0, gz⟩
    have hap : ∀ b ∈ G.fp, G.a ≠ b := fun b hb z => by
      have h1 : b < s4.heap.objs.size := (f4 b hb).2
      have z : h'.objs.size = b := z
      rw [← z, hsz'] at h1
      exact Nat.lt_irrefl _ (Nat.lt_of_succ_lt h1)
    have seg := gen_seg (G := G) (Jt := Jt) (elt := elt) (iter := iter) (x := x) (px := px) (gpos := gpos) (scope := scope) (Ag := X.A.in1.in1) rfl hcs hco T hap pg pe jgo (fun H h => (jst H h).1) jel
    have Q0 : GQ G X.A.in1.in1 0 s6 := by
      refine ⟨⟨none, H4, S0⟩, _, hgen, fun s'' o H'' S'' => ⟨rfl, ?_⟩⟩
      show Seg _ X.A.in1.in1 _ _ _ s'' _ ((compStart (genE elt iter x px gpos scope) 0 (.ref it) .none ce).onRaise (leaving ce)) [] s''
      have loop := seg n 0 s'' s'' o H'' (Nat.sub_zero _) (Nat.zero_le _) S''
      unfold compStart
      rw [Sem.onRaise_eq_wrap]
      show Seg _ X.A.in1.in1 _ _ _ s'' _ ((ask >>= _).wrap _ _ _ _) [] s''
      refine seg_bind_wrap (wpAny_askSetting ?_)
      split
      · exact seg_again rfl loop
      · first
          | exact seg_bind_wrap (wpAny_rule (seg_bind_wrap (wpAny_standAt (seg_bind_wrap (T.self _ 0 s'' _ _ S''.t (seg_again rfl loop))))))
          | (refine seg_bind_wrap (wpAny_rule ?_); show Seg _ X.A.in1.in1 _ _ _ s'' _ ((standAt iter.pos >>= _).wrap _ _ _ _) [] s''; exact seg_bind_wrap (wpAny_standAt (seg_bind_wrap (T.self _ 0 s'' _ _ S''.t (seg_again rfl loop)))))
    refine Calls.spliced_nil ?_
    refine call_allG (n := n) (I := fun i s => GQ G X.A.in1.in1 i s) (S0.isGen hO) Q0 (fun i s E hi h => gen_item hO hr.hd (by have := hr.dp; show X.A.depth < _; omega) hi h) fun s E h => ?_
    refine wpAny_mono (gen_done (E := E) hO hr.hd (by have := hr.dp; show X.A.depth < _; omega) h) (fun r s' hq => ?_) fun _ _ e => e
    obtain ⟨rfl, o, H', I', j'⟩ := hq
    refine ⟨rfl, .bl true, H', I4.call' (ch := fp) I'.os I'.base I'.hok I'.bare fun b hb => ⟨(f4 b hb).1.2.2.2.1, (f4 b hb).1.2.1, (f4 b hb).1.2.2.2.2.1, (f4 b hb).1.2.2.2.2.2⟩, rfl, (jst H' j').2⟩
  cases hf : codeAmong gpos ps.toList with
  | none =>
    refine wpAny_genexprCodeX hcode (cd.code hP2 ht) (cd.tab hP2) hf fun c' h' tk hx hge hlt hco' _ htab' _ => ?_
    obtain ⟨o1, vs, f1, tf, fl, tg, inF, tx, tt, op, _, _, _, _, _, _, _, _, _, htr, _⟩ := hco'
    exact cont _ h' tk _ hx (Nat.le_trans hge (Nat.le_of_lt hlt)) htab'.2 ⟨_, rfl⟩ htr
  | some cv =>
    refine wpAny_genexprCode_hit hcode (cd.code hP2 ht) hf ?_
    exact cont cv s2.heap s2.toks ps (Heap.ExtBut.refl _ _) (Nat.le_refl _) hP2 ⟨#[], by simp⟩ ht
end
end Dw
set_option Elab.async false
set_option linter.all false
set_option maxRecDepth 100000
set_option maxHeartbeats 4000000
set_option pp.maxSteps 300
/-! tools for what is asked of a dam, a loss, worths -/
namespace Dw
open PySem PySem.Spec PyProof.Rows L2 RZ
section
variable {X : Cx} {e a b c d : Expr} {es : List Expr} {σ : L2.St} {H : Hp} {pos p : Pos} {P : V → Hp → Prop} {Ts : List Addr} {k l : Bool} {D : Ends}
/-- such a value, such a test; tables may grow -/
def WEX (Ts : List Addr) (X : Cx) (e : Expr) (σ : L2.St) (H : Hp) (P : V → Hp → Prop) : Prop := ∀ Q : VK, (∀ v H2, XT Ts H H2 → P v H2 → Q v H2) → WE X e σ H Q
def WTX (Ts : List Addr) (X : Cx) (e : Expr) (σ : L2.St) (H : Hp) (k : Bool) : Prop := ∀ Q : Bool → Hp → Prop, (∀ H2, XT Ts H H2 → Q k H2) → WT X e σ H Q
theorem EV.x (t : Tb Ts H) (h : EV X e σ H P) : WEX Ts X e σ H P := fun Q q => h.go fun v H2 e p => q v H2 (XT.of t e) p
theorem ET.x (t : Tb Ts H) (h : ET X e σ H k) : WTX Ts X e σ H k := fun Q q => h.go fun H2 e => q H2 (XT.of t e)
theorem wtx_not (h : WTX Ts X a σ H k) : WTX Ts X (.UnaryOp .Not a pos) σ H (!k) := fun Q q => wt_of (pt_not wt_self) (h _ fun H2 e => q H2 e)
theorem wtx_val (h : WEX Ts X e σ H (vB k)) (he : ∀ whole, isTrue e X.env whole = (do let v ← whole; standAt e.pos; holding [v] (truthy v)) := by intro _; rfl) : WTX Ts X e σ H k :=
  fun Q q => wt_of (pt_val we_self he) (h _ fun v H2 e p => ⟨k, p, q H2 e⟩)
theorem wtx_or2 (h1 : WTX Ts X a σ H false) (h2 : ∀ H1, XT Ts H H1 → WTX Ts X b σ H1 false) : WTX Ts X (.BoolOp .Or [a, b] pos) σ H false :=
  fun Q q => wt_of (PW.pt (pw_or wt_self (pw_or1 wt_self))) (h1 _ fun H1 e1 => h2 H1 e1 _ fun H2 e2 => q H2 (e1.trans e2))
theorem wtx_or3 (h1 : WTX Ts X a σ H false) (h2 : ∀ H1, XT Ts H H1 → WTX Ts X b σ H1 false) (h3 : ∀ H1, XT Ts H H1 → WTX Ts X c σ H1 false) : WTX Ts X (.BoolOp .Or [a, b, c] pos) σ H false :=
  fun Q q => wt_of (PW.pt (pw_or wt_self (pw_or wt_self (pw_or1 wt_self)))) (h1 _ fun H1 e1 => h2 H1 e1 _ fun H2 e2 => h3 H2 (e1.trans e2) _ fun H3 e3 => q H3 ((e1.trans e2).trans e3))
theorem wex_and3 (h1 : WEX Ts X a σ H (vB true)) (h2 : ∀ H1, XT Ts H H1 → WEX Ts X b σ H1 (vB true)) (h3 : ∀ H1, XT Ts H H1 → WEX Ts X c σ H1 (vB true)) : WEX Ts X (.BoolOp .And [a, b, c] pos) σ H (vB true) :=
  fun Q q => we_of (pe_and we_self (pe_and we_self (pe_one we_self))) (h1 _ fun x H1 e1 ex => ⟨true, ex, h2 H1 e1 _ fun y H2 e2 ey => ⟨true, ey, h3 H2 (e1.trans e2) _ fun z H3 e3 ez => q z H3 ((e1.trans e2).trans e3) ez⟩⟩)
theorem s_ifX (hc : WTX Ts X c σ H false) (h : ∀ H', XT Ts H H' → D.nx σ H') {A : List Stmt} : WS X (.If c A [] pos) D σ H :=
  ws_of (ps_if wt_self wss_self wss_self) (hc _ fun H' e => ss_nil (h H' e))
theorem s_retX (h : WEX Ts X e σ H P) (q : ∀ v H', XT Ts H H' → P v H' → D.rt v H') : WS X (.Return (some e) pos) D σ H := ws_of (ps_ret we_self) (h _ q)
/-! chains -/
theorem bl_of {p : Prop} [Decidable p] (h : p) : V.bl (decide p) = V.bl true := by rw [decide_eq_true h]
variable {i j n m : Int}
theorem ev_le2 (ha : EV X a σ H (vI i)) (hb : EV X b σ H (vI j)) (hc : EV X c σ H (vI n)) (h1 : i ≤ j) (h2 : j ≤ n) (hm : lastMarks [.LtE, .LtE] [b, c] = false := by with_unfolding_all rfl) : EV X (.Compare a [.LtE, .LtE] [b, c] pos) σ H (vB true) :=
  ev_of (pe_chain op_le op_le we_self we_self we_self hm) fun H1 e1 Q q => ha H1 e1 _ fun x H2 e2 p1 => hb H2 (e1.trans e2) _ fun y H3 e3 p2 => ⟨i, j, p1, p2, true, bl_of h1, by
    rw [if_pos rfl]
    exact hc H3 ((e1.trans e2).trans e3) _ fun z H4 e4 p3 => ⟨j, n, p2, p3, q _ H4 ((e2.trans e3).trans e4) (bl_of h2)⟩⟩
theorem et_le2 (ha : EV X a σ H (vI i)) (hb : EV X b σ H (vI j)) (hc : EV X c σ H (vI n)) (h1 : i ≤ j) (h2 : j ≤ n) (hm : lastMarks [.LtE, .LtE] [b, c] = false := by with_unfolding_all rfl) : ET X (.Compare a [.LtE, .LtE] [b, c] pos) σ H true :=
  et_of (pt_chain op_le op_le we_self we_self we_self hm) fun H1 e1 Q q => ha H1 e1 _ fun x H2 e2 p1 => hb H2 (e1.trans e2) _ fun y H3 e3 p2 => ⟨i, j, p1, p2, true, bl_of h1, by
    rw [if_pos rfl]
    exact hc H3 ((e1.trans e2).trans e3) _ fun z H4 e4 p3 => ⟨j, n, p2, p3, true, bl_of h2, q H4 ((e2.trans e3).trans e4)⟩⟩
/-- a <= b < c <= d, all true -/
theorem et_le3 (ha : EV X a σ H (vI i)) (hb : EV X b σ H (vI j)) (hc : EV X c σ H (vI n)) (hd : EV X d σ H (vI m)) (h1 : i ≤ j) (h2 : j < n) (h3 : n ≤ m) (hm : lastMarks [.LtE, .Lt, .LtE] [b, c, d] = false := by with_unfolding_all rfl) :
    ET X (.Compare a [.LtE, .Lt, .LtE] [b, c, d] pos) σ H true := by
  intro H1 e1 Q q pins s I
  refine isTrue_chain (thn (ha H1 e1 (fun v H2 => v = .int i ∧ Same H1 H2) (fun v H2 e p => ⟨p, e⟩) pins s I) fun v s1 ⟨x, H2, I2, r2, p2, e2⟩ => test_link (thn (hb H2 (e1.trans e2) (fun v H3 => v = .int j ∧ Same H2 H3) (fun v H3 e p => ⟨p, e⟩) pins s1 I2) fun u s2 ⟨y, H3, I3, r3, p3, e3⟩ => ?_)) hm
  refine thn (op_le pins s2 σ H3 x y v u (fun z H' => z = .bl true ∧ H' = H3) I3 r2 r3 ⟨i, j, p2, p3, bl_of h1, rfl⟩) fun d1 s3 ⟨z, H', I4, r4, p4, e4⟩ => ?_
  subst e4
  subst p4
  cases r4
  refine wpAny_truthy_bool (ite_tt (test_link (thn (hc H' ((e1.trans e2).trans e3) (fun v H4 => v = .int n ∧ Same H' H4) (fun v H4 e p => ⟨p, e⟩) pins s3 I4) fun w1 s4 ⟨y2, H4, I5, r5, p5, e5⟩ => ?_)))
  refine thn (op_lt pins s4 σ H4 y y2 u w1 (fun z H' => z = .bl true ∧ H' = H4) I5 r3 r5 ⟨j, n, p3, p5, bl_of h2, rfl⟩) fun d2 s5 ⟨z2, H'', I6, r6, p6, e6⟩ => ?_
  subst e6
  subst p6
  cases r6
  refine wpAny_truthy_bool (ite_tt (test_last (thn (hd H'' (((e1.trans e2).trans e3).trans e5) (fun v H4 => v = .int m ∧ Same H'' H4) (fun v H4 e p => ⟨p, e⟩) pins s5 I6) fun w2 s6 ⟨y3, H5, I7, r7, p7, e7⟩ => ?_)))
  refine thn (op_le pins s6 σ H5 y2 y3 w1 w2 (fun z H' => z = .bl true ∧ H' = H5) I7 r5 r7 ⟨n, m, p5, p7, bl_of h3, rfl⟩) fun d3 s7 ⟨z3, H6, I8, r8, p8, e8⟩ => ?_
  subst e8
  subst p8
  cases r8
  exact wpAny_truthy_bool ⟨H6, I8, q H6 (((e2.trans e3).trans e5).trans e7)⟩
/-- a number of the module -/
def HasI (mg : Str → Option Value) (x : Str) (i : Int) : Prop := ∃ t, mg x = some (.int i t)
theorem ev_gi {x : Str} (h : HasI X.mg x i) (hg : Gl X x := by rfl) (hdb : (x == ("__debug__" : Str)) = false := by decide) : EV X (.Name x pos) σ H (vI i) :=
  let ⟨t, hm⟩ := h
  ev_of (pe_glob (v := V.int i) hg hm ⟨t, rfl⟩ hdb) fun H1 _ Q q => q _ H1 (Same.refl _) rfl
end
/-! ### is_in -/
section
variable {P : Program} {w : World} {K : PySem.W.Frag} {mg : Str → Option Value} {base : Heap}
abbrev sIn : Stmt := top 21
abbrev n3i : List Str := ["value", "least", "most"]
theorem scIn : FnScope n3i n3i (defScope sIn) := ⟨rfl, rfl, rfl, by decide +kernel, rfl, by decide +kernel, by decide +kernel⟩
def spIn : Sp := fun vs H Q _ => ∃ (v lo hi : Int), vs = [.int v, .int lo, .int hi] ∧ lo ≤ v ∧ v ≤ hi ∧ ∀ H', Same H H' → Q (.bl true) H'
theorem ev_and3 {X : Cx} {a b c : Expr} {σ : L2.St} {H : Hp} {pos : Pos} (h1 : EV X a σ H (vB true)) (h2 : EV X b σ H (vB true)) (h3 : EV X c σ H (vB true)) : EV X (.BoolOp .And [a, b, c] pos) σ H (vB true) :=
  ev_of (pe_and we_self (pe_and we_self (pe_one we_self))) fun H1 e1 Q q => h1 H1 e1 _ fun x H2 e2 ex => ⟨true, ex, h2 H2 (e1.trans e2) _ fun y H3 e3 ey => ⟨true, ey, h3 H3 ((e1.trans e2).trans e3) _ fun z H4 e4 ez => q z H4 ((e2.trans e3).trans e4) ez⟩⟩
theorem ok_in {f : Addr} {fd : FuncData} (F : Fun K "is_in" "is_in" sIn f fd) (T : TxL mg) : FnOk P w K mg base CX0 1 f fd n3i spIn := by
  refine F.ok scIn (fun vs H Q E h => ?_) (fun cdv A outer s H vs Q E hr h => ⟨_, wss_self, ?_⟩)
  · obtain ⟨v, lo, hi, rfl, _⟩ := h; rfl
  obtain ⟨v, lo, hi, rfl, h1, h2, k⟩ := h
  refine ss_one (s_ret (P := vB true) (ev_and3 (ev_isi (k := true) (P := vE (.int v)) (T := "int") (t := "int") T.isi (ev_v 0 (P := vE (.int v)) rfl) (ev_ty0 T.int) fun u H1 ev => by rw [show u = _ from ev]; exact .base (.int v))
    (ev_notV (k := false) (ev_isi (k := false) (P := vE (.int v)) (T := "bool") (t := "int") T.isi (ev_v 0 (P := vE (.int v)) rfl) (ev_ty0 T.bool) fun u H1 ev => by rw [show u = _ from ev]; exact .base (.int v)))
    (ev_le2 (ev_v 1 (P := vI lo) rfl) (ev_v 0 (P := vI v) rfl) (ev_v 2 (P := vI hi) rfl) h1 h2)) fun u H1 e1 ev => ?_)
  rw [show u = .bl true from ev]
  exact k H1 e1
abbrev HasIn (P : Program) (w : World) (K : PySem.W.Frag) (mg : Str → Option Value) (base : Heap) : Prop := Has P w K mg base CX0 "is_in" 1 n3i spIn
theorem ev_in {X : Cx} {a b c : Expr} {σ : L2.St} {H : Hp} {p pos : Pos} {v lo hi : Int} (hR : HasIn X.prog X.w X.K X.mg X.base) (hr : Room 1 X.A) (ha : EV X a σ H (vI v)) (hb : EV X b σ H (vI lo)) (hc : EV X c σ H (vI hi)) (h1 : lo ≤ v) (h2 : v ≤ hi) (hg : Gl X "is_in" := by rfl)
    (hs : starEach [a, b, c] X.env = (false, eval a X.env) :: starEach [b, c] X.env := by rfl) (hs1 : starEach [b, c] X.env = (false, eval b X.env) :: starEach [c] X.env := by rfl) (hs2 : starEach [c] X.env = (false, eval c X.env) :: starEach [] X.env := by rfl) (hpl : (backTo pos (starEach [b, c] X.env)).any (·.1) = false := by rfl) :
    EV X (.Call (.Name "is_in" p) [a, b, c] [] pos) σ H (vB true) :=
  ev_call hR hr (ea_cons ha (ea_two hb hc hs1 hs2) hs) (fun vs H1 e1 ⟨x, r, ev, g1, y, z, er, g2, g3⟩ Q k => ⟨v, lo, hi, by rw [ev, er, show x = _ from g1, show y = _ from g2, show z = _ from g3], h1, h2, fun H' e => k _ H' e rfl⟩) hg (by decide) hs hpl
end
end Dw
set_option Elab.async false
set_option linter.all false
set_option maxRecDepth 100000
set_option maxHeartbeats 4000000
set_option pp.maxSteps 300
/-! all(..) as such a value; are_flows, is_piece, are_pieces -/
namespace Dw
open PySem PySem.Spec PyProof.Rows L2 RZ
section
variable {X : Cx} {σ : L2.St} {H : Hp} {Ts : List Addr} {c P : Addr} {elt iter : Expr} {x : Str} {px p pos gpos : Pos} {scope : Scope} {ix k n : Nat} {wi : TI} {f : Nat → V}
theorem xt_tab (t : Tb Ts H) {H' : Hp} (b : GxR.Tabbed P H H') (hP : P ∈ Ts) : XT Ts H H' :=
  ⟨fun a o ha h => by rw [b.2 a (fun z => ha (z ▸ hP))]; exact h, fun T hT => by
    by_cases e : T = P
    · rw [e]; exact b.1
    · obtain ⟨ps, h1, h2⟩ := t T hT
      exact ⟨ps, by rw [b.2 T e]; exact h1, h2⟩⟩
/-- what such a walk yields, whatever the tables -/
def IW (Ts : List Addr) (wi : TI) (σ : L2.St) (H : Hp) (n : Nat) (f : Nat → V) : Prop := ∀ R : It → Hp → Prop, (∀ Jt H1, Same H H1 → (∀ H', XT Ts H1 H' → (∀ i, i < n → Jt.go i H' ∧ ∀ v H'', Jt.yld i H' v H'' → H'' = H' ∧ v = f i) ∧ Jt.stop n H') → R Jt H1) → wi σ H R
theorem wex_all (t : Tb Ts H) (hP : P ∈ Ts) (hr : Room (k + 1) X.A) (hm : X.mg "all" = none) (TB : GxR.TabB X.base X.mg c P) (hcode : X.env.code = .ref c) (hN : X.N.Nodup) (hi : PI X (.Name x px) iter wi) (hw : IW Ts wi σ H n f)
    (ok : BlkOk X.N X.env.scope scope [(x, ix)]) (hsc : (scope.names.all fun y => !decide (y.2 = .cell)) = true) (hx : scope.names.lookup x = some .local) (h0 : scope.names.lookup (".0" : Str) = some NameKind.local) (hco : scope.isCoroutine = false)
    (hel : ∀ (A : Around) (s : Shared) (H0 : Hp) (cl : List (Str × Addr)) (C : Addr) (code : Value) (fp : List Addr), Room k A → ∀ i H', i < n → XT Ts H H' → WEX Ts (genCx X A s H0 (genEnv scope cl C code builtinsNs X.env) fp) elt (σ.set ix (some (f i))) H' (vB true))
    (hg : Gl X "all" := by rfl) (hs : ∀ v, genFold iter X.env v = pure v := by intro _; rfl) (hst : starEach [genE elt iter x px gpos scope] X.env = (false, eval (genE elt iter x px gpos scope) X.env) :: starEach [] X.env := by rfl) :
    WEX Ts X (.Call (.Name "all" p) [genE elt iter x px gpos scope] [] pos) σ H (vB true) := by
  intro Q q
  have hcell : ∀ y ∈ scope.names, y.2 ≠ .cell := fun y hy => by
    have := List.all_eq_true.mp hsc y hy
    simpa using this
  refine we_of (pe_all (k := k) (te := fun σ H Q => ∀ (A : Around) (s : Shared) (H0 : Hp) (cl : List (Str × Addr)) (C : Addr) (code : Value) (fp : List Addr), Room k A → WE (genCx X A s H0 (genEnv scope cl C code builtinsNs X.env) fp) elt σ H Q) hr hg hm (by decide +kernel) TB hcode hN ok hcell hx h0 hco hi
    (fun A s H0 cl C code fp hrA => ⟨fun pins s1 σ1 H1 Q1 I h => h A s H0 cl C code fp hrA pins s1 I⟩) hs hst) ?_
  refine hw _ fun Jt H1 e1 hJ => ?_
  have t1 := t.same e1
  refine ⟨t1 P hP, fun H2 tb => ?_⟩
  have x12 := xt_tab t1 tb hP
  refine ⟨n, fun _ H' => XT Ts H1 H', x12, fun i H' hi j => ((hJ H' j).1 i hi).1, fun H' j => ⟨(hJ H' j).2, q _ H' ((XT.of t e1).trans j) rfl⟩, fun i H' v H'' hi j y => ?_⟩
  obtain ⟨rfl, rfl⟩ := ((hJ H' j).1 i hi).2 v H'' y
  intro A s H0 cl C code fp hrA
  exact hel A s H0 cl C code fp hrA i H'' hi ((XT.of t e1).trans j) _ fun v H3 e3 ev => ⟨ev, j.trans e3⟩
theorem iw_tup {xs : List V} (t : Tb Ts H) (ha : EV X iter σ H (vT X.K xs)) : IW Ts (iTup X.K (WE X iter)) σ H xs.length (fun i => xs.getD i .non) := by
  intro R hR
  refine ha H (Same.refl H) _ fun v H1 e1 ⟨a, ev, hq⟩ => ⟨a, ev, ⟨xs, hq⟩, hR _ H1 e1 fun H' x' => ?_⟩
  have hq' := xtT (t.same e1) x'.keep hq
  refine ⟨fun i hi => ⟨⟨xs, _, hq', getD_of (d := .non) hi⟩, fun v H'' ⟨e, h⟩ => ⟨e, ?_⟩⟩, ⟨xs, hq', Nat.le_refl _⟩⟩
  have := h xs hq'
  rw [getD_of (d := .non) hi] at this
  exact (Option.some.inj this).symm
theorem iw_rng {a : Expr} {z : Int} (ha : EV X a σ H (vI z)) (hz : z.toNat = n) (h1 : -(2 ^ 60) ≤ z) (h2 : z < 2 ^ 60) (hs : starEach [a] X.env = (false, eval a X.env) :: starEach [] X.env := by rfl) : IW Ts (iRng1 (tCons (WE X a) tNil)) σ H n (fun i => .int (i : Int)) := by
  intro R hR
  refine ha H (Same.refl H) _ fun v H1 e1 ev => ⟨z, by rw [show v = _ from ev], by omega, by omega, ?_⟩
  refine hR _ H1 e1 fun H' x' => ⟨fun i hi => ⟨by show i < z.toNat; omega, fun v H'' ⟨e, h⟩ => ⟨e, by rw [h]; congr 1; omega⟩⟩, by show z.toNat ≤ n; omega⟩
end
end Dw
set_option Elab.async false
set_option linter.all false
set_option maxRecDepth 100000
set_option maxHeartbeats 4000000
set_option pp.maxSteps 300
/-! are_flows, is_piece, are_pieces -/
namespace Dw
open PySem PySem.Spec PyProof.Rows L2 RZ
structure TxD (mg : Str → Option Value) : Prop extends TxL mg where
  all : mg "all" = none
  enu : mg "enumerate" = none
  mcap : HasI mg "MOST_CAPACITY" 1000
  mflow : HasI mg "MOST_FLOW" 1000
  mmon : HasI mg "MOST_MONTHS_dams" 12
  mpart : HasI mg "MOST_PART" 100
  mamt : HasI mg "MOST_AMOUNT" 1000
  mpcs : HasI mg "MOST_PIECES_worths" 3
  mlm : HasI mg "MOST_MONTHS_leakworths" 5
  mlp : HasI mg "MOST_PIECES_leakworths" 2
section
variable {P : Program} {w : World} {K : PySem.W.Frag} {mg : Str → Option Value} {base : Heap} {Ts : List Addr} {c T : Addr}
abbrev sFl : Stmt := top 22
abbrev nFl : List Str := ["value", "one"]
theorem scFl : FnScope nFl ["value"] (defScope sFl) := ⟨rfl, rfl, rfl, by decide +kernel, rfl, by decide +kernel, by decide +kernel⟩
def spFl (K : PySem.W.Frag) (Ts : List Addr) : Sp := fun vs H Q _ => ∃ (v : V) (ns : List Nat), vs = [v] ∧ vT K (ns.map fun n : Nat => V.int (n : Int)) v H ∧ 1 ≤ ns.length ∧ ns.length ≤ 12 ∧ (∀ n ∈ ns, n ≤ 1000) ∧ Tb Ts H ∧ ∀ H', XT Ts H H' → Q (.bl true) H'
theorem ok_flows {f : Addr} {fd : FuncData} (F : FunC K "are_flows" "are_flows" sFl f fd c) (D : TxD mg) (TB : GxR.TabB base mg c T) (hT : T ∈ Ts) (hI : HasIn P w K mg base) : FnOk P w K mg base CX0 3 f fd ["value"] (spFl K Ts) := by
  refine F.ok scFl (fun vs H Q E h => ?_) (fun A outer s H vs Q E hr h => ⟨_, wss_self, ?_⟩)
  · obtain ⟨v, ns, rfl, _⟩ := h; rfl
  obtain ⟨v, ns, rfl, hv, h1, h2, h3, t, k⟩ := h
  have nd := scFl.nd
  refine ss_cons (s_ifX (Ts := Ts) (wtx_or2 ((wtx_not (wtx_val ((ev_isi (k := true) (P := vT K (ns.map fun n : Nat => V.int (n : Int))) (T := "tuple") (t := "tuple") D.isi (ev_v 0 hv) (ev_ty0 D.tup) fun v H1 ⟨p, ev, h⟩ => by rw [ev]; exact tyx_T h).x t)))) fun H1 x1 => ?_) fun H1 x1 => ss_one (s_retX (Ts := Ts) (P := vB true) ?_ fun v H2 x2 ev => ?_))
  · have hv1 := Stx.mono (P := vT K (ns.map fun n : Nat => V.int (n : Int))) t x1.keep hv
    refine wtx_not (k := true) ((et_le2 (i := 1) (j := (ns.length : Int)) (n := 12) ev_i ((ev_lenT D.len (ev_v 0 hv1)).imp fun v H' _ h => by rw [show v = _ from h]; simp [vE]) (ev_gi D.mmon) (by omega) (by omega)).x x1.tb)
  · have hv1 := Stx.mono (P := vT K (ns.map fun n : Nat => V.int (n : Int))) t x1.keep hv
    refine wex_all (k := 1) (c := c) (P := T) (ix := 1) x1.tb hT hr D.all TB rfl nd (pi_tup we_self) (iw_tup x1.tb (ev_v 0 hv1)) (blkOk_by (N := nFl) (sc := defScope sFl) (own := [("one", 1)]) (by decide +kernel)) (by decide +kernel) (by decide +kernel) (by decide +kernel) rfl fun A2 s2 H0 cl C code fp hrA i H' hi x' => ?_
    have hi' : i < ns.length := by simpa using hi
    have e : (ns.map fun n : Nat => V.int (n : Int)).getD i .non = .int ((ns.getD i 0 : Nat) : Int) := by
      rw [List.getD_eq_getElem?_getD, List.getElem?_map, getD_of (d := 0) hi']; rfl
    exact (ev_in hI hrA (ev_v 1 (P := vI ((ns.getD i 0 : Nat) : Int)) e) ev_i (ev_gi D.mflow) (by omega) (by have := h3 _ (getD_mem (d := 0) hi'); omega)).x x'.tb
  · rw [show v = .bl true from ev]
    exact k H2 (x1.trans x2)
abbrev HasFl (P : Program) (w : World) (K : PySem.W.Frag) (mg : Str → Option Value) (base : Heap) (Ts : List Addr) : Prop := Has P w K mg base CX0 "are_flows" 3 ["value"] (spFl K Ts)
end
end Dw
set_option Elab.async false
set_option linter.all false
set_option maxRecDepth 100000
set_option maxHeartbeats 4000000
set_option pp.maxSteps 300
/-! is_piece, are_pieces -/
namespace Dw
open PySem PySem.Spec PyProof.Rows L2 RZ
section
variable {P : Program} {w : World} {K : PySem.W.Frag} {mg : Str → Option Value} {base : Heap} {Ts : List Addr} {c T : Addr}
theorem ev_eqE {X : Cx} {a b : Expr} {σ : L2.St} {H : Hp} {pos : Pos} {x : V} (ha : EV X a σ H (vE x)) (hb : EV X b σ H (vE x)) (hs : scal x x = true := by rfl) : EV X (.Compare a [.Eq] [b] pos) σ H (vB true) :=
  ev_cmp op_eq ha hb fun x' y' H1 _ p1 p2 Q q => by cases p1; cases p2; exact ⟨hs, q _ H1 (Same.refl _) (bl_of rfl)⟩
abbrev sPc : Stmt := top 34
theorem scPc : FnScope nFl ["value"] (defScope sPc) := ⟨rfl, rfl, rfl, by decide +kernel, rfl, by decide +kernel, by decide +kernel⟩
def spPc (K : PySem.W.Frag) (Ts : List Addr) : Sp := fun vs H Q _ => ∃ (v : V) (a : Nat × Nat), vs = [v] ∧ vPr K a v H ∧ 1 ≤ a.1 ∧ a.1 ≤ 1000 ∧ 1 ≤ a.2 ∧ a.2 ≤ 1000 ∧ Tb Ts H ∧ ∀ H', XT Ts H H' → Q (.bl true) H'
theorem ok_piece {f : Addr} {fd : FuncData} (F : FunC K "is_piece" "is_piece" sPc f fd c) (D : TxD mg) (TB : GxR.TabB base mg c T) (hT : T ∈ Ts) (hI : HasIn P w K mg base) : FnOk P w K mg base CX0 3 f fd ["value"] (spPc K Ts) := by
  refine F.ok scPc (fun vs H Q E h => ?_) (fun A outer s H vs Q E hr h => ⟨_, wss_self, ?_⟩)
  · obtain ⟨v, a, rfl, _⟩ := h; rfl
  obtain ⟨v, a, rfl, hv, h1, h2, h3, h4, t, k⟩ := h
  have nd := scPc.nd
  refine ss_one (s_retX (Ts := Ts) (P := vB true) (wex_and3 ((ev_isi (k := true) (P := vPr K a) (T := "tuple") (t := "tuple") D.isi (ev_v 0 hv) (ev_ty0 D.tup) fun v H1 ⟨p, ev, h⟩ => by rw [ev]; exact tyx_T h).x t) (fun H1 x1 => ?_) fun H1 x1 => ?_) fun v H2 x2 ev => ?_)
  · have hv1 := Stx.mono (P := vPr K a) t x1.keep hv
    exact (ev_eqE (x := .int 2) ((ev_lenT (xs := [V.int (a.1 : Int), .int (a.2 : Int)]) D.len (ev_v 0 hv1)).imp fun v H' _ h => h) ev_i).x x1.tb
  · have hv1 := Stx.mono (P := vPr K a) t x1.keep hv
    refine wex_all (k := 1) (c := c) (P := T) (ix := 1) x1.tb hT hr D.all TB rfl nd (pi_tup we_self) (iw_tup x1.tb (ev_v 0 hv1)) (blkOk_by (N := nFl) (sc := defScope sPc) (own := [("one", 1)]) (by decide +kernel)) (by decide +kernel) (by decide +kernel) (by decide +kernel) rfl fun A2 s2 H0 cl C code fp hrA i H' hi x' => ?_
    have : ∃ z : Int, ([V.int (a.1 : Int), .int (a.2 : Int)] : List V).getD i .non = .int z ∧ 1 ≤ z ∧ z ≤ 1000 := by
      match i, hi with
      | 0, _ => exact ⟨_, rfl, by omega, by omega⟩
      | 1, _ => exact ⟨_, rfl, by omega, by omega⟩
    obtain ⟨z, e, z1, z2⟩ := this
    exact (ev_in hI hrA (ev_v 1 (P := vI z) e) ev_i (ev_gi D.mamt) z1 z2).x x'.tb
  · rw [show v = .bl true from ev]
    exact k H2 x2
abbrev HasPc (P : Program) (w : World) (K : PySem.W.Frag) (mg : Str → Option Value) (base : Heap) (Ts : List Addr) : Prop := Has P w K mg base CX0 "is_piece" 3 ["value"] (spPc K Ts)
/-- a def that may let the tables grow, called -/
theorem wex_call {X : Cx} {e : Expr} {es : List Expr} {σ : L2.St} {H : Hp} {p pos : Pos} {x : Str} {k : Nat} {ps : List Str} {sp : Sp} {R : List V → Hp → Prop} {P : V → Hp → Prop} (F : Has X.prog X.w X.K X.mg X.base CX0 x k ps sp) (hr : Room k X.A) (t : Tb Ts H) (ha : EA X (e :: es) σ H R)
    (h : ∀ vs H1, XT Ts H H1 → R vs H1 → ∀ Q : VK, (∀ v H2, XT Ts H1 H2 → P v H2 → Q v H2) → sp vs H1 Q E0)
    (hg : Gl X x := by rfl) (hdb : (x == ("__debug__" : Str)) = false := by decide) (he : starEach (e :: es) X.env = (false, eval e X.env) :: starEach es X.env := by rfl) (hpl : (backTo pos (starEach es X.env)).any (·.1) = false := by rfl) :
    WEX Ts X (.Call (.Name x p) (e :: es) [] pos) σ H P := fun Q q => we_call F hr ha (fun vs H1 e1 r => h vs H1 (XT.of t e1) r Q fun v H2 e2 pv => q v H2 ((XT.of t e1).trans e2) pv) hg hdb he hpl
abbrev sPcs : Stmt := top 35
abbrev nPcs : List Str := ["value", "one", "k"]
theorem scPcs : FnScope nPcs ["value"] (defScope sPcs) := ⟨rfl, rfl, rfl, by decide +kernel, rfl, by decide +kernel, by decide +kernel⟩
def spPcs (K : PySem.W.Frag) (Ts : List Addr) : Sp := fun vs H Q _ => ∃ (v : V) (ps : List (Nat × Nat)), vs = [v] ∧ vPs K ps v H ∧ ps.length ≤ 2 ∧ (∀ a ∈ ps, 1 ≤ a.1 ∧ a.1 ≤ 9 ∧ 1 ≤ a.2 ∧ a.2 ≤ 9) ∧ (ps.Pairwise fun a b => b.2 < a.2) ∧ Tb Ts H ∧ ∀ H', XT Ts H H' → Q (.bl true) H'
theorem ok_pieces {f : Addr} {fd : FuncData} (F : FunC K "are_pieces" "are_pieces" sPcs f fd c) (D : TxD mg) (TB : GxR.TabB base mg c T) (hT : T ∈ Ts) (hI : HasPc P w K mg base Ts) : FnOk P w K mg base CX0 5 f fd ["value"] (spPcs K Ts) := by
  refine F.ok scPcs (fun vs H Q E h => ?_) (fun A outer s H vs Q E hr h => ⟨_, wss_self, ?_⟩)
  · obtain ⟨v, a, rfl, _⟩ := h; rfl
  obtain ⟨v, ps, rfl, hv, h2, h9, hd, t, k⟩ := h
  have nd := scPcs.nd
  have st : ∀ {H H' : Hp} {v : V}, Tb Ts H → XT Ts H H' → vPs K ps v H → vPs K ps v H' := fun t x h => Stx.mono (P := vPs K ps) t x.keep h
  refine ss_cons (s_ifX (Ts := Ts) (wtx_or3 (wtx_not (k := true) (wtx_val ((ev_isi (k := true) (P := vPs K ps) (T := "tuple") (t := "tuple") D.isi (ev_v 0 hv) (ev_ty0 D.tup) fun v H1 ⟨p, vs, ev, h, _⟩ => by rw [ev]; exact tyx_T h).x t))) (fun H1 x1 => ?_) fun H1 x1 => ?_) fun H1 x1 => ss_one (s_retX (Ts := Ts) (P := vB true) ?_ fun v H2 x2 ev => ?_))
  · exact ((et_gt (ev_lenTl D.len (ev_v 0 (st t x1 hv))) (ev_gi D.mpcs)).is (decide_eq_false (by omega))).x x1.tb
  · obtain ⟨p, vs, rfl, hp, hl, hvs⟩ := st t x1 hv
    refine wtx_not (k := true) (wtx_val ?_)
    refine wex_all (k := 3) (c := c) (P := T) (ix := 1) x1.tb hT hr D.all TB rfl nd (pi_tup we_self) (iw_tup (xs := vs) x1.tb (ev_v 0 (P := vT K vs) ⟨p, rfl, hp⟩)) (blkOk_by (N := nPcs) (sc := defScope sPcs) (own := [("one", 1)]) (by decide +kernel)) (by decide +kernel) (by decide +kernel) (by decide +kernel) rfl fun A2 s2 H0 cl C code fp hrA i H' hi x' => ?_
    have hi' : i < ps.length := by omega
    obtain ⟨u, e1, hu⟩ := hvs i _ (getD_of (d := (0, 0)) hi')
    have e2 : vs.getD i .non = u := by rw [List.getD_eq_getElem?_getD, e1]; rfl
    have b := h9 _ (getD_mem (d := (0, 0)) hi')
    rw [e2]
    exact wex_call hI hrA x'.tb (ea_one (ev_v 1 (P := vPr K (ps.getD i (0, 0))) (Stx.mono (P := vPr K (ps.getD i (0, 0))) x1.tb x'.keep hu))) fun vs2 H3 x3 ⟨v3, ev, h3⟩ Q q => ⟨v3, _, ev, h3, by omega, by omega, by omega, by omega, x3.tb, fun H4 x4 => q _ H4 x4 rfl⟩
  · have hv1 := st t x1 hv
    refine wex_all (k := 3) (c := c) (P := T) (ix := 2) (n := ps.length - 1) x1.tb hT hr D.all TB rfl nd (pi_range1 rfl D.rng (pa_cons we_self pa_nil rfl) rfl) (iw_rng (z := (ps.length : Int) - 1) (ev_sub (ev_lenTl D.len (ev_v 0 hv1)) ev_i) (by omega) (by omega) (by omega) rfl) (blkOk_by (N := nPcs) (sc := defScope sPcs) (own := [("k", 2)]) (by decide +kernel)) (by decide +kernel) (by decide +kernel) (by decide +kernel) rfl fun A2 s2 H0 cl C code fp hrA i H' hi x' => ?_
    have hv2 := st x1.tb x' hv1
    have g1 := getD_of (xs := ps) (d := (0, 0)) (i := i) (by omega)
    have g2 := getD_of (xs := ps) (d := (0, 0)) (i := i + 1) (by omega)
    have lt : (ps.getD (i + 1) (0, 0)).2 < (ps.getD i (0, 0)).2 := by
      have := List.pairwise_iff_getElem.mp hd i (i + 1) (by omega) (by omega) (by omega)
      rw [List.getElem?_eq_getElem (by omega)] at g1 g2
      rw [← Option.some.inj g1, ← Option.some.inj g2]
      exact this
    refine (EV.imp (ev_gt (i := ((ps.getD i (0, 0)).2 : Int)) (j := ((ps.getD (i + 1) (0, 0)).2 : Int)) (ev_ixT (xs := [V.int ((ps.getD i (0, 0)).1 : Int), .int ((ps.getD i (0, 0)).2 : Int)]) (ev_tl (R := vPr K) (xs := ps) (x := ps.getD i (0, 0)) (j := i) (ev_v 0 hv2) (ev_v 2 (P := vI (i : Int)) rfl) g1) ev_i rfl) (ev_ixT (xs := [V.int ((ps.getD (i + 1) (0, 0)).1 : Int), .int ((ps.getD (i + 1) (0, 0)).2 : Int)]) (ev_tl (R := vPr K) (xs := ps) (x := ps.getD (i + 1) (0, 0)) (j := i + 1) (ev_v 0 hv2) ((ev_add (ev_v 2 (P := vI (i : Int)) rfl) ev_i).imp fun v H' _ h => by rw [show v = _ from h]; rfl) g2) ev_i rfl)) fun v H' _ h => by rw [show v = _ from h]; exact bl_of (by omega)).x x'.tb
  · rw [show v = .bl true from ev]
    exact k H2 (x1.trans x2)
end
end Dw
set_option Elab.async false
set_option linter.all false
set_option maxRecDepth 100000
set_option maxHeartbeats 4000000
set_option pp.maxSteps 300
/-! is_ratio, need_dam, need_loss -/
namespace Dw
open PySem PySem.Spec PyProof.Rows L2 RZ
section
variable {P : Program} {w : World} {K : PySem.W.Frag} {mg : Str → Option Value} {base : Heap} {Ts : List Addr} {c T : Addr}
/-! ### is_ratio -/
abbrev sIr : Stmt := top 16
theorem scIr : FnScope nFl ["value"] (defScope sIr) := ⟨rfl, rfl, rfl, by decide +kernel, rfl, by decide +kernel, by decide +kernel⟩
def spIr (K : PySem.W.Frag) (Ts : List Addr) : Sp := fun vs H Q _ => ∃ (v : V) (q : Rat), vs = [v] ∧ vQ K q v H ∧ Tb Ts H ∧ ∀ H', XT Ts H H' → Q (.bl true) H'
theorem ev_gcd {X : Cx} {a b : Expr} {σ : L2.St} {H : Hp} {p pos : Pos} {i j : Int} (hm : X.mg "gcd" = some (.builtin "math.gcd")) (ha : EV X a σ H (vI i)) (hb : EV X b σ H (vI j)) (hg : Gl X "gcd" := by rfl) (hs : starEach [a, b] X.env = (false, eval a X.env) :: starEach [b] X.env := by rfl) (hs2 : starEach [b] X.env = (false, eval b X.env) :: starEach [] X.env := by rfl) (hpl : (backTo pos (starEach [b] X.env)).any (·.1) = false := by rfl) :
    EV X (.Call (.Name "gcd" p) [a, b] [] pos) σ H (vI ((Nat.gcd i.natAbs j.natAbs : Nat) : Int)) :=
  ev_of (pe_callBfun cr_gcd hg hm wa_self (by decide) hs hpl) fun H1 e1 Q q => (ea_two ha hb hs hs2) H1 e1 _ fun vs H2 e2 ⟨v, w', ev, e3, e4⟩ => ⟨i, j, by rw [ev, show v = _ from e3, show w' = _ from e4], q _ H2 e2 rfl⟩
theorem ok_isr {f : Addr} {fd : FuncData} (F : FunC K "is_ratio" "is_ratio" sIr f fd c) (D : TxD mg) (hgcd : mg "gcd" = some (.builtin "math.gcd")) (TB : GxR.TabB base mg c T) (hT : T ∈ Ts) : FnOk P w K mg base CX0 3 f fd ["value"] (spIr K Ts) := by
  refine F.ok scIr (fun vs H Q E h => ?_) (fun A outer s H vs Q E hr h => ⟨_, wss_self, ?_⟩)
  · obtain ⟨v, q, rfl, _⟩ := h; rfl
  obtain ⟨v, q, rfl, hv, t, k⟩ := h
  have nd := scIr.nd
  refine ss_cons (s_ifX (Ts := Ts) (wtx_or2 (wtx_not (k := true) (wtx_val ((ev_isi (k := true) (P := vQ K q) (T := "tuple") (t := "tuple") D.isi (ev_v 0 hv) (ev_ty0 D.tup) fun v H1 ⟨p, ev, h⟩ => by rw [ev]; exact tyx_T h).x t))) fun H1 x1 => ?_) fun H1 x1 => ss_cons (s_ifX (Ts := Ts) (wtx_not (k := true) (wtx_val ?_)) fun H2 x2 => ss_one (s_ret (P := vB true) ?_ fun v H3 x3 ev => ?_)))
  · have hv1 := Stx.mono (P := vQ K q) t x1.keep hv
    have hv1' : vT K [V.int q.num, .int (q.den : Int)] v H1 := hv1
    exact ((et_ne (x := .int 2) (y := .int 2) ((ev_lenT (xs := [V.int q.num, .int (q.den : Int)]) D.len (ev_v 0 hv1')).imp fun v H' _ h => h) ev_i).is (by decide)).x x1.tb
  · have hv1 := Stx.mono (P := vQ K q) t x1.keep hv
    have hv1' : vT K [V.int q.num, .int (q.den : Int)] v H1 := hv1
    refine wex_all (k := 1) (c := c) (P := T) (ix := 1) x1.tb hT hr D.all TB rfl nd (pi_tup we_self) (iw_tup x1.tb (ev_v 0 hv1')) (blkOk_by (N := nFl) (sc := defScope sIr) (own := [("one", 1)]) (by decide +kernel)) (by decide +kernel) (by decide +kernel) (by decide +kernel) rfl fun A2 s2 H0 cl C code fp hrA i H' hi x' => ?_
    have : ∃ z : Int, ([V.int q.num, .int (q.den : Int)] : List V).getD i .non = .int z := by
      match i, hi with
      | 0, _ => exact ⟨_, rfl⟩
      | 1, _ => exact ⟨_, rfl⟩
    obtain ⟨z, e⟩ := this
    exact (EV.imp (ev_and2 (k := true) (l := true) (ev_isi (k := true) (P := vE (.int z)) (T := "int") (t := "int") D.isi (ev_v 1 (P := vE (.int z)) e) (ev_ty0 D.int) fun u H1 ev => by rw [show u = _ from ev]; exact .base (.int z))
      fun _ => ev_notV (k := false) (ev_isi (k := false) (P := vE (.int z)) (T := "bool") (t := "int") D.isi (ev_v 1 (P := vE (.int z)) e) (ev_ty0 D.bool) fun u H1 ev => by rw [show u = _ from ev]; exact .base (.int z))) fun v H' _ h => h).x x'.tb
  · have hv2 := Stx.mono (P := vQ K q) t (x1.trans x2).keep hv
    refine EV.imp (ev_and2 (k := true) (l := true) ((ev_gt (ev_den (ev_v 0 hv2)) ev_i).imp fun v H' _ h => by rw [show v = _ from h]; exact bl_of den_pos) fun _ => ev_eqE (x := .int 1) ((ev_gcd hgcd (ev_num (ev_v 0 hv2)) (ev_den (ev_v 0 hv2))).imp fun v H' _ h => ?_) ev_i) fun v H' _ h => h
    rw [show v = _ from h]
    have := q.reduced
    show V.int _ = V.int 1
    congr 1
    have e : Nat.gcd q.num.natAbs (q.den : Int).natAbs = 1 := by simpa using this
    rw [e]; rfl
  · rw [show v = .bl true from ev]
    exact k H3 ((x1.trans x2).trans (XT.of x2.tb x3))
abbrev HasIr (P : Program) (w : World) (K : PySem.W.Frag) (mg : Str → Option Value) (base : Heap) (Ts : List Addr) : Prop := Has P w K mg base CX0 "is_ratio" 3 ["value"] (spIr K Ts)
/-! ### need_dam -/
abbrev sNd : Stmt := top 23
abbrev nNd : List Str := ["dam", "one"]
theorem scNd : FnScope nNd ["dam"] (defScope sNd) := ⟨rfl, rfl, rfl, by decide +kernel, rfl, by decide +kernel, by decide +kernel⟩
def spNd (K : PySem.W.Frag) (Ts : List Addr) : Sp := fun vs H Q _ => ∃ (l : Lw) (v : V), vs = [v] ∧ vDam K l v H ∧ l.Ok ∧ Tb Ts H ∧ ∀ v H', XT Ts H H' → Q v H'
theorem ev_sliceT {X : Cx} {a b d : Expr} {σ : L2.St} {H : Hp} {pos p2 : Pos} {xs : List V} {lo hi : Int} (ha : EV X a σ H (vT X.K xs)) (hc : EV X d σ H (vI lo)) (hb : EV X b σ H (vI hi)) (hn : ¬ (HT.sIx xs.length 0 (some lo) = 0 ∧ HT.sIx xs.length xs.length (some hi) = xs.length)) :
    EV X (.Subscript a (.Slice (some d) (some b) none p2) pos) σ H (vT X.K (cutV xs (some lo) (some hi))) :=
  ev_of (pe_slice sl_tup we_self (po_some we_self) (po_some we_self)) fun H1 e1 Q q => ha H1 e1 _ fun x H2 e2 ⟨p, ex, hp⟩ => hc H2 (e1.trans e2) _ fun z H3 e3 ez => ⟨lo, ez, hb H3 ((e1.trans e2).trans e3) _ fun y H4 e4 ey => ⟨hi, ey, p, xs, ex, sameT (e3.trans e4) hp, hn, fun l hl => q _ _ (((e2.trans e3).trans e4).trans (same_new hl)) ⟨l, rfl, SqT.of upd_same⟩⟩⟩
theorem dam4 {l : Lw} {v : V} {H : Hp} (h : vDam K l v H) : ∃ ip, vT K [.int (l.cap : Int), .int (l.st : Int), .int (l.en : Int), .ref ip] v H := let ⟨p, ip, e, h, _⟩ := h; ⟨ip, p, e, h⟩
theorem ok_needdam {f : Addr} {fd : FuncData} (F : FunC K "need_dam" "need_dam" sNd f fd c) (D : TxD mg) (TB : GxR.TabB base mg c T) (hT : T ∈ Ts) (hI : HasIn P w K mg base) (hF : HasFl P w K mg base Ts) : FnOk P w K mg base CX0 4 f fd ["dam"] (spNd K Ts) := by
  refine F.ok scNd (fun vs H Q E h => ?_) (fun A outer s H vs Q E hr h => ⟨_, wss_self, ?_⟩)
  · obtain ⟨l, v, rfl, _⟩ := h; rfl
  obtain ⟨l, v, rfl, hv, O, t, k⟩ := h
  have nd := scNd.nd
  have st : ∀ {H1 : Hp}, XT Ts H H1 → vDam K l v H1 := fun x => Stx.mono (P := vDam K l) t x.keep hv
  have c1 := O.cap
  have c2 := O.st
  have c3 := O.en
  refine ss_cons (s_ifX (Ts := Ts) (wtx_or3 (wtx_not (k := true) (wtx_val ((ev_isi (k := true) (P := vDam K l) (T := "tuple") (t := "tuple") D.isi (ev_v 0 hv) (ev_ty0 D.tup) fun v H1 ⟨p, ip, ev, h, _⟩ => by rw [ev]; exact tyx_T h).x t))) (fun H1 x1 => ?_) fun H1 x1 => ?_) fun H1 x1 =>
    ss_cons (s_ifX (Ts := Ts) (wtx_or2 ?_ fun H2 x2 => ?_) fun H2 x2 => ss_nil (k _ _ (x1.trans x2))))
  · obtain ⟨ip, h4⟩ := dam4 (st x1)
    exact ((et_ne (x := .int 4) (y := .int 4) ((ev_lenT (xs := [V.int (l.cap : Int), .int (l.st : Int), .int (l.en : Int), .ref ip]) D.len (ev_v 0 h4)).imp fun v H' _ h => h) ev_i).is (by decide)).x x1.tb
  · exact wtx_not (k := true) (wtx_val ((ev_in hI (hr.mono (by decide)) (ev_dam (ev_v 0 (st x1)) ev_i fun ip => rfl) ev_i (ev_gi D.mcap) (by omega) (by omega)).x x1.tb))
  · obtain ⟨ip, h4⟩ := dam4 (st x1)
    refine wtx_not (k := true) (wtx_val ?_)
    refine wex_all (k := 1) (c := c) (P := T) (ix := 1) x1.tb hT (hr.mono (by decide)) D.all TB rfl nd (pi_tup we_self) (iw_tup (xs := [V.int (l.st : Int), .int (l.en : Int)]) x1.tb ((ev_sliceT (xs := [V.int (l.cap : Int), .int (l.st : Int), .int (l.en : Int), .ref ip]) (lo := 1) (hi := 3) (ev_v 0 h4) ev_i ev_i (by show ¬ (HT.sIx 4 0 (some 1) = 0 ∧ HT.sIx 4 4 (some 3) = 4); decide)).imp fun v H' _ h => h)) (blkOk_by (N := nNd) (sc := defScope sNd) (own := [("one", 1)]) (by decide +kernel)) (by decide +kernel) (by decide +kernel) (by decide +kernel) rfl fun A2 s2 H0 cl C code fp hrA i H' hi x' => ?_
    have : ∃ z : Int, ([V.int (l.st : Int), .int (l.en : Int)] : List V).getD i .non = .int z ∧ 0 ≤ z ∧ z ≤ (l.cap : Int) := by
      match i, hi with
      | 0, _ => exact ⟨_, rfl, by omega, by omega⟩
      | 1, _ => exact ⟨_, rfl, by omega, by omega⟩
    obtain ⟨z, e, z1, z2⟩ := this
    exact (ev_in hI hrA (ev_v 1 (P := vI z) e) ev_i (ev_dam (ev_v 0 (st (x1.trans x'))) ev_i fun ip => rfl) z1 z2).x x'.tb
  · have hv2 := st (x1.trans x2)
    refine wtx_not (k := true) (wtx_val (wex_call hF (hr.mono (by decide)) x2.tb (ea_one (ev_dam3 (ev_v 0 hv2))) fun vs3 H3 x3 ⟨v3, ev, h3⟩ Q q => ⟨v3, l.inf, ev, h3, O.M0, by have := O.M4; omega, fun n hn => by have := O.inf n hn; omega, x3.tb, fun H4 x4 => q _ H4 x4 rfl⟩))
abbrev HasNd (P : Program) (w : World) (K : PySem.W.Frag) (mg : Str → Option Value) (base : Heap) (Ts : List Addr) : Prop := Has P w K mg base CX0 "need_dam" 4 ["dam"] (spNd K Ts)
end
end Dw
set_option Elab.async false
set_option linter.all false
set_option maxRecDepth 100000
set_option maxHeartbeats 4000000
set_option pp.maxSteps 300
/-! need_loss, need_worths, need_leak_worths -/
namespace Dw
open PySem PySem.Spec PyProof.Rows L2 RZ
section
variable {P : Program} {w : World} {K : PySem.W.Frag} {mg : Str → Option Value} {base : Heap} {Ts : List Addr}
theorem s_exprX {X : Cx} {e : Expr} {σ : L2.St} {H : Hp} {pos : Pos} {R : V → Hp → Prop} {D : Ends} (h : WEX Ts X e σ H R) (q : ∀ v H', XT Ts H H' → R v H' → D.nx σ H') (hs : swapsWith e none pos.line X.env = pure false := by rfl) : WS X (.Expr e pos) D σ H := s_exprW (h _ q) hs
abbrev sNl : Stmt := top 26
abbrev nNl : List Str := ["dam", "loss"]
theorem scNl : FnScope nNl nNl (defScope sNl) := ⟨rfl, rfl, rfl, by decide +kernel, rfl, by decide +kernel, by decide +kernel⟩
def spNl (K : PySem.W.Frag) (Ts : List Addr) : Sp := fun vs H Q _ => ∃ (l : Lw) (vd vl : V), vs = [vd, vl] ∧ vDam K l vd H ∧ vQ K l.loss vl H ∧ l.Ok ∧ Tb Ts H ∧ ∀ v H', XT Ts H H' → Q v H'
theorem ok_needloss {f : Addr} {fd : FuncData} (F : Fun K "need_loss" "need_loss" sNl f fd) (D : TxD mg) (hD : HasNd P w K mg base Ts) (hI : HasIr P w K mg base Ts) : FnOk P w K mg base CX0 5 f fd nNl (spNl K Ts) := by
  refine F.ok scNl (fun vs H Q E h => ?_) (fun cdv A outer s H vs Q E hr h => ⟨_, wss_self, ?_⟩)
  · obtain ⟨l, vd, vl, rfl, _⟩ := h; rfl
  obtain ⟨l, vd, vl, rfl, hd, hl, O, t, k⟩ := h
  have nd := scNl.nd
  have stl : ∀ {H1 : Hp}, XT Ts H H1 → vQ K l.loss vl H1 := fun x => Stx.mono (P := vQ K l.loss) t x.keep hl
  refine ss_cons (s_exprX (Ts := Ts) (wex_call (P := fun _ _ => True) hD (hr.mono (by decide)) t (ea_one (ev_v 0 (P := vDam K l) hd)) (fun vs H1 x1 ⟨v, ev, h⟩ Q q => ⟨l, v, ev, h, O, x1.tb, fun v2 H2 x2 => q v2 H2 x2 trivial⟩)) fun v H1 x1 _ => ?_)
  refine ss_one (s_ifX (Ts := Ts) (wtx_or2 (wtx_not (k := true) (wtx_val (wex_call hI (hr.mono (by decide)) x1.tb (ea_one (ev_v 1 (stl x1))) fun vs H2 x2 ⟨v, ev, h⟩ Q q => ⟨v, l.loss, ev, h, x2.tb, fun H3 x3 => q _ H3 x3 rfl⟩))) fun H2 x2 => wtx_not (k := true) ?_) fun H2 x2 => k _ _ (x1.trans x2))
  have h2 := stl (x1.trans x2)
  have n0 : 0 ≤ l.loss.num := Rat.num_nonneg.mpr O.loss0
  have n1 : l.loss.num < (l.loss.den : Int) := by
    have h := O.loss1
    have := Rat.lt_iff_sub_pos l.loss 1
    rw [Rat.lt_iff] at h
    simpa using h
  exact (et_le3 (i := 0) ev_i (ev_num (ev_v 1 h2)) (ev_den (ev_v 1 h2)) (ev_gi D.mpart) n0 n1 (by have := O.ld; omega)).x x2.tb
abbrev HasNl (P : Program) (w : World) (K : PySem.W.Frag) (mg : Str → Option Value) (base : Heap) (Ts : List Addr) : Prop := Has P w K mg base CX0 "need_loss" 5 nNl (spNl K Ts)
abbrev sNw : Stmt := top 36
abbrev nNw : List Str := ["dam", "worths", "index", "one"]
theorem scNw : FnScope nNw ["dam", "worths"] (defScope sNw) := ⟨rfl, rfl, rfl, by decide +kernel, rfl, by decide +kernel, by decide +kernel⟩
def spNw (K : PySem.W.Frag) (Ts : List Addr) : Sp := fun vs H Q _ => ∃ (l : Lw) (vd vw : V), vs = [vd, vw] ∧ vDam K l vd H ∧ vWs K l.w vw H ∧ l.Ok ∧ Tb Ts H ∧ ∀ v H', XT Ts H H' → Q v H'
abbrev HasPcs (P : Program) (w : World) (K : PySem.W.Frag) (mg : Str → Option Value) (base : Heap) (Ts : List Addr) : Prop := Has P w K mg base CX0 "are_pieces" 5 ["value"] (spPcs K Ts)
theorem ok_needworths {f : Addr} {fd : FuncData} (F : Fun K "need_worths" "need_worths" sNw f fd) (D : TxD mg) (hD : HasNd P w K mg base Ts) (hI : HasPcs P w K mg base Ts) : FnOk P w K mg base CX0 6 f fd ["dam", "worths"] (spNw K Ts) := by
  refine F.ok scNw (fun vs H Q E h => ?_) (fun cdv A outer s H vs Q E hr h => ⟨_, wss_self, ?_⟩)
  · obtain ⟨l, vd, vl, rfl, _⟩ := h; rfl
  obtain ⟨l, vd, vw, rfl, hd, hw, O, t, k⟩ := h
  have nd := scNw.nd
  have stw : ∀ {H1 : Hp}, XT Ts H H1 → vWs K l.w vw H1 := fun x => Stx.mono (P := vWs K l.w) t x.keep hw
  have std : ∀ {H1 : Hp}, XT Ts H H1 → vDam K l vd H1 := fun x => Stx.mono (P := vDam K l) t x.keep hd
  refine ss_cons (s_exprX (Ts := Ts) (wex_call (P := fun _ _ => True) hD (hr.mono (by decide)) t (ea_one (ev_v 0 (P := vDam K l) hd)) (fun vs H1 x1 ⟨v, ev, h⟩ Q q => ⟨l, v, ev, h, O, x1.tb, fun v2 H2 x2 => q v2 H2 x2 trivial⟩)) fun v H1 x1 _ => ?_)
  refine ss_cons (s_ifX (Ts := Ts) (wtx_or2 (wtx_not (k := true) (wtx_val ((ev_isi (k := true) (P := vWs K l.w) (T := "tuple") (t := "tuple") D.isi (ev_v 1 (stw x1)) (ev_ty0 D.tup) fun v H1 ⟨p, vs, ev, h, _⟩ => by rw [ev]; exact tyx_T h).x x1.tb))) fun H2 x2 => ?_) fun H2 x2 => ?_)
  · exact ((et_ne (x := .int (l.w.length : Int)) (y := .int (l.w.length : Int)) (ev_lenTl D.len (ev_v 1 (stw (x1.trans x2)))) ((ev_lenT D.len (ev_dam3 (ev_v 0 (std (x1.trans x2))))).imp fun v H' _ h => by rw [show v = _ from h]; simp [vE, O.wl])).is (by simp)).x x2.tb
  · have x12 := x1.trans x2
    obtain ⟨wp, ws, rfl, hwp, hwl, hws⟩ := stw x12
    refine ss_one (s_for (g := g2 K 2 3) PassesOwn.never (ei_ET D.enu (ev_v 1 (P := vE (.ref wp)) rfl) hwp) (pg_tup rfl (pgs_cons (pg_name (i := 2) nd rfl (Or.inl rfl)) (pgs_cons (pg_name (i := 3) nd rfl (Or.inl rfl)) pgs_nil)))
      (fun i σ' H' => XT Ts H2 H' ∧ ∃ o1 o2 : Option V, σ' = [some vd, some (.ref wp), o1, o2]) (fun H3 e3 => ⟨XT.of x2.tb e3, none, none, rfl⟩) (fun i σ' H' _ pv => xtT x2.tb pv.1.keep hwp) (fun i x σ' H3 H4 hi pv y => ?_) fun σ' H' pv => k _ _ (x12.trans pv.1))
    obtain ⟨x3, o1, o2, rfl⟩ := pv
    obtain ⟨T, a, b, rfl, e1, e2, e34, hT, _⟩ := ypair_same y
    have hi' : i < l.w.length := by omega
    have x4 := x3.trans (XT.of x3.tb e34)
    obtain ⟨u, f1, f2⟩ := hws i _ (getD_of (d := []) hi')
    rw [f1] at e2
    cases e2
    refine ⟨_, gt_two (SqT.of hT), ?_⟩
    refine ss_one (s_ifX (Ts := Ts) (wtx_not (k := true) (wtx_val (wex_call hI (hr.mono (by decide)) x4.tb (ea_one (ev_v 3 (P := vPs K (l.w.getD i [])) (Stx.mono (P := vPs K (l.w.getD i [])) x2.tb x4.keep f2))) fun vs H5 x5 ⟨v, ev, h⟩ Q q => ⟨v, _, ev, h, O.w2 _ (getD_mem (d := []) hi'), O.w9 _ (getD_mem (d := []) hi'), O.desc _ (getD_mem (d := []) hi'), x5.tb, fun H6 x6 => q _ H6 x6 rfl⟩))) fun H5 x5 => ?_)
    exact ⟨x4.trans x5, _, _, rfl⟩
abbrev HasNw (P : Program) (w : World) (K : PySem.W.Frag) (mg : Str → Option Value) (base : Heap) (Ts : List Addr) : Prop := Has P w K mg base CX0 "need_worths" 6 ["dam", "worths"] (spNw K Ts)
abbrev sNk : Stmt := top 42
abbrev nNk : List Str := ["dam", "loss", "worths", "index", "one"]
theorem scNk : FnScope nNk n3 (defScope sNk) := ⟨rfl, rfl, rfl, by decide +kernel, rfl, by decide +kernel, by decide +kernel⟩
theorem ok_need {f : Addr} {fd : FuncData} (F : Fun K "need_leak_worths" "need_leak_worths" sNk f fd) (D : TxD mg) (hL : HasNl P w K mg base Ts) (hW : HasNw P w K mg base Ts) : FnOk P w K mg base CX0 9 f fd n3 (spNeed K Ts) := by
  refine F.ok scNk (fun vs H Q E h => ?_) (fun cdv A outer s H vs Q E hr h => ⟨_, wss_self, ?_⟩)
  · obtain ⟨l, vd, vl, vw, rfl, _⟩ := h; rfl
  obtain ⟨l, vd, vl, vw, rfl, hd, hl, hw, O, t, k⟩ := h
  have nd := scNk.nd
  have stw : ∀ {H1 : Hp}, XT Ts H H1 → vWs K l.w vw H1 := fun x => Stx.mono (P := vWs K l.w) t x.keep hw
  have std : ∀ {H1 : Hp}, XT Ts H H1 → vDam K l vd H1 := fun x => Stx.mono (P := vDam K l) t x.keep hd
  refine ss_cons (s_exprX (Ts := Ts) (wex_call (P := fun _ _ => True) hL (hr.mono (by decide)) t (ea_two (P1 := vDam K l) (P2 := vQ K l.loss) (ev_v 0 hd) (ev_v 1 hl)) (fun vs H1 x1 ⟨v, v', ev, h, h'⟩ Q q => ⟨l, v, v', ev, h, h', O, x1.tb, fun v2 H2 x2 => q v2 H2 x2 trivial⟩)) fun v H1 x1 _ => ?_)
  refine ss_cons (s_exprX (Ts := Ts) (wex_call (P := fun _ _ => True) hW (hr.mono (by decide)) x1.tb (ea_two (P1 := vDam K l) (P2 := vWs K l.w) (ev_v 0 (std x1)) (ev_v 2 (stw x1))) (fun vs H1 x1 ⟨v, v', ev, h, h'⟩ Q q => ⟨l, v, v', ev, h, h', O, x1.tb, fun v2 H2 x2 => q v2 H2 x2 trivial⟩)) fun v H2 x2 _ => ?_)
  have x12 := x1.trans x2
  obtain ⟨wp, ws, rfl, hwp, hwl, hws⟩ := stw x12
  refine ss_cons (s_for (g := g2 K 3 4) PassesOwn.never (ei_ET D.enu (ev_v 2 (P := vE (.ref wp)) rfl) hwp) (pg_tup rfl (pgs_cons (pg_name (i := 3) nd rfl (Or.inl rfl)) (pgs_cons (pg_name (i := 4) nd rfl (Or.inl rfl)) pgs_nil)))
      (fun i σ' H' => XT Ts H2 H' ∧ ∃ o1 o2 : Option V, σ' = [some vd, some vl, some (.ref wp), o1, o2]) (fun H3 e3 => ⟨XT.of x2.tb e3, none, none, rfl⟩) (fun i σ' H' _ pv => xtT x2.tb pv.1.keep hwp) (fun i x σ' H3 H4 hi pv y => ?_) fun σ' H' pv => ?_)
  · obtain ⟨x3, o1, o2, rfl⟩ := pv
    obtain ⟨T, a, b, rfl, e1, e2, e34, hT, _⟩ := ypair_same y
    have hi' : i < l.w.length := by omega
    have x4 := x3.trans (XT.of x3.tb e34)
    obtain ⟨u, f1, f2⟩ := hws i _ (getD_of (d := []) hi')
    rw [f1] at e2
    cases e2
    refine ⟨_, gt_two (SqT.of hT), ?_⟩
    have h2 := O.w2 _ (getD_mem (d := []) hi')
    refine ss_one (s_ifX (Ts := Ts) (((et_gt (ev_lenTl D.len (ev_v 4 (P := vPs K (l.w.getD i [])) (Stx.mono (P := vPs K (l.w.getD i [])) x2.tb x4.keep f2))) (ev_gi D.mlp)).is (decide_eq_false (by omega))).x x4.tb) fun H5 x5 => ?_)
    exact ⟨x4.trans x5, _, _, rfl⟩
  · obtain ⟨x3, o1, o2, rfl⟩ := pv
    have hM := O.M4
    exact ss_one (s_ifX (Ts := Ts) (((et_gt (ev_lenT D.len (ev_dam3 (ev_v 0 (std (x12.trans x3))))) (ev_gi D.mlm)).is (decide_eq_false (by simp; omega))).x x3.tb) fun H5 x5 => k _ _ ((x12.trans x3).trans x5))
end
end Dw
set_option Elab.async false
set_option linter.all false
set_option maxRecDepth 100000
set_option maxHeartbeats 0
set_option pp.maxSteps 300
/-! the head by names: what is looked at, what it says -/
namespace Dw
open PySem PySem.Spec PyProof.Rows L2
def dF (x : Str) (i : Nat) : He.DefD := ⟨(x, none), x, x, defArgs (top i), defBody (top i), defScope (top i), [], []⟩
def dM (m q : Str) (i : Nat) : He.DefD := ⟨("Program", some m), m, q, defArgs (inClass (top 29) i), defBody (inClass (top 29) i), defScope (inClass (top 29) i), [], []⟩
def fn1 : List He.DefD := [dF "ratio" 9, dF "plus" 10, dF "minus" 11, dF "by" 12, dF "over" 13, dF "less" 14, dF "sum_of" 15, dF "is_ratio" 16, dF "is_in" 21, dF "are_flows" 22, dF "need_dam" 23, dF "need_loss" 26, dF "kept_of" 27, dF "solved" 30, dF "is_piece" 34, dF "are_pieces" 35, dF "need_worths" 36, dF "month_worth" 37, dF "worth_of" 38, dF "need_leak_worths" 42]
def fn2 : List He.DefD := [dF "program_of" 43, dF "plan_of" 44, dF "leak_worth" 45, dF "leak_plan" 46, dF "leak_prices" 47, dF "_law_taken" 49, dF "_law_pick" 50, dF "_law_ratio" 52, dF "_law_plus" 53, dF "_law_by" 54, dF "_law_sum" 55, dF "_law_less" 56, dF "_law_is_ratio" 57, dF "_law_told" 58, dF "_law_leak_worths" 59, dF "_law_worth" 60, dF "_law_leak_plan" 61, dF "_law_over" 62, dF "_law_leak_bound" 63, dF "_law_leak_holds" 64, dF "law" 65]
def fn3 : List He.DefD := [dM "__init__" "Program.__init__" 0, dM "turn" "Program.turn" 1, dM "multiplier" "Program.multiplier" 2, dM "rising" "Program.rising" 3, dM "climb" "Program.climb" 4, dM "leave_help" "Program.leave_help" 5, dM "amounts" "Program.amounts" 6, dM "prices" "Program.prices" 7]
def fnA : List He.DefD := fn1 ++ (fn2 ++ fn3)
def fa1 : List He.Fa := [.glo "ratio", .glo "plus", .glo "minus", .glo "by", .glo "over", .glo "less", .glo "sum_of", .glo "is_ratio", .glo "is_in", .glo "are_flows", .glo "need_dam", .glo "need_loss", .glo "kept_of", .glo "solved", .glo "is_piece", .glo "are_pieces", .glo "need_worths", .glo "month_worth", .glo "worth_of", .glo "need_leak_worths"]
def fa2 : List He.Fa := [.glo "program_of", .glo "plan_of", .glo "leak_worth", .glo "leak_plan", .glo "leak_prices", .glo "_law_taken", .glo "_law_pick", .glo "_law_ratio", .glo "_law_plus", .glo "_law_by", .glo "_law_sum", .glo "_law_less", .glo "_law_is_ratio", .glo "_law_told", .glo "_law_leak_worths", .glo "_law_worth", .glo "_law_leak_plan", .glo "_law_over", .glo "_law_leak_bound", .glo "_law_leak_holds", .glo "law"]
def fa3 : List He.Fa := [.glo "Program", .glo "NoPlan", .glo "DamError", .free "all", .free "enumerate", .free "isinstance", .free "len", .free "range", .free "tuple", .free "int", .free "bool", .free "abs", .free "set", .free "sorted", .free "list", .free "zip", .int "MOST_CAPACITY" 1000, .int "MOST_FLOW" 1000, .int "MOST_MONTHS_dams" 12, .int "MOST_PART" 100, .int "MOST_AMOUNT" 1000, .int "MOST_PIECES_worths" 3, .int "MOST_MONTHS_leakworths" 5, .int "MOST_PIECES_leakworths" 2]
def fa4 : List He.Fa := [.cls "Program", .noat "Program" "many", .noat "Program" "signs", .noat "Program" "rows", .noat "Program" "basis", .meth "Program" "turn", .meth "Program" "multiplier", .meth "Program" "rising", .meth "Program" "climb", .meth "Program" "leave_help", .meth "Program" "amounts", .meth "Program" "prices", .mkr "Program", .exc "NoPlan", .exm "NoPlan" "DamError" true]
def faA : List He.Fa := fa1 ++ (fa2 ++ (fa3 ++ fa4))
def tfA : List He.Defn := [("law", none), ("is_ratio", none), ("are_flows", none), ("need_dam", none), ("is_piece", none), ("are_pieces", none)]
def exA (K : PySem.W.Frag) : Bool := He.eqO (PySem.W.nsIn K mainGlobals "gcd") (some (some (.builtin "math.gcd"))) &&
  (He.eqO (PySem.W.findIn K (.ref (He.ga K "NoPlan")) "__getattribute__") (some (some (.builtin "BaseException.__getattribute__"))) && (He.eqO (PySem.W.findIn K (.ref (He.ga K "NoPlan")) "__getattr__") (some none) &&
  (PySem.W.hasDictIn K (He.ga K "NoPlan") && (He.eqO (PySem.W.findIn K (.ref (He.ga K "NoPlan")) "__class__") (some (some (.builtin "object.__class__"))) &&
  (He.eqO (PySem.W.specialIn K (.builtin "object.__class__") "__get__") (some (some (.builtin "getset_descriptor.__get__"))) && (decide (PySem.W.takesIn K (.builtin "object.__class__") = some true) && (decide (PySem.W.mroIn K (He.ga K "NoPlan") (.type "object") = some true) && tfA.tail.all fun p => !((He.cT K p).2 == (He.cT K ("law", none)).2))))))))
def nm1 : List Str := ["DamError", "BadDam", "BadWorths", "BadLoss", "NoPlan", "TooMany", "Program", "_law_alike", "ratio", "plus", "minus", "by", "over", "less", "sum_of", "is_ratio", "is_in", "are_flows", "need_dam", "need_loss", "kept_of", "solved", "is_piece", "are_pieces", "need_worths", "month_worth", "worth_of"]
def nm2 : List Str := ["need_leak_worths", "program_of", "plan_of", "leak_worth", "leak_plan", "leak_prices", "_law_taken", "_law_pick", "_law_ratio", "_law_plus", "_law_by", "_law_sum", "_law_less", "_law_is_ratio", "_law_told", "_law_leak_worths", "_law_worth", "_law_leak_plan", "_law_over", "_law_leak_bound", "_law_leak_holds", "MOST_CAPACITY", "MOST_FLOW", "MOST_MONTHS_dams", "MOST_PART", "MOST_AMOUNT", "MOST_PIECES_worths", "MOST_MONTHS_leakworths", "MOST_PIECES_leakworths"]
def nmA : List Str := nm1 ++ nm2
abbrev Rw : PySem.W.OpenRow := PySem.W.OpenLaw.row PySem.Challenge.rw_damworks_k36_whole_leaking_worths
abbrev Vw : Program := PySem.W.view Rw.prog [0, 65]
abbrev hkA : PySem.W.Hook := He.hookX 8 faA fnA [] tfA exA
def obA (s : PySem.W.SharedT) : He.AlX := He.obsX 8 faA fnA [] tfA exA (HandSHeadRun.getT s)
theorem obA_eq (s : PySem.W.SharedT) : obA s = hkA.obs s.abs := He.obsX_eq (HandSHeadRun.getT_eq s)
/-! ### what it says -/
section
variable {P : Program} {w : World} {K : PySem.W.Frag} {h base : Heap} {mg : Str → Option Value} {x : Str} {i n : Nat} {ps : List Str} {sp : Sp} {CX : CXT}
theorem getF (X : K.In h) (G : h.Ns mainGlobals mg) (c : He.SaysD faA fnA K) (k : Nat) (x : Str) (i : Nat) (hd : fnA[k]? = some (dF x i)) (hf : faA[k]? = some (.glo x)) :
    ∃ fd, FunD K x x (defArgs (top i)) (defBody (top i)) (defScope (top i)) [] [] (He.ga K x) fd ∧ mg x = some (.ref (He.ga K x)) := by
  obtain ⟨fd, F⟩ := c.def_ k (d := dF x i) hd
  exact ⟨fd, F, He.glo_ok X G (c.fact k (f := .glo x) hf)⟩
abbrev BindOk (x : Str) (st : Stmt) (ps : List Str) : Prop := ∀ (kV doc pm : Value) (an : Option Addr) (cdv ct : Value) (us : List Value), us.length = ps.length → bindArgs (PySem.W.fnOf x x (defArgs st) (defBody st) (defScope st) .none kV doc pm an cdv ct) ⟨us, []⟩ = pure (ps.zip us)
theorem hasF (X : K.In h) (G : h.Ns mainGlobals mg) (c : He.SaysD faA fnA K) (k : Nat) (x : Str) (i : Nat) (H : ∀ {f : Addr} {fd : FuncData}, Fun K x x (top i) f fd → FnOk P w K mg base CX n f fd ps sp) (hb : BindOk x (top i) ps) (hd : fnA[k]? = some (dF x i) := by rfl) (hf : faA[k]? = some (.glo x) := by rfl) : Has P w K mg base CX x n ps sp := by
  obtain ⟨fd, F, hm⟩ := getF X G c k x i hd hf
  exact ⟨_, fd, H (He5.fun_of F), hm, F.kp, F.bindsN hb⟩
theorem hasX (X : K.In h) (G : h.Ns mainGlobals mg) (c : He.SaysD faA fnA K) (k : Nat) (x : Str) (i : Nat) (H : ∀ {f : Addr} {fd : FuncData}, Fun K x x (top i) f fd → FnOk P w K mg base (L2.CX P w) n f fd ps sp) (hb : BindOk x (top i) ps) (hd : fnA[k]? = some (dF x i) := by rfl) (hf : faA[k]? = some (.glo x) := by rfl) : HasX P w K mg base x n ps sp := by
  obtain ⟨fd, F, hm⟩ := getF X G c k x i hd hf
  exact ⟨_, fd, H (He5.fun_of F), hm, F.kp, F.bindsN hb⟩
theorem funC_of {f : Addr} {fd : FuncData} (F : FunD K x x (defArgs (top i)) (defBody (top i)) (defScope (top i)) [] [] (He.ga K x) fd) : FunC K x x (top i) (He.ga K x) fd (He.codeOf K (x, none)) := by
  obtain ⟨oc, od, dV, kV, doc, pm, an, cdv, ct, osl, rfl, lk, hcd, hD, _⟩ := F.ex
  obtain ⟨cc, rfl⟩ := He.codeIn_ref hcd
  rcases hD with ⟨_, rfl⟩ | ⟨e, _⟩
  · have e : He.codeOf K (x, none) = cc := He.codeOf_eq (p := (x, none)) lk rfl
    rw [e]
    exact ⟨⟨oc, od, kV, doc, pm, an, ct, osl, rfl, lk, hcd⟩, F.kp⟩
  · exact absurd rfl e
theorem hasC (X : K.In h) (G : h.Ns mainGlobals mg) (c : He.SaysD faA fnA K) (k : Nat) (x : Str) (i : Nat) (H : ∀ {f : Addr} {fd : FuncData}, FunC K x x (top i) f fd (He.codeOf K (x, none)) → FnOk P w K mg base CX n f fd ps sp) (hb : BindOk x (top i) ps) (hd : fnA[k]? = some (dF x i) := by rfl) (hf : faA[k]? = some (.glo x) := by rfl) : Has P w K mg base CX x n ps sp := by
  obtain ⟨fd, F, hm⟩ := getF X G c k x i hd hf
  exact ⟨_, fd, H (funC_of (f := 0) F), hm, F.kp, F.bindsN hb⟩
abbrev BindOkM (m q : Str) (st : Stmt) (ps : List Str) : Prop := ∀ (kV doc pm : Value) (an : Option Addr) (cdv ct : Value) (us : List Value), us.length = ps.length → bindArgs (PySem.W.fnOf m q (defArgs st) (defBody st) (defScope st) .none kV doc pm an cdv ct) ⟨us, []⟩ = pure (ps.zip us)
theorem hasM (c : He.SaysD faA fnA K) (k k2 : Nat) (m q : Str) (i : Nat) (H : ∀ {f : Addr} {fd : FuncData}, Fun K m q (inClass (top 29) i) f fd → FnOk P w K mg base CX n f fd ps sp) (hb : BindOkM m q (inClass (top 29) i) ps) (hd : fnA[k]? = some (dM m q i) := by rfl) (hf : faA[k2]? = some (.meth "Program" m) := by rfl) : HasM P w K mg base CX (He.ga K "Program") m n ps sp := by
  obtain ⟨fd, F⟩ := c.def_ k (d := dM m q i) hd
  have F : FunD K m q (defArgs (inClass (top 29) i)) (defBody (inClass (top 29) i)) (defScope (inClass (top 29) i)) [] [] (He.ma K (He.ga K "Program") m) fd := F
  exact ⟨_, fd, H (He5.fun_of F), He.meth_ok (c.fact k2 (f := .meth "Program" m) hf), F.bindsN hb⟩
theorem hasI (X : K.In h) (G : h.Ns mainGlobals mg) (c : He.SaysD faA fnA K) (k : Nat) (x : Str) (z : Int) (hf : faA[k]? = some (.int x z) := by rfl) : HasI mg x z := He.int_ok X G (c.fact k (f := .int x z) hf)
theorem isFree (X : K.In h) (G : h.Ns mainGlobals mg) (c : He.SaysD faA fnA K) (k : Nat) (x : Str) (hf : faA[k]? = some (.free x) := by rfl) : mg x = none := He.free_ok X G (c.fact k (f := .free x) hf)
theorem isGlo (X : K.In h) (G : h.Ns mainGlobals mg) (c : He.SaysD faA fnA K) (k : Nat) (x : Str) (hf : faA[k]? = some (.glo x) := by rfl) : mg x = some (.ref (He.ga K x)) := He.glo_ok X G (c.fact k (f := .glo x) hf)
theorem txP (X : K.In h) (G : h.Ns mainGlobals mg) (c : He.SaysD faA fnA K) : TxP K mg (He.ga K "Program") where
  cl := He.cls_ok (c.fact 65 (f := .cls "Program") rfl)
  nM := He.noat_ok (c.fact 66 (f := .noat "Program" "many") rfl)
  nS := He.noat_ok (c.fact 67 (f := .noat "Program" "signs") rfl)
  nR := He.noat_ok (c.fact 68 (f := .noat "Program" "rows") rfl)
  nB := He.noat_ok (c.fact 69 (f := .noat "Program" "basis") rfl)
  mgC := isGlo X G c 41 "Program"
  len := isFree X G c 47 "len"
  rng := isFree X G c 48 "range"
  enu := isFree X G c 45 "enumerate"
  zip := isFree X G c 56 "zip"
  lst := isFree X G c 55 "list"
  tup := isFree X G c 49 "tuple"
theorem txL (X : K.In h) (G : h.Ns mainGlobals mg) (c : He.SaysD faA fnA K) : TxL mg where
  int := isFree X G c 50 "int"
  abs := isFree X G c 52 "abs"
  len := isFree X G c 47 "len"
  rng := isFree X G c 48 "range"
  tup := isFree X G c 49 "tuple"
  isi := isFree X G c 46 "isinstance"
  set := isFree X G c 53 "set"
  srt := isFree X G c 54 "sorted"
  bool := isFree X G c 51 "bool"
theorem txD (X : K.In h) (G : h.Ns mainGlobals mg) (c : He.SaysD faA fnA K) : TxD mg where
  toTxL := txL X G c
  all := isFree X G c 44 "all"
  enu := isFree X G c 45 "enumerate"
  mcap := hasI X G c 57 "MOST_CAPACITY" 1000
  mflow := hasI X G c 58 "MOST_FLOW" 1000
  mmon := hasI X G c 59 "MOST_MONTHS_dams" 12
  mpart := hasI X G c 60 "MOST_PART" 100
  mamt := hasI X G c 61 "MOST_AMOUNT" 1000
  mpcs := hasI X G c 62 "MOST_PIECES_worths" 3
  mlm := hasI X G c 63 "MOST_MONTHS_leakworths" 5
  mlp := hasI X G c 64 "MOST_PIECES_leakworths" 2
theorem txN (X : K.In h) (G : h.Ns mainGlobals mg) (c : He.SaysD faA fnA K) : TxN K mg (He.ga K "NoPlan") := by
  obtain ⟨h1, h2, h3, h4⟩ := He.exc_ok (c.fact 78 (f := .exc "NoPlan") rfl)
  exact ⟨⟨_, _, _, _, PySem.F.excBase_ValueError, h1⟩, isGlo X G c 42 "NoPlan", h2, h3, h4⟩
/-- what exA tells -/
structure More (K : PySem.W.Frag) : Prop where
  gcd : PySem.W.nsIn K mainGlobals "gcd" = some (some (.builtin "math.gcd"))
  ec : PySem.W.subIn K (.ref (He.ga K "NoPlan")) (.type "BaseException") = some true → ExcC K (He.ga K "NoPlan")
  ne : ∀ p ∈ tfA.tail, (He.cT K p).2 ≠ (He.cT K ("law", none)).2
theorem more_of (e : exA K = true) : More K := by
  obtain ⟨h1, e⟩ := He.ba e
  obtain ⟨h2, e⟩ := He.ba e
  obtain ⟨h3, e⟩ := He.ba e
  obtain ⟨h4, e⟩ := He.ba e
  obtain ⟨h5, e⟩ := He.ba e
  obtain ⟨h6, e⟩ := He.ba e
  obtain ⟨h7, e⟩ := He.ba e
  obtain ⟨h8, h9⟩ := He.ba e
  exact ⟨He.eqO_ok h1, fun hs => ⟨He.eqO_ok h2, He.eqO_ok h3, hs, h4, He.eqO_ok h5, He.eqO_ok h6, of_decide_eq_true h7, of_decide_eq_true h8⟩, fun p hp => by
    have z := List.all_eq_true.mp h9 p hp
    intro q
    rw [q] at z
    simp at z⟩
end
end Dw
set_option Elab.async false
set_option linter.all false
set_option maxRecDepth 100000
set_option maxHeartbeats 0
/-! the head's run -/
namespace Dw
open PySem PySem.Spec PyProof.Rows L2
theorem runA (w : World) : HandSHeadRun.RunEqI Rw Vw hkA obA 12000 nmA w := by
  unfold HandSHeadRun.RunEqI
  kernel_rfl
end Dw
set_option Elab.async false
set_option linter.all false
set_option maxRecDepth 100000
set_option maxHeartbeats 0
set_option pp.maxSteps 300
/-! all promises together -/
namespace Dw
open PySem PySem.Spec PyProof.Rows L2
section
variable {P : Program} {w : World} {K : PySem.W.Frag} {h base : Heap} {mg : Str → Option Value}
def TsA (K : PySem.W.Frag) : List Addr := tfA.tail.map fun p => (He.cT K p).2
theorem td_of (X : K.In h) (G : h.Ns mainGlobals mg) (cd : He.SaysD faA fnA K) (M : More K) : HasTd K mg (He.ga K "NoPlan") (He.ga K "DamError") := by
  obtain ⟨fd, F, hm⟩ := getF X G cd 33 "_law_told" 58 rfl rfl
  have hb := F.bindsN (ps := ["_law_work"]) (fun _ _ _ _ _ _ us hl => match us, hl with | [_], _ => rfl)
  obtain ⟨oc, od, dV, kV, doc, pm, an, cdv, ct, osl, rfl, lk, hcd, hD, _⟩ := F.ex
  rcases hD with ⟨_, rfl⟩ | ⟨e, _⟩
  · exact ⟨⟨_, oc, od, an, osl, kV, doc, pm, cdv, ct, hm, F.kp, lk, hcd, hb⟩, isGlo X G cd 43 "DamError", M.ec (txN X G cd).sub, He.exm_ok (cd.fact 79 (f := .exm "NoPlan" "DamError" true) rfl)⟩
  · exact absurd rfl e
theorem all_of (X : K.In h) (G : h.Ns mainGlobals mg) (cd : He.SaysD faA fnA K) (M : More K) (TB : ∀ p ∈ tfA, LamX.TabB base mg (He.cT K p).1 (He.cT K p).2) : HasAll P w K mg base (He.ga K "NoPlan") (TsA K) := by
  have hgcd : mg "gcd" = some (.builtin "math.gcd") := PySem.W.mg_of X G M.gcd
  have TP := txP X G cd
  have TL := txL X G cd
  have TD := txD X G cd
  have TN := txN X G cd
  have TG : ∀ p ∈ tfA, GxR.TabB base mg (He.codeOf K p) (He.cT K p).2 := fun p hp => ⟨(TB p hp).code, (TB p hp).bm, (TB p hp).gP⟩
  have TM : ∀ p ∈ tfA.tail, (He.cT K p).2 ∈ TsA K := fun p hp => List.mem_map.mpr ⟨p, hp, rfl⟩
  have hR : HasR P w K mg base := hasF X G cd 0 "ratio" 9 (fun F => ok_ratio F hgcd) (fun _ _ _ _ _ _ us hl => match us, hl with | [_, _], _ => rfl)
  have hPl0 : Has P w K mg base CX0 "plus" 2 ["one", "other"] (sp2 K okL fun a b => vQ K (a + b)) := hasF X G cd 1 "plus" 10 (fun F => ok_plus F hR) (fun _ _ _ _ _ _ us hl => match us, hl with | [_, _], _ => rfl)
  have hMi0 : Has P w K mg base CX0 "minus" 2 ["one", "other"] (sp2 K okL fun a b => vQ K (a - b)) := hasF X G cd 2 "minus" 11 (fun F => ok_minus F hR) (fun _ _ _ _ _ _ us hl => match us, hl with | [_, _], _ => rfl)
  have hBy0 : Has P w K mg base CX0 "by" 2 ["one", "other"] (sp2 K okL fun a b => vQ K (a * b)) := hasF X G cd 3 "by" 12 (fun F => ok_by F hR) (fun _ _ _ _ _ _ us hl => match us, hl with | [_, _], _ => rfl)
  have hOv0 : Has P w K mg base CX0 "over" 2 ["one", "other"] (sp2 K okD fun a b => vQ K (a / b)) := hasF X G cd 4 "over" 13 (fun F => ok_over F hR) (fun _ _ _ _ _ _ us hl => match us, hl with | [_, _], _ => rfl)
  have hLe0 : Has P w K mg base CX0 "less" 1 ["one", "other"] (sp2 K okL fun a b => vB (decide (a < b))) := hasF X G cd 5 "less" 14 (fun F => ok_less F) (fun _ _ _ _ _ _ us hl => match us, hl with | [_, _], _ => rfl)
  have hQ : HasQ P w K mg base := ⟨hPl0, hMi0, hBy0, hOv0, hLe0⟩
  have hS : HasS P w K mg base := hasF X G cd 6 "sum_of" 15 (fun F => ok_sum F hQ) (fun _ _ _ _ _ _ us hl => match us, hl with | [_], _ => rfl)
  have hK : HasK P w K mg base := hasF X G cd 12 "kept_of" 27 (fun F => ok_kept F hQ) (fun _ _ _ _ _ _ us hl => match us, hl with | [_], _ => rfl)
  have mMult : HasM P w K mg base CX0 (He.ga K "Program") "multiplier" 4 ["self", "costs", "k"] (spMult K (He.ga K "Program")) := hasM cd 43 71 "multiplier" "Program.multiplier" 2 (fun F => ok_mult F TP hQ hS) (fun _ _ _ _ _ _ us hl => match us, hl with | [_, _, _], _ => rfl)
  have mTurn : HasM P w K mg base CX0 (He.ga K "Program") "turn" 3 ["self", "j", "k"] (spTurn K (He.ga K "Program")) := hasM cd 42 70 "turn" "Program.turn" 1 (fun F => ok_turn F TP hQ) (fun _ _ _ _ _ _ us hl => match us, hl with | [_, _, _], _ => rfl)
  have mRise : HasM P w K mg base CX0 (He.ga K "Program") "rising" 5 ["self", "costs", "columns"] (spRise K (He.ga K "Program")) := hasM cd 44 72 "rising" "Program.rising" 3 (fun F => ok_rise F TP hQ mMult) (fun _ _ _ _ _ _ us hl => match us, hl with | [_, _, _], _ => rfl)
  have mClimb : HasM P w K mg base CX0 (He.ga K "Program") "climb" 6 ["self", "costs", "columns"] (spClimb K (He.ga K "Program")) := hasM cd 45 73 "climb" "Program.climb" 4 (fun F => ok_climb F TP hQ mRise mTurn) (fun _ _ _ _ _ _ us hl => match us, hl with | [_, _, _], _ => rfl)
  have mLeave : HasM P w K mg base CX0 (He.ga K "Program") "leave_help" 4 ["self"] (spLeave K (He.ga K "Program")) := hasM cd 46 74 "leave_help" "Program.leave_help" 5 (fun F => ok_leave F TP mTurn) (fun _ _ _ _ _ _ us hl => match us, hl with | [_], _ => rfl)
  have mAmt : HasM P w K mg base CX0 (He.ga K "Program") "amounts" 1 ["self"] (spAmt K (He.ga K "Program")) := hasM cd 47 75 "amounts" "Program.amounts" 6 (fun F => ok_amt F TP) (fun _ _ _ _ _ _ us hl => match us, hl with | [_], _ => rfl)
  have mPri : HasM P w K mg base CX0 (He.ga K "Program") "prices" 5 ["self", "costs"] (spPri K (He.ga K "Program")) := hasM cd 48 76 "prices" "Program.prices" 7 (fun F => ok_pri F TP hQ mMult) (fun _ _ _ _ _ _ us hl => match us, hl with | [_, _], _ => rfl)
  have mIni : HasC P w K mg base (He.ga K "Program") "Program" 3 ["self", "rows", "goals"] (spInit K (He.ga K "Program")) := by
    obtain ⟨fd, F⟩ := cd.def_ 41 (d := dM "__init__" "Program.__init__" 0) rfl
    have F : FunD K "__init__" "Program.__init__" (defArgs (inClass (top 29) 0)) (defBody (inClass (top 29) 0)) (defScope (inClass (top 29) 0)) [] [] (He.ma K (He.ga K "Program") "__init__") fd := F
    exact ⟨_, fd, ok_init (He5.fun_of F) TP hQ, He.mkr_ok (cd.fact 77 (f := .mkr "Program") rfl), F.bindsN (fun _ _ _ _ _ _ us hl => match us, hl with | [_, _, _], _ => rfl), isGlo X G cd 41 "Program"⟩
  have hPr : HasPr P w K mg base (He.ga K "Program") := ⟨mIni, mMult, mClimb, mLeave, mAmt, mPri⟩
  have hSo : HasSo P w K mg base := hasF X G cd 13 "solved" 30 (fun F => ok_solved F TP hPr) (fun _ _ _ _ _ _ us hl => match us, hl with | [_, _, _], _ => rfl)
  have hPo : HasPo P w K mg base (He.ga K "NoPlan") := hasX X G cd 20 "program_of" 43 (fun F => ok_prog F TP TN hQ hK hSo) (fun _ _ _ _ _ _ us hl => match us, hl with | [_, _, _], _ => rfl)
  have hMo : HasMo P w K mg base := hasF X G cd 17 "month_worth" 37 (fun F => ok_month F hQ) (fun _ _ _ _ _ _ us hl => match us, hl with | [_, _], _ => rfl)
  have hWo : HasWo P w K mg base := hasF X G cd 18 "worth_of" 38 (fun F => ok_worth F TP hQ hMo) (fun _ _ _ _ _ _ us hl => match us, hl with | [_, _], _ => rfl)
  have hPlan : HasPl P w K mg base (He.ga K "NoPlan") := hasX X G cd 21 "plan_of" 44 (fun F => ok_plan F TP hS hPo) (fun _ _ _ _ _ _ us hl => match us, hl with | [_, _, _], _ => rfl)
  have hIn : HasIn P w K mg base := hasF X G cd 8 "is_in" 21 (fun F => ok_in F TL) (fun _ _ _ _ _ _ us hl => match us, hl with | [_, _, _], _ => rfl)
  have hFl : HasFl P w K mg base (TsA K) := hasC X G cd 9 "are_flows" 22 (fun F => ok_flows F TD (TG ("are_flows", none) (by simp [tfA])) (TM ("are_flows", none) (by simp [tfA])) hIn) (fun _ _ _ _ _ _ us hl => match us, hl with | [_], _ => rfl)
  have hPc : HasPc P w K mg base (TsA K) := hasC X G cd 14 "is_piece" 34 (fun F => ok_piece F TD (TG ("is_piece", none) (by simp [tfA])) (TM ("is_piece", none) (by simp [tfA])) hIn) (fun _ _ _ _ _ _ us hl => match us, hl with | [_], _ => rfl)
  have hPcs : HasPcs P w K mg base (TsA K) := hasC X G cd 15 "are_pieces" 35 (fun F => ok_pieces F TD (TG ("are_pieces", none) (by simp [tfA])) (TM ("are_pieces", none) (by simp [tfA])) hPc) (fun _ _ _ _ _ _ us hl => match us, hl with | [_], _ => rfl)
  have hIr : HasIr P w K mg base (TsA K) := hasC X G cd 7 "is_ratio" 16 (fun F => ok_isr F TD hgcd (TG ("is_ratio", none) (by simp [tfA])) (TM ("is_ratio", none) (by simp [tfA]))) (fun _ _ _ _ _ _ us hl => match us, hl with | [_], _ => rfl)
  have hNd : HasNd P w K mg base (TsA K) := hasC X G cd 10 "need_dam" 23 (fun F => ok_needdam F TD (TG ("need_dam", none) (by simp [tfA])) (TM ("need_dam", none) (by simp [tfA])) hIn hFl) (fun _ _ _ _ _ _ us hl => match us, hl with | [_], _ => rfl)
  have hNl : HasNl P w K mg base (TsA K) := hasF X G cd 11 "need_loss" 26 (fun F => ok_needloss F TD hNd hIr) (fun _ _ _ _ _ _ us hl => match us, hl with | [_, _], _ => rfl)
  have hNw : HasNw P w K mg base (TsA K) := hasF X G cd 16 "need_worths" 36 (fun F => ok_needworths F TD hNd hPcs) (fun _ _ _ _ _ _ us hl => match us, hl with | [_, _], _ => rfl)
  have hN : HasN P w K mg base (TsA K) := hasF X G cd 19 "need_leak_worths" 42 (fun F => ok_need F TD hNl hNw) (fun _ _ _ _ _ _ us hl => match us, hl with | [_, _, _], _ => rfl)
  have hLW : HasX P w K mg base "leak_worth" 10 n3 (spLk K (He.ga K "NoPlan") (TsA K) (vWorth K)) := hasX X G cd 22 "leak_worth" 45 (fun F => ok_lworth F hN hPlan hWo) (fun _ _ _ _ _ _ us hl => match us, hl with | [_, _, _], _ => rfl)
  have hLP : HasX P w K mg base "leak_plan" 10 n3 (spLk K (He.ga K "NoPlan") (TsA K) (vPlan K)) := hasX X G cd 23 "leak_plan" 46 (fun F => ok_lplan F hN hPlan) (fun _ _ _ _ _ _ us hl => match us, hl with | [_, _, _], _ => rfl)
  have hLR : HasX P w K mg base "leak_prices" 10 n3 (spLk K (He.ga K "NoPlan") (TsA K) (vPris K)) := hasX X G cd 24 "leak_prices" 47 (fun F => ok_lpris F TP hQ hN hPo) (fun _ _ _ _ _ _ us hl => match us, hl with | [_, _, _], _ => rfl)
  have hLr : HasLr P w K mg base := hasF X G cd 27 "_law_ratio" 52 (fun F => ok_lrat F TL) (fun _ _ _ _ _ _ us hl => match us, hl with | [_, _], _ => rfl)
  have hlp : Has P w K mg base CX0 "_law_plus" 2 l2 (sp2 K okL fun a b => vQ K (a + b)) := hasF X G cd 28 "_law_plus" 53 (fun F => ok_lplus F hLr) (fun _ _ _ _ _ _ us hl => match us, hl with | [_, _], _ => rfl)
  have hlb : Has P w K mg base CX0 "_law_by" 2 l2 (sp2 K okL fun a b => vQ K (a * b)) := hasF X G cd 29 "_law_by" 54 (fun F => ok_lby F hLr) (fun _ _ _ _ _ _ us hl => match us, hl with | [_, _], _ => rfl)
  have hll : Has P w K mg base CX0 "_law_less" 1 l2 (sp2 K okL fun a b => vB (decide (a < b))) := hasF X G cd 31 "_law_less" 56 (fun F => ok_lless F) (fun _ _ _ _ _ _ us hl => match us, hl with | [_, _], _ => rfl)
  have hL : HasL P w K mg base := ⟨hLr, hlp, hlb, hll⟩
  have hOv : HasOv P w K mg base := hasF X G cd 37 "_law_over" 62 (fun F => ok_lover F hL) (fun _ _ _ _ _ _ us hl => match us, hl with | [_, _], _ => rfl)
  have hSm : HasSm P w K mg base := hasF X G cd 30 "_law_sum" 55 (fun F => ok_lsum F hL) (fun _ _ _ _ _ _ us hl => match us, hl with | [_], _ => rfl)
  have hIs : HasIs P w K mg base := hasF X G cd 32 "_law_is_ratio" 57 (fun F => ok_lis F TL hL) (fun _ _ _ _ _ _ us hl => match us, hl with | [_], _ => rfl)
  have hLWo : Has P w K mg base CX0 "_law_worth" 4 ["_law_worths", "_law_plan"] (spWorth K) := hasF X G cd 35 "_law_worth" 60 (fun F => ok_lworth2 F TL hL) (fun _ _ _ _ _ _ us hl => match us, hl with | [_, _], _ => rfl)
  have hLHo : Has P w K mg base CX0 "_law_leak_holds" 3 ["_law_dam", "_law_loss"] (spHolds K) := hasF X G cd 39 "_law_leak_holds" 64 (fun F => ok_lholds F TL hL) (fun _ _ _ _ _ _ us hl => match us, hl with | [_, _], _ => rfl)
  have hLPn : Has P w K mg base CX0 "_law_leak_plan" 4 ["_law_dam", "_law_loss", "_law_value"] (spLPlan K) := hasF X G cd 36 "_law_leak_plan" 61 (fun F => ok_lplan2 F TL hL hIs) (fun _ _ _ _ _ _ us hl => match us, hl with | [_, _, _], _ => rfl)
  have hLBd : Has P w K mg base CX0 "_law_leak_bound" 5 ["_law_dam", "_law_loss", "_law_worths", "_law_value"] (spBound K) := hasF X G cd 38 "_law_leak_bound" 63 (fun F => ok_lbound F TL hL hIs hSm hOv) (fun _ _ _ _ _ _ us hl => match us, hl with | [_, _, _, _], _ => rfl)
  have hTk : HasT P w K mg base := hasF X G cd 25 "_law_taken" 49 (fun F => ok_taken F TL) (fun _ _ _ _ _ _ us hl => match us, hl with | [_, _], _ => rfl)
  have hPk : HasPk P w K mg base := hasF X G cd 26 "_law_pick" 50 (fun F => ok_pick F TL hTk) (fun _ _ _ _ _ _ us hl => match us, hl with | [_, _], _ => rfl)
  have hCs : Has P w K mg base CX0 "_law_leak_worths" 4 ["_law_row"] (spCase K) := hasF X G cd 34 "_law_leak_worths" 59 (fun F => ok_case F TL hTk hPk hLr) (fun _ _ _ _ _ _ us hl => match us, hl with | [_], _ => rfl)
  exact ⟨hCs, hLW, hLP, hLR, hLHo, hIs, hLPn, hLWo, hLBd⟩
theorem lawAt {fa : Addr} (X : K.In h) (G : h.Ns mainGlobals mg) (hfa : mg "law" = some (.ref fa)) (c : He.SaysX faA fnA [] tfA exA w h K) : LamX.LawAtS PySem.Challenge.rw_damworks_k36_whole_leaking_worths w K CX0 13 63 "_law_script" mg fa h := by
  have cd := c.t.d
  have M := more_of c.more
  obtain ⟨fdL, FL, gL⟩ := getF X G cd 40 "law" 65 rfl rfl
  have e := Option.some.inj (hfa.symm.trans gL)
  have e : fa = He.ga K "law" := by injection e
  subst e
  have mL : (("law", none) : He.Defn) ∈ tfA := List.mem_cons_self
  have mT : ∀ p ∈ tfA.tail, p ∈ tfA := fun p hp => List.mem_cons_of_mem _ hp
  refine ⟨fdL, tfA.map (He.cT K), spLaw K (He.cT K ("law", none)).2 (TsA K), fun p hp => ?_, fun p hp => ?_, fun p hp => ?_, fun s u => ?_, fun H a ns _ _ hT hS => ?_, fun base KB GB TB => ?_⟩
  · obtain ⟨q, hq, rfl⟩ := List.mem_map.mp hp
    exact c.empty q hq
  · obtain ⟨q, hq, rfl⟩ := List.mem_map.mp hp
    exact c.out q hq
  · obtain ⟨q, hq, rfl⟩ := List.mem_map.mp hp
    exact PySem.W.codeHd_of_K X (c.hd q hq)
  · exact FL.bindsA (ps := ["_law_script"]) (fun _ _ _ _ _ _ us hl => match us, hl with | [_], _ => rfl) s [u] rfl
  · refine ⟨a, ns, rfl, hS, hT _ (List.mem_map.mpr ⟨_, mL, rfl⟩), fun T hT' => ?_, fun _ => rfl⟩
    obtain ⟨q, hq, rfl⟩ := List.mem_map.mp hT'
    exact hT _ (List.mem_map.mpr ⟨q, mT q hq, rfl⟩)
  · have TB' : ∀ p ∈ tfA, LamX.TabB base mg (He.cT K p).1 (He.cT K p).2 := fun p hp => TB _ (List.mem_map.mpr ⟨p, hp, rfl⟩)
    refine ok_law (funC_of (f := 0) FL) (txL X G cd) (txN X G cd) (all_of X G cd M TB') (td_of X G cd M) (TB' _ mL) fun z => ?_
    obtain ⟨q, hq, e⟩ := List.mem_map.mp z
    exact M.ne q hq e
end
end Dw
set_option Elab.async false
set_option linter.all false
set_option maxRecDepth 100000
set_option maxHeartbeats 0
open PySem PySem.W PySem.Calls PyProof.Rows
theorem PySem.Challenge.cw_damworks_k36_whole_leaking_worths_holds : PySem.Challenge.rw_damworks_k36_whole_leaking_worths.Holds := by
  w_on; o_law
  refine HandSHeadRun.head_imp (r := OpenLaw.row PySem.Challenge.rw_damworks_k36_whole_leaking_worths) (q := Dw.Vw) (H := Dw.hkA) (ob := Dw.obA) (M := 12000) (loose := Dw.nmA) (d := HandSHeadRun.topDef (OpenLaw.row PySem.Challenge.rw_damworks_k36_whole_leaking_worths).prog 65) (kwd := []) Dw.obA_eq Dw.runA
    (by kernel_rfl) (by kernel_rfl) (by kernel_rfl) (by rfl) (by first | assumption | decide +kernel) (by decide +kernel) ⟨rfl, rfl, rfl, rfl, rfl, by decide +kernel⟩ ?hw ?hc
  case hw => w_witness2
  case hc =>
    refine LamX.walk_ofTsE (l := PySem.Challenge.rw_damworks_k36_whole_leaking_worths) (n := 63) (k := 13) (x := "_law_script") (CX := fun _ => L2.CX0) rfl (by decide) (by kernel_rfl) ⟨rfl, by decide, by decide⟩ ?F (fun _ _ _ _ _ z => z)
    intro w mg fa h Y G hmg0
    obtain ⟨K, KX, c⟩ := Y
    have hmg : mg ("law" : PySem.Str) = some (.ref fa) := by
      have e : (HandSHeadRun.topDef (OpenLaw.row PySem.Challenge.rw_damworks_k36_whole_leaking_worths).prog 65).name = ("law" : PySem.Str) := by kernel_rfl
      rw [← e]
      exact hmg0
    exact ⟨K, KX, Dw.lawAt KX G hmg c⟩
