import PyProof.Rows.All
import Wide.All
import OpenK.AllK
import Wide.FinOn
import HandS.ForMost
import HandS.Codes
import HandS.IsInst
import HandS.Conv
import HandS.Wide
import HandS.WideBits
import HandS.Evl
import HandS.Deep
import HandS.TupAny
import HandS.TupMul
import HandS.Rev
import HandS.Style
import HandS.Flow
import HandS.Star
import HandS.Small
import HandS.Walk
import HandS.SortInts
import HandS.ClsMeth
import HandS.Defaults
import HandS.ForExc
import HandS.HeadHook1
import HandS.HeadHook2
import HandS.HeadEnd
import HandS.GenYield
import HandS.GenCall
import HandS.ExcInit
import KE.KExcSuper
import HandS.Head0
import HandS.Head1
import HandS.Head2
import KE.GoesEnum
import HandS.OwnEq
import HandS.GenList
import PySem.Challenge.RW_spreadlots_k18_whole_numbers_of_two_side
section
set_option Elab.async false
set_option linter.all false
namespace Mth
/-! ### sums -/
def sumN : Nat → (Nat → Int) → Int
  | 0, _ => 0
  | n + 1, f => sumN n f + f n
theorem sumN_congr {f g : Nat → Int} : ∀ {n : Nat}, (∀ i, i < n → f i = g i) → sumN n f = sumN n g
  | 0, _ => rfl
  | n + 1, h => by
    show sumN n f + f n = sumN n g + g n
    rw [sumN_congr fun i hi => h i (by omega), h n (by omega)]
theorem sumN_zero {f : Nat → Int} : ∀ {n : Nat}, (∀ i, i < n → f i = 0) → sumN n f = 0
  | 0, _ => rfl
  | n + 1, h => by
    show sumN n f + f n = 0
    rw [sumN_zero fun i hi => h i (by omega), h n (by omega)]; rfl
theorem sumN_lin {f g : Nat → Int} (x y : Int) : ∀ {n : Nat}, sumN n (fun i => x * f i + y * g i) = x * sumN n f + y * sumN n g
  | 0 => by simp [sumN]
  | n + 1 => by
    show sumN n _ + (x * f n + y * g n) = x * (sumN n f + f n) + y * (sumN n g + g n)
    rw [sumN_lin x y]; grind
theorem sumN_one {f : Nat → Int} {a : Nat} : ∀ {n : Nat}, a < n → (∀ i, i < n → i ≠ a → f i = 0) → sumN n f = f a
  | 0, h, _ => absurd h (Nat.not_lt_zero _)
  | n + 1, h, z => by
    show sumN n f + f n = f a
    by_cases e : a = n
    · subst e
      rw [sumN_zero fun i hi => z i (by omega) (by omega)]; omega
    · rw [sumN_one (by omega) fun i hi ne => z i (by omega) ne, z n (by omega) (by omega)]; omega
theorem sumN_two {f : Nat → Int} {a b : Nat} : ∀ {n : Nat}, a < b → b < n → (∀ i, i < n → i ≠ a → i ≠ b → f i = 0) → sumN n f = f a + f b
  | 0, _, h, _ => absurd h (Nat.not_lt_zero _)
  | n + 1, hab, h, z => by
    show sumN n f + f n = f a + f b
    by_cases e : b = n
    · subst e
      rw [sumN_one hab fun i hi ne => z i (by omega) ne (by omega)]
    · rw [sumN_two hab (by omega) fun i hi na nb => z i (by omega) na nb, z n (by omega) (by omega) (by omega)]; omega
/-! ### determinants -/
def sgn (i m : Nat) : Int := if (i + m) % 2 = 0 then 1 else -1
def skip (a r : Nat) : Nat := if r < a then r else r + 1
abbrev Mat := Nat → Nat → Int
def det : Nat → Mat → Int
  | 0, _ => 1
  | m + 1, M => sumN (m + 1) fun i => sgn i m * M i m * det m (fun r => M (skip i r))
theorem det_succ (m : Nat) (M : Mat) : det (m + 1) M = sumN (m + 1) fun i => sgn i m * M i m * det m (fun r => M (skip i r)) := rfl
theorem skip_lt {a r m : Nat} (h : r < m) : skip a r < m + 1 := by unfold skip; split <;> omega
theorem skip_ne {a r : Nat} : skip a r ≠ a := by unfold skip; split <;> omega
theorem skip_of {a i m : Nat} (h : a ≠ i) (ha : a < m + 1) (hi : i < m + 1) : ∃ r, r < m ∧ skip i r = a := by
  by_cases l : a < i
  · exact ⟨a, by omega, by unfold skip; rw [if_pos l]⟩
  · exact ⟨a - 1, by omega, by unfold skip; rw [if_neg (by omega)]; omega⟩
theorem skip_inj {i r s : Nat} (h : skip i r = skip i s) : r = s := by
  unfold skip at h; split at h <;> split at h <;> omega
theorem det_congr : ∀ {n : Nat} {M M' : Mat}, (∀ i, i < n → ∀ j, j < n → M i j = M' i j) → det n M = det n M'
  | 0, _, _, _ => rfl
  | m + 1, M, M', h => by
    rw [det_succ, det_succ]
    refine sumN_congr fun i hi => ?_
    rw [h i hi m (by omega), det_congr (n := m) (M := fun r => M (skip i r)) (M' := fun r => M' (skip i r)) fun r hr j hj => h _ (skip_lt hr) j (by omega)]
/-- linear in row a -/
theorem det_lin (x y : Int) : ∀ {n : Nat} {a : Nat} {M U V : Mat}, a < n → (∀ i, i < n → i ≠ a → ∀ j, j < n → U i j = M i j ∧ V i j = M i j) → (∀ j, j < n → M a j = x * U a j + y * V a j) → det n M = x * det n U + y * det n V
  | 0, _, _, _, _, h, _, _ => absurd h (Nat.not_lt_zero _)
  | m + 1, a, M, U, V, ha, ho, hr => by
    rw [det_succ, det_succ, det_succ, ← sumN_lin]
    refine sumN_congr fun i hi => ?_
    by_cases e : i = a
    · subst e
      have h1 : det m (fun r => U (skip i r)) = det m (fun r => M (skip i r)) := det_congr fun r hr' j hj => (ho _ (skip_lt hr') skip_ne j (by omega)).1
      have h2 : det m (fun r => V (skip i r)) = det m (fun r => M (skip i r)) := det_congr fun r hr' j hj => (ho _ (skip_lt hr') skip_ne j (by omega)).2
      rw [h1, h2, hr m (by omega)]; grind
    · obtain ⟨a', ha', ea⟩ := skip_of (a := a) (i := i) (m := m) (fun q => e q.symm) ha hi
      have h1 := det_lin x y (n := m) (a := a') (M := fun r => M (skip i r)) (U := fun r => U (skip i r)) (V := fun r => V (skip i r)) ha'
        (fun r hr' ne j hj => ho _ (skip_lt hr') (fun q => ne (skip_inj (q.trans ea.symm))) j (by omega)) (fun j hj => by rw [ea]; exact hr j (by omega))
      obtain ⟨q1, q2⟩ := ho i hi e m (by omega)
      rw [h1, q1, q2]; grind
theorem det_row0 {n a : Nat} {M : Mat} (ha : a < n) (h : ∀ j, j < n → M a j = 0) : det n M = 0 := by
  have := det_lin 0 0 (n := n) (a := a) (M := M) (U := M) (V := M) ha (fun _ _ _ _ _ => ⟨rfl, rfl⟩) (fun j hj => by rw [h j hj]; omega)
  rw [this]; omega
/-- two neighbouring rows alike -/
theorem det_adj : ∀ {n : Nat} {a : Nat} {M : Mat}, a + 1 < n → (∀ j, j < n → M a j = M (a + 1) j) → det n M = 0
  | 0, _, _, h, _ => absurd h (Nat.not_lt_zero _)
  | m + 1, a, M, ha, he => by
    rw [det_succ, sumN_two (a := a) (b := a + 1) (by omega) ha]
    · have e : det m (fun r => M (skip a r)) = det m (fun r => M (skip (a + 1) r)) := det_congr fun r hr j hj => by
        unfold skip
        by_cases h1 : r < a
        · rw [if_pos h1, if_pos (by omega)]
        · by_cases h2 : r = a
          · subst h2
            rw [if_neg (by omega), if_pos (by omega)]
            exact (he j (by omega)).symm
          · rw [if_neg h1, if_neg (by omega)]
      rw [e, he m (by omega)]
      have es : sgn a m = - sgn (a + 1) m := by unfold sgn; split <;> split <;> omega
      rw [es]; grind
    · intro i hi na nb
      have : det m (fun r => M (skip i r)) = 0 := by
        by_cases l : i < a
        · refine det_adj (a := a - 1) (by omega) fun j hj => ?_
          show M (skip i (a - 1)) j = M (skip i (a - 1 + 1)) j
          have e1 : skip i (a - 1) = a := by unfold skip; rw [if_neg (by omega)]; omega
          have e2 : skip i (a - 1 + 1) = a + 1 := by unfold skip; rw [if_neg (by omega)]; omega
          rw [e1, e2]; exact he j (by omega)
        · refine det_adj (a := a) (by omega) fun j hj => ?_
          show M (skip i a) j = M (skip i (a + 1)) j
          have e1 : skip i a = a := by unfold skip; rw [if_pos (by omega)]
          have e2 : skip i (a + 1) = a + 1 := by unfold skip; rw [if_pos (by omega)]
          rw [e1, e2]; exact he j (by omega)
      rw [this]; omega
def setR (M : Mat) (a : Nat) (u : Nat → Int) : Mat := fun i => if i = a then u else M i
theorem setR_same {M : Mat} {a : Nat} {u : Nat → Int} : setR M a u a = u := by unfold setR; rw [if_pos rfl]
theorem setR_ne {M : Mat} {a i : Nat} {u : Nat → Int} (h : i ≠ a) : setR M a u i = M i := by unfold setR; rw [if_neg h]
theorem setR_self {M : Mat} {a : Nat} : setR M a (M a) = M := by
  funext i; unfold setR; split
  · rename_i h; rw [h]
  · rfl
theorem det_set (x y : Int) {n a : Nat} {M : Mat} {u v w : Nat → Int} (ha : a < n) (h : ∀ j, j < n → w j = x * u j + y * v j) : det n (setR M a w) = x * det n (setR M a u) + y * det n (setR M a v) := by
  refine det_lin x y ha (fun i hi ne j hj => ?_) fun j hj => ?_
  · rw [setR_ne ne, setR_ne ne, setR_ne ne]; exact ⟨rfl, rfl⟩
  · rw [setR_same, setR_same, setR_same]; exact h j hj
theorem setR_comm {M : Mat} {a b : Nat} {u v : Nat → Int} (h : a ≠ b) : setR (setR M a u) b v = setR (setR M b v) a u := by
  funext i; unfold setR
  by_cases h1 : i = a
  · by_cases h2 : i = b
    · omega
    · rw [if_neg h2, if_pos h1, if_pos h1]
  · by_cases h2 : i = b
    · rw [if_pos h2, if_neg h1, if_pos h2]
    · rw [if_neg h2, if_neg h1, if_neg h1, if_neg h2]
/-- swapping, where two alike rows at a, b give 0 -/
theorem swap_of {n a b : Nat} {M : Mat} {u v : Nat → Int} (ha : a < n) (hb : b < n) (hab : a ≠ b) (z : ∀ w : Nat → Int, det n (setR (setR M a w) b w) = 0) :
    det n (setR (setR M a u) b v) = - det n (setR (setR M a v) b u) := by
  have h := z (fun j => u j + v j)
  rw [det_set 1 1 (u := u) (v := v) hb (fun j _ => by omega), setR_comm hab, setR_comm (u := fun j => u j + v j) (v := v) hab, det_set 1 1 (M := setR M b u) (u := u) (v := v) ha (fun j _ => by omega),
    det_set 1 1 (M := setR M b v) (u := u) (v := v) ha (fun j _ => by omega), setR_comm hab.symm, setR_comm (u := u) (v := v) hab.symm, setR_comm (u := v) (v := u) hab.symm, setR_comm (u := v) (v := v) hab.symm, z u, z v] at h
  omega
theorem det_eq_rows : ∀ {d a n : Nat} {M : Mat}, a + d + 1 < n → (∀ j, j < n → M a j = M (a + d + 1) j) → det n M = 0
  | 0, a, n, M, h, e => det_adj h e
  | d + 1, a, n, M, h, e => by
    have e1 : det n M = det n (setR (setR M (a + d + 1) (M (a + d + 1))) (a + d + 2) (M (a + d + 2))) := by rw [setR_self, setR_self]
    rw [e1, swap_of (by omega) (by omega) (by omega)]
    · have e2 : det n (setR (setR M (a + d + 1) (M (a + d + 2))) (a + d + 2) (M (a + d + 1))) = 0 := by
        refine det_eq_rows (d := d) (a := a) (by omega) fun j hj => ?_
        rw [setR_ne (show a ≠ a + d + 2 by omega), setR_ne (show a ≠ a + d + 1 by omega), setR_ne (show a + d + 1 ≠ a + d + 2 by omega), setR_same]
        exact e j hj
      rw [e2]; rfl
    · intro w
      refine det_adj (a := a + d + 1) (by omega) fun j hj => ?_
      rw [setR_ne (show a + d + 1 ≠ a + d + 2 by omega), setR_same]
      show w j = setR (setR M (a + d + 1) w) (a + d + 2) w (a + d + 2) j
      rw [setR_same]
theorem det_alike {n a b : Nat} {M : Mat} (ha : a < n) (hb : b < n) (hab : a ≠ b) (e : ∀ j, j < n → M a j = M b j) : det n M = 0 := by
  by_cases l : a < b
  · have q : b = a + (b - a - 1) + 1 := by omega
    rw [q] at e hb
    exact det_eq_rows hb e
  · have q : a = b + (a - b - 1) + 1 := by omega
    rw [q] at e ha
    exact det_eq_rows ha fun j hj => (e j hj).symm
theorem det_swap {n a b : Nat} {M : Mat} {u v : Nat → Int} (ha : a < n) (hb : b < n) (hab : a ≠ b) : det n (setR (setR M a u) b v) = - det n (setR (setR M a v) b u) :=
  swap_of ha hb hab fun w => det_alike ha hb hab fun j _ => by rw [setR_ne hab, setR_same, setR_same]
/-- a row that is x times u and multiples of other rows -/
theorem det_comb (x : Int) (c : Nat → Int) {n a : Nat} {M : Mat} {u : Nat → Int} (ha : a < n) : ∀ {k : Nat}, k ≤ n → (∀ r, r < k → c r ≠ 0 → r ≠ a) → det n (setR M a (fun j => x * u j + sumN k (fun r => c r * M r j))) = x * det n (setR M a u)
  | 0, _, _ => by
    rw [det_set x 0 (u := u) (v := u) ha (fun j _ => by show x * u j + 0 = _; omega)]; omega
  | k + 1, hk, hc => by
    have ih := det_comb x c (M := M) (u := u) ha (k := k) (by omega) fun r hr => hc r (by omega)
    rw [det_set 1 (c k) (u := fun j => x * u j + sumN k (fun r => c r * M r j)) (v := M k) ha (fun j _ => by show x * u j + (sumN k _ + c k * M k j) = _; omega), ih]
    by_cases e : c k = 0
    · rw [e]; omega
    · have ne := hc k (by omega) e
      rw [det_alike (M := setR M a (M k)) ha (show k < n by omega) (fun q => ne q.symm) fun j _ => by rw [setR_same, setR_ne ne]]
      omega
/-! ### blocks of zeros -/
theorem det_zblock : ∀ {m p q : Nat} {M : Mat}, p < q → q ≤ m → (∀ i, p ≤ i → i < m → ∀ j, j < q → M i j = 0) → det m M = 0
  | 0, p, q, M, h1, h2, _ => by omega
  | m + 1, p, q, M, h1, h2, z => by
    by_cases e : q = m + 1
    · exact det_row0 (a := p) (by omega) fun j hj => z p (Nat.le_refl _) (by omega) j (by omega)
    · rw [det_succ]
      refine sumN_zero fun i hi => ?_
      have : det m (fun r => M (skip i r)) = 0 := by
        by_cases l : i < p
        · refine det_zblock (p := p - 1) (q := q) (by omega) (by omega) fun r hr hr2 j hj => z _ ?_ (skip_lt hr2) j hj
          unfold skip; rw [if_neg (by omega)]; omega
        · refine det_zblock (p := p) (q := q) h1 (by omega) fun r hr hr2 j hj => z _ ?_ (skip_lt hr2) j hj
          unfold skip; split <;> omega
      rw [this]; omega
theorem sgn_same (k : Nat) : sgn k k = 1 := by unfold sgn; rw [if_pos (by omega)]
theorem sgn_next (k : Nat) : sgn k (k + 1) = -1 := by unfold sgn; rw [if_neg (by omega)]
theorem det_block1 {k : Nat} {M : Mat} (z : ∀ j, j < k → M k j = 0) : det (k + 1) M = det k M * M k k := by
  rw [det_succ, sumN_one (a := k) (by omega)]
  · rw [sgn_same, det_congr (M := fun r => M (skip k r)) (M' := M) fun i hi j hj => by unfold skip; rw [if_pos hi]]
    grind
  · intro i hi ne
    have : det k (fun r => M (skip i r)) = 0 := by
      refine det_zblock (p := k - 1) (q := k) (by omega) (by omega) fun r hr hr2 j hj => ?_
      have : skip i r = k := by unfold skip; rw [if_neg (by omega)]; omega
      rw [this]; exact z j hj
    rw [this]; omega
theorem det_block2 {k : Nat} {M : Mat} (z : ∀ i, k ≤ i → i < k + 2 → ∀ j, j < k → M i j = 0) : det (k + 2) M = det k M * (M k k * M (k + 1) (k + 1) - M k (k + 1) * M (k + 1) k) := by
  rw [det_succ, sumN_two (a := k) (b := k + 1) (by omega) (by omega)]
  · rw [sgn_same, sgn_next]
    have e1 : det (k + 1) (fun r => M (skip k r)) = det k M * M (k + 1) k := by
      rw [det_block1]
      · have : skip k k = k + 1 := by unfold skip; rw [if_neg (by omega)]
        rw [this, det_congr (M := fun r => M (skip k r)) (M' := M) fun i hi j hj => by unfold skip; rw [if_pos hi]]
      · intro j hj
        have : skip k k = k + 1 := by unfold skip; rw [if_neg (by omega)]
        rw [this]; exact z (k + 1) (by omega) (by omega) j hj
    have e2 : det (k + 1) (fun r => M (skip (k + 1) r)) = det k M * M k k := by
      rw [det_congr (M := fun r => M (skip (k + 1) r)) (M' := M) fun i hi j hj => by unfold skip; rw [if_pos hi]]
      exact det_block1 fun j hj => z k (by omega) (by omega) j hj
    rw [e1, e2]; grind
  · intro i hi n1 n2
    have : det (k + 1) (fun r => M (skip i r)) = 0 := by
      refine det_zblock (p := k - 1) (q := k) (by omega) (by omega) fun r hr hr2 j hj => z _ ?_ (skip_lt hr2) j hj
      unfold skip; rw [if_neg (by omega)]; omega
    rw [this]; omega
end Mth
end
section
set_option Elab.async false
set_option linter.all false
namespace Mth
/-! ### elimination without fractions -/
/-- the minor on the first k rows and row i, the first k columns and column j -/
def bd (k : Nat) (A : Mat) (i j : Nat) : Mat := fun r c => (if r < k then A r else A i) (if c < k then c else j)
def mdet (k : Nat) (A : Mat) (i j : Nat) : Int := det (k + 1) (bd k A i j)
theorem bd_skip (k : Nat) (A : Mat) (i j : Nat) : det k (fun r => bd k A i j (skip k r)) = det k A := det_congr fun r hr c hc => by
  unfold bd skip; rw [if_pos hr, if_pos hr, if_pos hc]
/-- .. is row i times the leading minor, and multiples of the first k rows -/
theorem mdet_comb (k : Nat) (A : Mat) (i : Nat) : ∃ c : Nat → Int, ∀ j, mdet k A i j = det k A * A i j + sumN k (fun r => c r * A r j) := by
  refine ⟨fun r => sgn r k * det k (fun s => bd k A i 0 (skip r s)), fun j => ?_⟩
  unfold mdet
  rw [det_succ]
  show sumN k _ + sgn k k * bd k A i j k k * det k (fun r => bd k A i j (skip k r)) = _
  rw [bd_skip, sgn_same]
  have e1 : bd k A i j k k = A i j := by unfold bd; rw [if_neg (Nat.lt_irrefl k), if_neg (Nat.lt_irrefl k)]
  rw [e1]
  have e2 : sumN k (fun r => sgn r k * bd k A i j r k * det k (fun s => bd k A i j (skip r s))) = sumN k (fun r => sgn r k * det k (fun s => bd k A i 0 (skip r s)) * A r j) := by
    refine sumN_congr fun r hr => ?_
    have e3 : bd k A i j r k = A r j := by unfold bd; rw [if_pos hr, if_neg (Nat.lt_irrefl k)]
    have e4 : det k (fun s => bd k A i j (skip r s)) = det k (fun s => bd k A i 0 (skip r s)) := det_congr fun s hs c hc => by
      unfold bd; rw [if_pos hc, if_pos hc]
    rw [e3, e4]; grind
  rw [e2]; grind
theorem mdet_congr {k : Nat} {A B : Mat} {i i' j : Nat} (h : ∀ r, r < k → ∀ c, A r c = B r c) (hi : ∀ c, A i c = B i' c) : mdet k A i j = mdet k B i' j := by
  unfold mdet
  refine det_congr fun r hr c hc => ?_
  unfold bd
  by_cases l : r < k
  · rw [if_pos l, if_pos l]; exact h r l _
  · rw [if_neg l, if_neg l]; exact hi _
theorem mdet_next (k : Nat) (A : Mat) : mdet k A k k = det (k + 1) A := by
  unfold mdet
  refine det_congr fun r hr c hc => ?_
  unfold bd
  have e1 : (if c < k then c else k) = c := by split <;> omega
  rw [e1]
  by_cases l : r < k
  · rw [if_pos l]
  · rw [if_neg l]
    have : r = k := by omega
    rw [this]
/-- what stands behind k turns, W: A is the given rows, s the sign, b the last pivot -/
structure BI (n : Nat) (A0 : Mat) (k : Nat) (W : Mat) (s b : Int) : Prop where
  ex : ∃ A : Mat, s * det n A = det n A0 ∧ b = det k A ∧ b ≠ 0 ∧ (∀ i, k ≤ i → i < n → ∀ j, j < n → W i j = mdet k A i j) ∧ (∀ i, k ≤ i → i < n → ∀ j, j < k → W i j = 0)
theorem BI.start {n : Nat} {A0 W : Mat} (h : ∀ i, i < n → ∀ j, j < n → W i j = A0 i j) : BI n A0 0 W 1 1 :=
  ⟨A0, by omega, rfl, by omega, fun i _ hi j hj => by
    rw [h i hi j hj]
    show A0 i j = sumN 1 (fun r => sgn r 0 * bd 0 A0 i j r 0 * det 0 (fun s => bd 0 A0 i j (skip r s)))
    show A0 i j = 0 + sgn 0 0 * A0 i j * 1
    rw [sgn_same]; omega, fun i _ _ j hj => absurd hj (Nat.not_lt_zero _)⟩
/-- rows k and c change places -/
theorem BI.swap {n k c : Nat} {A0 W W' : Mat} {s b : Int} (h : BI n A0 k W s b) (hc : k < c) (hcn : c < n) (hk : ∀ j, j < n → W' k j = W c j) (hc' : ∀ j, j < n → W' c j = W k j) (ho : ∀ i, i < n → i ≠ k → i ≠ c → ∀ j, j < n → W' i j = W i j) :
    BI n A0 k W' (-s) b := by
  obtain ⟨A, h1, h2, h3, h4, h5⟩ := h.ex
  let B : Mat := setR (setR A k (A c)) c (A k)
  have Bk : B k = A c := by show setR (setR A k (A c)) c (A k) k = _; rw [setR_ne (by omega), setR_same]
  have Bc : B c = A k := by show setR (setR A k (A c)) c (A k) c = _; rw [setR_same]
  have Bo : ∀ i, i ≠ k → i ≠ c → B i = A i := fun i n1 n2 => by show setR (setR A k (A c)) c (A k) i = _; rw [setR_ne n2, setR_ne n1]
  have e : det n B = - det n A := by
    show det n (setR (setR A k (A c)) c (A k)) = _
    rw [det_swap (by omega) hcn (by omega), setR_self, setR_self]
  have low : ∀ r, r < k → ∀ c', B r c' = A r c' := fun r hr c' => by rw [Bo r (by omega) (by omega)]
  refine ⟨B, by rw [e, ← h1]; grind, ?_, h3, fun i hi hin j hj => ?_, fun i hi hin j hj => ?_⟩
  · rw [h2]; exact det_congr fun i hi j hj => by rw [Bo i (by omega) (by omega)]
  · by_cases e1 : i = k
    · subst e1
      rw [hk j hj, h4 c (by omega) hcn j hj]
      exact mdet_congr (fun r hr c' => (low r hr c').symm) fun c' => by rw [Bk]
    · by_cases e2 : i = c
      · subst e2
        rw [hc' j hj, h4 k (Nat.le_refl _) (by omega) j hj]
        exact mdet_congr (fun r hr c' => (low r hr c').symm) fun c' => by rw [Bc]
      · rw [ho i hin e1 e2 j hj, h4 i hi hin j hj]
        exact mdet_congr (fun r hr c' => (low r hr c').symm) fun c' => by rw [Bo i e1 e2]
  · by_cases e1 : i = k
    · subst e1; rw [hk j (by omega)]; exact h5 c (by omega) hcn j hj
    · by_cases e2 : i = c
      · subst e2; rw [hc' j (by omega)]; exact h5 k (Nat.le_refl _) (by omega) j hj
      · rw [ho i hin e1 e2 j (by omega)]; exact h5 i hi hin j hj
theorem sylvester {n k : Nat} {A W : Mat} {b : Int} (hk : k < n) (h2 : b = det k A) (h3 : b ≠ 0) (h4 : ∀ i, k ≤ i → i < n → ∀ j, j < n → W i j = mdet k A i j) (h5 : ∀ i, k ≤ i → i < n → ∀ j, j < k → W i j = 0)
    {i j : Nat} (hi : k < i) (hin : i < n) (hj : j < n) : b * mdet (k + 1) A i j = W i j * W k k - W i k * W k j := by
  obtain ⟨c1, q1⟩ := mdet_comb k A k
  obtain ⟨c2, q2⟩ := mdet_comb k A i
  let N : Mat := bd (k + 1) A i j
  let f : Nat → Nat := fun c => if c < k + 1 then c else j
  have hf : ∀ c, f c < n := fun c => by show (if c < k + 1 then c else j) < n; split <;> omega
  have Nlow : ∀ r, r < k + 1 → ∀ c, N r c = A r (f c) := fun r hr c => by show bd (k + 1) A i j r c = _; unfold bd; rw [if_pos hr]
  have Nlast : ∀ c, N (k + 1) c = A i (f c) := fun c => by show bd (k + 1) A i j (k + 1) c = _; unfold bd; rw [if_neg (Nat.lt_irrefl _)]
  let w1 : Nat → Int := fun c => W k (f c)
  let w2 : Nat → Int := fun c => W i (f c)
  have s1 : det (k + 2) (setR (setR N k w1) (k + 1) w2) = b * (b * det (k + 2) N) := by
    have e1 : setR (setR N k w1) (k + 1) w2 = setR (setR N k w1) (k + 1) (fun c => b * N (k + 1) c + sumN k (fun r => c2 r * setR N k w1 r c)) := by
      congr 1
      funext c
      show W i (f c) = _
      rw [h4 i (by omega) hin _ (hf c), q2, ← h2, Nlast]
      congr 1
      exact sumN_congr fun r hr => by rw [setR_ne (by omega), Nlow r (by omega)]
    rw [e1, det_comb b c2 (u := N (k + 1)) (by omega) (by omega) (fun r hr _ => by omega)]
    have e2 : setR (setR N k w1) (k + 1) (N (k + 1)) = setR N k w1 := by
      rw [setR_comm (by omega), setR_self]
    have e3 : setR N k w1 = setR N k (fun c => b * N k c + sumN k (fun r => c1 r * N r c)) := by
      congr 1
      funext c
      show W k (f c) = _
      rw [h4 k (Nat.le_refl _) hk _ (hf c), q1, ← h2, Nlow k (by omega)]
      congr 1
      exact sumN_congr fun r hr => by rw [Nlow r (by omega)]
    rw [e2, e3, det_comb b c1 (u := N k) (by omega) (by omega) (fun r hr _ => by omega), setR_self]
  have s2 : det (k + 2) (setR (setR N k w1) (k + 1) w2) = b * (W k k * W i j - W k j * W i k) := by
    rw [det_block2]
    · have a1 : setR (setR N k w1) (k + 1) w2 k = w1 := by rw [setR_ne (by omega), setR_same]
      have a2 : setR (setR N k w1) (k + 1) w2 (k + 1) = w2 := setR_same
      have a3 : det k (setR (setR N k w1) (k + 1) w2) = b := by
        rw [h2]
        refine det_congr fun r hr c hc => ?_
        rw [setR_ne (by omega), setR_ne (by omega), Nlow r (by omega)]
        show A r (if c < k + 1 then c else j) = _
        rw [if_pos (by omega)]
      have f1 : f k = k := by show (if k < k + 1 then k else j) = k; rw [if_pos (by omega)]
      have f2 : f (k + 1) = j := by show (if k + 1 < k + 1 then k + 1 else j) = j; rw [if_neg (by omega)]
      rw [a1, a2, a3]
      show b * (W k (f k) * W i (f (k + 1)) - W k (f (k + 1)) * W i (f k)) = _
      rw [f1, f2]
    · intro r hr hr2 c hc
      have fc : f c = c := by show (if c < k + 1 then c else j) = c; rw [if_pos (by omega)]
      by_cases e : r = k
      · subst e
        rw [setR_ne (by omega), setR_same]
        show W r (f c) = 0
        rw [fc]; exact h5 r (Nat.le_refl _) hk c hc
      · have e' : r = k + 1 := by omega
        subst e'
        rw [setR_same]
        show W i (f c) = 0
        rw [fc]; exact h5 i (by omega) hin c hc
  have s3 : b * (b * mdet (k + 1) A i j) = b * (W k k * W i j - W k j * W i k) := s1.symm.trans s2
  have s4 := Int.eq_of_mul_eq_mul_left h3 s3
  rw [s4]; grind
/-- one turn -/
theorem BI.turn {n k : Nat} {A0 W W' : Mat} {s b : Int} (h : BI n A0 k W s b) (hk : k < n) (hp : W k k ≠ 0) (hw : ∀ i, k < i → i < n → ∀ j, j < n → W' i j = (W i j * W k k - W i k * W k j).fdiv b) : BI n A0 (k + 1) W' s (W k k) := by
  obtain ⟨A, h1, h2, h3, h4, h5⟩ := h.ex
  refine ⟨A, h1, ?_, hp, fun i hi hin j hj => ?_, fun i hi hin j hj => ?_⟩
  · rw [h4 k (Nat.le_refl _) hk k hk, mdet_next]
  · rw [hw i (by omega) hin j hj, ← sylvester hk h2 h3 h4 h5 (by omega) hin hj]
    exact Int.mul_fdiv_cancel_left _ h3
  · rw [hw i (by omega) hin j (by omega)]
    by_cases e : j = k
    · subst e
      have : W i j * W j j - W i j * W j j = 0 := by omega
      rw [this]; exact Int.zero_fdiv b
    · rw [h5 i (by omega) hin j (by omega), h5 k (Nat.le_refl _) hk j (by omega)]
      have : (0 : Int) * W k k - W i k * 0 = 0 := by omega
      rw [this]; exact Int.zero_fdiv b
theorem BI.done {n : Nat} {A0 W : Mat} {s b : Int} (h : BI n A0 n W s b) : s * b = det n A0 := by
  obtain ⟨A, h1, h2, _⟩ := h.ex
  rw [h2, h1]
def upto (A W : Mat) (k p : Nat) : Mat := fun i => if k ≤ i ∧ i < p then W i else A i
theorem BI.zero {n k : Nat} {A0 W : Mat} {s b : Int} (h : BI n A0 k W s b) (hk : k < n) (hz : ∀ i, k ≤ i → i < n → W i k = 0) : det n A0 = 0 := by
  obtain ⟨A, h1, h2, h3, h4, h5⟩ := h.ex
  have key : ∀ d, k + d ≤ n → det n (upto A W k (k + d)) = b ^ d * det n A := by
    intro d
    induction d with
    | zero =>
      intro _
      rw [det_congr (M' := A) fun i hi j hj => by unfold upto; rw [if_neg (by omega)]]
      simp
    | succ d ih =>
      intro hd
      obtain ⟨c, q⟩ := mdet_comb k A (k + d)
      have e : det n (upto A W k (k + (d + 1))) = det n (setR (upto A W k (k + d)) (k + d) (fun j => b * A (k + d) j + sumN k (fun r => c r * upto A W k (k + d) r j))) := by
        refine det_congr fun i hi j hj => ?_
        by_cases e : i = k + d
        · subst e
          rw [setR_same]
          unfold upto
          rw [if_pos (by omega), h4 (k + d) (by omega) hi j hj, q, ← h2]
          congr 1
          exact sumN_congr fun r hr => by rw [if_neg (by omega)]
        · rw [setR_ne e]
          unfold upto
          by_cases l : k ≤ i ∧ i < k + d
          · rw [if_pos l, if_pos (by omega)]
          · rw [if_neg l, if_neg (by omega)]
      rw [e, det_comb b c (by omega) (by omega) (fun r hr _ => by omega)]
      have e2 : setR (upto A W k (k + d)) (k + d) (A (k + d)) = upto A W k (k + d) := by
        have : A (k + d) = upto A W k (k + d) (k + d) := by unfold upto; rw [if_neg (by omega)]
        rw [this, setR_self]
      rw [e2, ih (by omega), Int.pow_succ]; grind
  have e1 := key (n - k) (by omega)
  have e2 : det n (upto A W k (k + (n - k))) = 0 := by
    refine det_zblock (p := k) (q := k + 1) (by omega) (by omega) fun i hi hin j hj => ?_
    unfold upto
    rw [if_pos (by omega)]
    by_cases e : j = k
    · rw [e]; exact hz i hi hin
    · exact h5 i hi hin j (by omega)
  rw [e2] at e1
  have e3 : det n A = 0 := by
    rcases Int.mul_eq_zero.mp e1.symm with z | z
    · exact absurd z (Int.pow_ne_zero h3)
    · exact z
  rw [← h1, e3]; omega
end Mth
end
section
set_option Elab.async false
set_option linter.all false
namespace Mth
/-! ### chances of all sets -/
theorem sumN_app {f : Nat → Int} (a : Nat) : ∀ {b : Nat}, sumN (a + b) f = sumN a f + sumN b (fun m => f (a + m))
  | 0 => by show sumN a f = sumN a f + 0; omega
  | b + 1 => by
    show sumN (a + b) f + f (a + b) = sumN a f + (sumN b _ + f (a + b))
    rw [sumN_app a]; omega
def mix (u v w : Mat) (p m : Nat) : Mat := fun i => if i < p then (if m.testBit i then u i else v i) else w i
theorem multi (n : Nat) (u v : Mat) : ∀ (p : Nat) (w : Mat), p ≤ n → sumN (2 ^ p) (fun m => det n (mix u v w p m)) = det n (fun i => if i < p then (fun j => u i j + v i j) else w i)
  | 0, w, _ => by
    show (0 : Int) + det n (mix u v w 0 0) = _
    rw [det_congr (M := mix u v w 0 0) (M' := fun i => if i < 0 then (fun j => u i j + v i j) else w i) fun i _ j _ => rfl]; omega
  | p + 1, w, hp => by
    have hpn : p < n := by omega
    rw [Nat.pow_succ, Nat.mul_two, sumN_app]
    have e1 : sumN (2 ^ p) (fun m => det n (mix u v w (p + 1) m)) = sumN (2 ^ p) (fun m => det n (mix u v (setR w p (v p)) p m)) := by
      refine sumN_congr fun m hm => det_congr fun i hi j hj => ?_
      unfold mix setR
      by_cases h1 : i < p
      · rw [if_pos (by omega), if_pos h1]
      · by_cases h2 : i = p
        · subst h2
          rw [if_pos (Nat.lt_succ_self i), Nat.testBit_lt_two_pow hm, if_neg Bool.false_ne_true, if_neg (Nat.lt_irrefl i), if_pos rfl]
        · rw [if_neg (by omega), if_neg h1, if_neg h2]
    have e2 : sumN (2 ^ p) (fun m => det n (mix u v w (p + 1) (2 ^ p + m))) = sumN (2 ^ p) (fun m => det n (mix u v (setR w p (u p)) p m)) := by
      refine sumN_congr fun m hm => det_congr fun i hi j hj => ?_
      unfold mix setR
      by_cases h1 : i < p
      · rw [if_pos (by omega), if_pos h1, Nat.testBit_two_pow_add_gt h1]
      · by_cases h2 : i = p
        · subst h2
          rw [if_pos (Nat.lt_succ_self i), Nat.testBit_two_pow_add_eq, Nat.testBit_lt_two_pow hm, if_neg (Nat.lt_irrefl i), if_pos rfl]
          rfl
        · rw [if_neg (by omega), if_neg h1, if_neg h2]
    rw [e1, e2, multi n u v p _ (by omega), multi n u v p _ (by omega)]
    have h := det_lin 1 1 (n := n) (a := p) (M := fun i => if i < p + 1 then (fun j => u i j + v i j) else w i) (U := fun i => if i < p then (fun j => u i j + v i j) else setR w p (v p) i)
      (V := fun i => if i < p then (fun j => u i j + v i j) else setR w p (u p) i) hpn (fun i hi ne j hj => ?_) fun j hj => ?_
    · rw [h]; omega
    · by_cases h1 : i < p
      · rw [if_pos h1, if_pos h1, if_pos (by omega)]; exact ⟨rfl, rfl⟩
      · rw [if_neg h1, if_neg h1, if_neg (by omega), setR_ne ne, setR_ne ne]; exact ⟨rfl, rfl⟩
    · rw [if_pos (by omega), if_neg (by omega), if_neg (by omega), setR_same, setR_same]; omega
/-- D times the unit table -/
def unit (D : Int) : Mat := fun i j => if i = j then D else 0
theorem det_unit (D : Int) : ∀ n, det n (unit D) = D ^ n
  | 0 => by rw [Int.pow_zero]; rfl
  | n + 1 => by
    rw [det_block1 fun j hj => by unfold unit; rw [if_neg (by omega)], det_unit D n, Int.pow_succ]
    unfold unit; rw [if_pos rfl]
theorem sumN_ne {c u : Nat → Int} (a k : Nat) (x : Int) (h : ∀ r, r < k → r ≠ a → c r = x * u r) : sumN k (fun r => (if r = a then 0 else c r)) = sumN k (fun r => if r = a then 0 else x * u r) :=
  sumN_congr fun r hr => by split <;> first | rfl | (rename_i e; exact h r hr e)
/-- D times a row told by unit rows -/
theorem row_units {n : Nat} (D : Int) (u : Nat → Int) {j : Nat} (hj : j < n) : D * u j = sumN n (fun r => u r * unit D r j) := by
  rw [sumN_one (a := j) hj fun r hr ne => by unfold unit; rw [if_neg ne]; omega]
  unfold unit; rw [if_pos rfl]; grind
/-- one row of one's own among unit rows -/
theorem det_one {n a : Nat} (D : Int) (u : Nat → Int) (ha : a < n) : D * det n (setR (unit D) a u) = u a * D ^ n := by
  have e : D * det n (setR (unit D) a u) = det n (setR (unit D) a (fun j => u a * unit D a j + sumN n (fun r => (if r = a then 0 else u r) * unit D r j))) := by
    have q := det_set D 0 (n := n) (a := a) (M := unit D) (u := u) (v := u) (w := fun j => u a * unit D a j + sumN n (fun r => (if r = a then 0 else u r) * unit D r j)) ha fun j hj => by
      have q1 := row_units (n := n) D u hj
      have q2 : sumN n (fun r => u r * unit D r j) = u a * unit D a j + sumN n (fun r => (if r = a then 0 else u r) * unit D r j) := by
        have q3 := sumN_lin (n := n) 1 1 (f := fun r => if r = a then u a * unit D a j else 0) (g := fun r => (if r = a then 0 else u r) * unit D r j)
        rw [sumN_one (f := fun r => if r = a then u a * unit D a j else 0) ha fun i _ ne => if_neg ne, if_pos rfl] at q3
        rw [show u a * unit D a j + sumN n (fun r => (if r = a then 0 else u r) * unit D r j) = 1 * (u a * unit D a j) + 1 * sumN n (fun r => (if r = a then 0 else u r) * unit D r j) by omega, ← q3]
        refine sumN_congr fun r hr => ?_
        by_cases e : r = a
        · subst e; rw [if_pos rfl, if_pos rfl]; omega
        · rw [if_neg e, if_neg e]; omega
      omega
    omega
  rw [e, det_comb (u a) (fun r => if r = a then 0 else u r) (u := unit D a) (M := unit D) ha (Nat.le_refl n) (fun r hr ne q => ne (by rw [if_pos q])), setR_self, det_unit]
/-- two rows of one's own -/
theorem det_two {n a b : Nat} (D : Int) (u v : Nat → Int) (ha : a < n) (hb : b < n) (hab : a ≠ b) :
    D * (D * det n (setR (setR (unit D) a u) b v)) = (u a * v b - u b * v a) * D ^ n := by
  let M : Mat := setR (unit D) b v
  have hMb : M b = v := setR_same
  have e0 : setR (setR (unit D) a u) b v = setR M a u := setR_comm hab
  have q2 : ∀ j, j < n → D * u j = u a * unit D a j + u b * unit D b j + sumN n (fun r => (if r = a ∨ r = b then 0 else u r) * M r j) := by
    intro j hj
    have q1 := row_units (n := n) D u hj
    have q3 := sumN_lin (n := n) 1 1 (f := fun r => if r = a then u a * unit D a j else if r = b then u b * unit D b j else 0) (g := fun r => (if r = a ∨ r = b then 0 else u r) * M r j)
    have q4 : sumN n (fun r => if r = a then u a * unit D a j else if r = b then u b * unit D b j else 0) = u a * unit D a j + u b * unit D b j := by
      by_cases l : a < b
      · rw [sumN_two l hb fun i _ n1 n2 => by rw [if_neg n1, if_neg n2], if_pos rfl, if_neg (fun q => hab q.symm), if_pos rfl]
      · rw [sumN_two (show b < a by omega) ha fun i _ n1 n2 => by rw [if_neg n2, if_neg n1], if_pos rfl, if_neg (fun q => hab q.symm), if_pos rfl]; omega
    rw [q4] at q3
    rw [q1, show u a * unit D a j + u b * unit D b j + sumN n (fun r => (if r = a ∨ r = b then 0 else u r) * M r j) = 1 * (u a * unit D a j + u b * unit D b j) + 1 * sumN n (fun r => (if r = a ∨ r = b then 0 else u r) * M r j) by omega, ← q3]
    refine sumN_congr fun r hr => ?_
    by_cases e : r = a
    · subst e; rw [if_pos rfl, if_pos (.inl rfl)]; omega
    · by_cases e' : r = b
      · subst e'; rw [if_neg e, if_pos rfl, if_pos (.inr rfl)]; omega
      · rw [if_neg e, if_neg e', if_neg (by omega)]
        have : M r = unit D r := setR_ne e'
        rw [this]; omega
  have h1 : D * det n (setR M a u) = det n (setR M a (fun j => 1 * (u a * unit D a j + u b * unit D b j) + sumN n (fun r => (if r = a ∨ r = b then 0 else u r) * M r j))) := by
    have q := det_set D 0 (n := n) (a := a) (M := M) (u := u) (v := u) (w := fun j => 1 * (u a * unit D a j + u b * unit D b j) + sumN n (fun r => (if r = a ∨ r = b then 0 else u r) * M r j)) ha fun j hj => by
      have := q2 j hj; omega
    omega
  have h2 := det_comb 1 (fun r => if r = a ∨ r = b then 0 else u r) (M := M) (u := fun j => u a * unit D a j + u b * unit D b j) ha (Nat.le_refl n) (fun r hr ne q => ne (by rw [if_pos (.inl q)]))
  have h3 := det_set (u a) (u b) (n := n) (a := a) (M := M) (u := unit D a) (v := unit D b) (w := fun j => u a * unit D a j + u b * unit D b j) ha fun j _ => rfl
  have h4 : D * det n (setR M a (unit D a)) = v b * D ^ n := by
    have : setR M a (unit D a) = setR (unit D) b v := by
      show setR (setR (unit D) b v) a (unit D a) = _
      rw [setR_comm (fun q => hab q.symm), setR_self]
    rw [this, det_one D v hb]
  have h5 : D * det n (setR M a (unit D b)) = -(v a * D ^ n) := by
    have : setR M a (unit D b) = setR (setR (unit D) a (unit D b)) b v := setR_comm (fun q => hab q.symm)
    rw [this, det_swap ha hb hab]
    have : setR (setR (unit D) a v) b (unit D b) = setR (unit D) a v := by rw [setR_comm hab, setR_self]
    rw [this, show D * -det n (setR (unit D) a v) = -(D * det n (setR (unit D) a v)) by grind, det_one D v ha]
  rw [e0, h1, h2, h3]
  rw [show D * (1 * (u a * det n (setR M a (unit D a)) + u b * det n (setR M a (unit D b)))) = u a * (D * det n (setR M a (unit D a))) + u b * (D * det n (setR M a (unit D b))) by grind, h4, h5]
  grind
/-! ### the numerators of the chances -/
def off (D : Int) (A : Mat) : Mat := fun i j => unit D i j - A i j
/-- the numerator of the chance of the lot with number m -/
def cN (n : Nat) (D : Int) (A : Mat) (m : Nat) : Int := det n (fun i => if m.testBit i then A i else off D A i)
theorem cN_mix (n : Nat) (D : Int) (A : Mat) (m : Nat) : cN n D A m = det n (mix A (off D A) (unit D) n m) := det_congr fun i hi j _ => by unfold mix; rw [if_pos hi]
def bitI (m a : Nat) : Int := if m.testBit a then 1 else 0
/-- a lot's mark on the sum: row a's off row is 0 -/
theorem mark {n a : Nat} (ha : a < n) (u v w : Mat) (m : Nat) : bitI m a * det n (mix u v w n m) = det n (mix u (setR v a (fun _ => 0)) w n m) := by
  unfold bitI
  by_cases hb : m.testBit a = true
  · rw [if_pos hb, Int.one_mul]
    refine det_congr fun i hi j hj => ?_
    unfold mix
    rw [if_pos hi, if_pos hi]
    by_cases e : i = a
    · subst e; rw [if_pos hb, if_pos hb]
    · rw [setR_ne e]
  · rw [if_neg hb, Int.zero_mul]
    symm
    refine det_row0 (a := a) ha fun j hj => ?_
    unfold mix
    rw [if_pos ha, if_neg hb, setR_same]
def E (n : Nat) (D : Int) (A : Mat) (f : Nat → Int) : Int := sumN (2 ^ n) (fun m => f m * cN n D A m)
theorem E_congr {n : Nat} {D : Int} {A : Mat} {f g : Nat → Int} (h : ∀ m, f m = g m) : E n D A f = E n D A g := sumN_congr fun m _ => by rw [h m]
theorem E_lin (n : Nat) (D : Int) (A : Mat) (x y : Int) (f g : Nat → Int) : E n D A (fun m => x * f m + y * g m) = x * E n D A f + y * E n D A g := by
  unfold E
  rw [← sumN_lin]
  exact sumN_congr fun m _ => by grind
theorem E_one (n : Nat) (D : Int) (A : Mat) : E n D A (fun _ => 1) = D ^ n := by
  unfold E
  rw [sumN_congr (g := fun m => det n (mix A (off D A) (unit D) n m)) fun m _ => by rw [cN_mix]; exact Int.one_mul _, multi n _ _ n _ (Nat.le_refl n)]
  rw [det_congr (M' := unit D) fun i hi j hj => by rw [if_pos hi]; unfold off; omega, det_unit]
theorem E_bit {n a : Nat} (D : Int) (A : Mat) (ha : a < n) : D * E n D A (fun m => bitI m a) = A a a * D ^ n := by
  unfold E
  rw [sumN_congr (g := fun m => det n (mix A (setR (off D A) a (fun _ => 0)) (unit D) n m)) fun m _ => by rw [cN_mix, mark ha], multi n _ _ n _ (Nat.le_refl n)]
  rw [det_congr (M' := setR (unit D) a (A a)) fun i hi j hj => by
    rw [if_pos hi]
    by_cases e : i = a
    · subst e; rw [setR_same, setR_same]; omega
    · rw [setR_ne e, setR_ne e]; unfold off; omega]
  exact det_one D (A a) ha
theorem bitI_sq (m a : Nat) : bitI m a * bitI m a = bitI m a := by unfold bitI; split <;> rfl
theorem E_bits {n a b : Nat} (D : Int) (A : Mat) (ha : a < n) (hb : b < n) (hab : a ≠ b) : D * (D * E n D A (fun m => bitI m a * bitI m b)) = (A a a * A b b - A a b * A b a) * D ^ n := by
  unfold E
  rw [sumN_congr (g := fun m => det n (mix A (setR (setR (off D A) a (fun _ => 0)) b (fun _ => 0)) (unit D) n m)) fun m _ => by
    rw [cN_mix, show bitI m a * bitI m b * det n (mix A (off D A) (unit D) n m) = bitI m b * (bitI m a * det n (mix A (off D A) (unit D) n m)) by grind, mark ha, mark hb], multi n _ _ n _ (Nat.le_refl n)]
  rw [det_congr (M' := setR (setR (unit D) a (A a)) b (A b)) fun i hi j hj => by
    rw [if_pos hi]
    by_cases e : i = b
    · subst e; rw [setR_same, setR_same]; omega
    · rw [setR_ne e, setR_ne e]
      by_cases e' : i = a
      · subst e'; rw [setR_same, setR_same]; omega
      · rw [setR_ne e', setR_ne e']; unfold off; omega]
  exact det_two D (A a) (A b) ha hb hab
/-! ### in fractions -/
def rs {α : Type} (f : α → Rat) : List α → Rat
  | [] => 0
  | x :: l => f x + rs f l
theorem rs_app {α : Type} (f : α → Rat) : ∀ {l l' : List α}, rs f (l ++ l') = rs f l + rs f l'
  | [], l' => by show rs f l' = 0 + rs f l'; grind
  | x :: l, l' => by
    show f x + rs f (l ++ l') = f x + rs f l + rs f l'
    rw [rs_app f]; grind
theorem rs_congr {α : Type} {f g : α → Rat} : ∀ {l : List α}, (∀ x ∈ l, f x = g x) → rs f l = rs g l
  | [], _ => rfl
  | x :: l, h => by
    show f x + rs f l = g x + rs g l
    rw [h x List.mem_cons_self, rs_congr fun y hy => h y (List.mem_cons_of_mem _ hy)]
theorem rs_lin {α : Type} {f g : α → Rat} (x y : Rat) : ∀ {l : List α}, rs (fun z => x * f z + y * g z) l = x * rs f l + y * rs g l
  | [] => by show (0 : Rat) = x * 0 + y * 0; grind
  | z :: l => by
    show x * f z + y * g z + rs _ l = x * (f z + rs f l) + y * (g z + rs g l)
    rw [rs_lin x y]; grind
def cnt (S : List Nat) (m : Nat) : Int := match S with
  | [] => 0
  | a :: l => bitI m a + cnt l m
/-- mean of f -/
def P (n : Nat) (D : Int) (A : Mat) (f : Nat → Int) : Rat := (E n D A f : Rat) / (D : Rat) ^ n
def K (D : Int) (A : Mat) (i j : Nat) : Rat := (A i j : Rat) / (D : Rat)
section
variable {n : Nat} {D : Int} {A : Mat}
theorem ratD (hD : D ≠ 0) : (D : Rat) ≠ 0 := fun h => hD (Rat.intCast_inj.mp (by rw [h]; rfl))
theorem ratDn (hD : D ≠ 0) : ((D : Rat)) ^ n ≠ 0 := by
  rw [← Rat.intCast_pow]
  exact ratD (Int.pow_ne_zero hD)
theorem P_lin (x y : Int) (f g : Nat → Int) : P n D A (fun m => x * f m + y * g m) = x * P n D A f + y * P n D A g := by
  unfold P
  rw [E_lin, Rat.intCast_add, Rat.intCast_mul, Rat.intCast_mul]; grind
theorem P_congr {f g : Nat → Int} (h : ∀ m, f m = g m) : P n D A f = P n D A g := by unfold P; rw [E_congr h]
theorem P_bit {a : Nat} (hD : D ≠ 0) (ha : a < n) : P n D A (fun m => bitI m a) = K D A a a := by
  unfold P K
  have h := congrArg (fun z : Int => (z : Rat)) (E_bit D A ha)
  simp only [Rat.intCast_mul, Rat.intCast_pow] at h
  have h1 := ratD hD
  have h2 := ratDn (n := n) hD
  generalize (D : Rat) ^ n = X at h h2 ⊢
  grind
theorem P_bits {a b : Nat} (hD : D ≠ 0) (ha : a < n) (hb : b < n) : P n D A (fun m => bitI m a * bitI m b) = (if a = b then K D A a a else K D A a a * K D A b b - K D A a b * K D A b a) := by
  by_cases e : a = b
  · subst e
    rw [if_pos rfl, ← P_bit hD ha]
    exact P_congr fun m => bitI_sq m a
  · rw [if_neg e]
    unfold P K
    have h := congrArg (fun z : Int => (z : Rat)) (E_bits D A ha hb e)
    simp only [Rat.intCast_mul, Rat.intCast_pow, Rat.intCast_sub] at h
    have h1 := ratD hD
    have h2 := ratDn (n := n) hD
    generalize (D : Rat) ^ n = X at h h2 ⊢
    grind
theorem P_cnt (hD : D ≠ 0) : ∀ {S : List Nat}, (∀ a ∈ S, a < n) → P n D A (cnt S) = rs (fun a => K D A a a) S
  | [], _ => by
    have : P n D A (cnt []) = P n D A (fun m => 0 * (0 : Int) + 0 * 0) := P_congr fun m => rfl
    rw [this, P_lin 0 0 (fun _ => 0) (fun _ => 0)]
    show _ = (0 : Rat)
    grind
  | a :: l, h => by
    have : P n D A (cnt (a :: l)) = P n D A (fun m => 1 * bitI m a + 1 * cnt l m) := P_congr fun m => by show bitI m a + cnt l m = _; omega
    rw [this, P_lin, P_bit hD (h a List.mem_cons_self), P_cnt hD fun x hx => h x (List.mem_cons_of_mem _ hx)]
    show _ = K D A a a + rs _ l
    grind
theorem P_bcnt (hD : D ≠ 0) {a : Nat} (ha : a < n) : ∀ {T : List Nat}, (∀ b ∈ T, b < n) → P n D A (fun m => bitI m a * cnt T m) = rs (fun b => if a = b then K D A a a else K D A a a * K D A b b - K D A a b * K D A b a) T
  | [], _ => by
    have : P n D A (fun m => bitI m a * cnt [] m) = P n D A (fun m => 0 * (0 : Int) + 0 * 0) := P_congr fun m => by show bitI m a * 0 = _; omega
    rw [this, P_lin 0 0 (fun _ => 0) (fun _ => 0)]
    show _ = (0 : Rat)
    grind
  | b :: l, h => by
    have : P n D A (fun m => bitI m a * cnt (b :: l) m) = P n D A (fun m => 1 * (bitI m a * bitI m b) + 1 * (bitI m a * cnt l m)) := P_congr fun m => by show bitI m a * (bitI m b + cnt l m) = _; grind
    rw [this, P_lin, P_bits hD ha (h b List.mem_cons_self), P_bcnt hD ha fun x hx => h x (List.mem_cons_of_mem _ hx)]
    show _ = _ + rs _ l
    grind
theorem P_ccnt (hD : D ≠ 0) {T : List Nat} (hT : ∀ b ∈ T, b < n) : ∀ {S : List Nat}, (∀ a ∈ S, a < n) → P n D A (fun m => cnt S m * cnt T m) = rs (fun a => rs (fun b => if a = b then K D A a a else K D A a a * K D A b b - K D A a b * K D A b a) T) S
  | [], _ => by
    have : P n D A (fun m => cnt [] m * cnt T m) = P n D A (fun m => 0 * (0 : Int) + 0 * 0) := P_congr fun m => by show 0 * cnt T m = _; omega
    rw [this, P_lin 0 0 (fun _ => 0) (fun _ => 0)]
    show _ = (0 : Rat)
    grind
  | a :: l, h => by
    have : P n D A (fun m => cnt (a :: l) m * cnt T m) = P n D A (fun m => 1 * (bitI m a * cnt T m) + 1 * (cnt l m * cnt T m)) := P_congr fun m => by show (bitI m a + cnt l m) * cnt T m = _; grind
    rw [this, P_lin, P_bcnt hD (h a List.mem_cons_self) hT, P_ccnt hD hT fun x hx => h x (List.mem_cons_of_mem _ hx)]
    show _ = _ + rs _ l
    grind
end
/-- what the program's covariance sums up -/
def cov (k : Nat → Nat → Rat) (S T : List Nat) : Rat := rs (fun a => rs (fun b => (if a = b then k a a else 0) - k a b * k b a) T) S
theorem rs_mul {α : Type} (f : α → Rat) (x : Rat) {l : List α} : rs (fun z => x * f z) l = x * rs f l := by
  have := rs_lin (f := f) (g := f) x 0 (l := l)
  rw [rs_congr (g := fun z => x * f z + 0 * f z) fun z _ => by grind, this]; grind
/-- the moment of the law's own chances -/
theorem moment {n : Nat} {D : Int} {A : Mat} (hD : D ≠ 0) {S T : List Nat} (hS : ∀ a ∈ S, a < n) (hT : ∀ b ∈ T, b < n) :
    P n D A (fun m => cnt S m * cnt T m) - P n D A (cnt S) * P n D A (cnt T) = cov (K D A) S T := by
  rw [P_ccnt hD hT hS, P_cnt hD hS, P_cnt hD hT]
  unfold cov
  have e : ∀ a, rs (fun b => if a = b then K D A a a else K D A a a * K D A b b - K D A a b * K D A b a) T = rs (fun b => (if a = b then K D A a a else 0) - K D A a b * K D A b a) T + K D A a a * rs (fun b => K D A b b) T := by
    intro a
    rw [rs_congr (g := fun b => 1 * ((if a = b then K D A a a else 0) - K D A a b * K D A b a) + K D A a a * K D A b b) fun b _ => by
      by_cases q : a = b
      · subst q; rw [if_pos rfl, if_pos rfl]; grind
      · rw [if_neg q, if_neg q]; grind, rs_lin]
    grind
  rw [rs_congr (g := fun a => 1 * rs (fun b => (if a = b then K D A a a else 0) - K D A a b * K D A b a) T + rs (fun b => K D A b b) T * K D A a a) fun a _ => by rw [e a]; grind, rs_lin]
  grind
end Mth
end
section
set_option Elab.async false
set_option linter.all false
namespace Mth
/-! ### fractions in lowest terms -/
theorem div_den {n : Int} {d : Nat} (h : d ≠ 0) : ((n : Rat) / ((d : Int) : Rat)) = { num := n / ((n.natAbs.gcd d : Nat) : Int), den := d / n.natAbs.gcd d, den_nz := Rat.normalize.den_nz (num := n) (den := d) h rfl, reduced := Rat.normalize.reduced (num := n) (den := d) h rfl : Rat } := by
  have e : mkRat n d = (n : Rat) / ((d : Int) : Rat) := by rw [Rat.mkRat_eq_div]; rfl
  rw [← e, Rat.mkRat_def, dif_neg h, Rat.normalize_eq h]
theorem low_num {n : Int} {d : Nat} (h : d ≠ 0) : ((n : Rat) / ((d : Int) : Rat)).num = n / ((n.natAbs.gcd d : Nat) : Int) := by rw [div_den h]
theorem low_den {n : Int} {d : Nat} (h : d ≠ 0) : ((n : Rat) / ((d : Int) : Rat)).den = d / n.natAbs.gcd d := by rw [div_den h]
theorem rat_of (r : Rat) : (r.num : Rat) / ((r.den : Int) : Rat) = r := by
  have e : mkRat r.num r.den = (r.num : Rat) / ((r.den : Int) : Rat) := by rw [Rat.mkRat_eq_div]; rfl
  rw [← e, Rat.mkRat_self]
theorem den0 (r : Rat) : ((r.den : Int) : Rat) ≠ 0 := fun h => r.den_nz (by
  have h2 : (r.den : Int) = 0 := Rat.intCast_inj.mp (by rw [h]; rfl)
  omega)
/-- n / d by its integers; what lowest and _law_low hand back -/
def fr (n d : Int) : Rat := (n : Rat) / (d : Rat)
theorem fr_num {n d : Int} (h : 0 < d) : (fr n d).num = n / ((n.natAbs.gcd d.natAbs : Nat) : Int) := by
  have e : d = ((d.natAbs : Nat) : Int) := by omega
  unfold fr
  rw [e, low_num (by omega)]
  rw [← e]
theorem fr_den {n d : Int} (h : 0 < d) : ((fr n d).den : Int) = d / ((n.natAbs.gcd d.natAbs : Nat) : Int) := by
  have e : d = ((d.natAbs : Nat) : Int) := by omega
  unfold fr
  rw [e, low_den (by omega), ← e]
  rw [Int.natCast_ediv, ← e]
theorem fr_neg {n d : Int} (h : d ≠ 0) : fr (-n) (-d) = fr n d := by
  unfold fr
  rw [Rat.intCast_neg, Rat.intCast_neg]
  have : (d : Rat) ≠ 0 := ratD h
  grind
theorem gcd_pos {n d : Int} (h : d ≠ 0) : 0 < n.natAbs.gcd d.natAbs := Nat.gcd_pos_of_pos_right _ (by omega)
/-- by a shared divisor of the other sign -/
theorem fdiv_negn (n : Int) (g : Nat) : n.fdiv (-(g : Int)) = (-n) / (g : Int) := by
  have : n.fdiv (-(g : Int)) = (-(-n)).fdiv (-(g : Int)) := by rw [Int.neg_neg]
  rw [this, Int.neg_fdiv_neg, Int.fdiv_eq_ediv_of_nonneg _ (by omega)]
theorem fr_num_neg {n d : Int} (h : d < 0) : (fr n d).num = n.fdiv (-((n.natAbs.gcd d.natAbs : Nat) : Int)) := by
  rw [← fr_neg (by omega), fr_num (by omega), Int.natAbs_neg, Int.natAbs_neg, fdiv_negn]
theorem fr_den_neg {n d : Int} (h : d < 0) : ((fr n d).den : Int) = d.fdiv (-((n.natAbs.gcd d.natAbs : Nat) : Int)) := by
  rw [← fr_neg (by omega), fr_den (by omega), Int.natAbs_neg, Int.natAbs_neg, fdiv_negn]
theorem fr_self (r : Rat) : fr r.num r.den = r := rat_of r
theorem fr_one (i : Int) : fr i 1 = (i : Rat) := by
  unfold fr
  have : ((1 : Int) : Rat) = 1 := rfl
  rw [this]; grind
theorem fr_eq {n d : Int} {r : Rat} (h : d ≠ 0) (e : (n : Rat) = r * d) : fr n d = r := by
  unfold fr
  have : (d : Rat) ≠ 0 := ratD h
  grind
theorem fr_add (r s : Rat) : fr (r.num * s.den + s.num * r.den) (r.den * s.den) = r + s := by
  have h1 := rat_of r
  have h2 := rat_of s
  have d1 := den0 r
  have d2 := den0 s
  unfold fr
  rw [Rat.intCast_add, Rat.intCast_mul, Rat.intCast_mul, Rat.intCast_mul]
  grind
theorem fr_sub (r s : Rat) : fr (r.num * s.den - s.num * r.den) (r.den * s.den) = r - s := by
  have h1 := rat_of r
  have h2 := rat_of s
  have d1 := den0 r
  have d2 := den0 s
  unfold fr
  rw [Rat.intCast_sub, Rat.intCast_mul, Rat.intCast_mul, Rat.intCast_mul]
  grind
theorem fr_mul (r s : Rat) : fr (r.num * s.num) (r.den * s.den) = r * s := by
  have h1 := rat_of r
  have h2 := rat_of s
  have d1 := den0 r
  have d2 := den0 s
  unfold fr
  rw [Rat.intCast_mul, Rat.intCast_mul]
  grind
theorem den_pos (r : Rat) : (0 : Int) < r.den := by have := r.den_pos; omega
/-! ### sizes -/
def Sz (k : Nat) (r : Rat) : Prop := r.num.natAbs < 2 ^ k ∧ r.den < 2 ^ k
theorem Sz.mono {j k : Nat} {r : Rat} (h : Sz j r) (l : j ≤ k) : Sz k r :=
  ⟨Nat.lt_of_lt_of_le h.1 (Nat.pow_le_pow_right (by omega) l), Nat.lt_of_lt_of_le h.2 (Nat.pow_le_pow_right (by omega) l)⟩
theorem Sz.fr {k : Nat} {n d : Int} (h : 0 < d) (hn : n.natAbs < 2 ^ k) (hd : d.natAbs < 2 ^ k) : Sz k (fr n d) := by
  have e1 := fr_num (n := n) h
  have e2 := fr_den (n := n) h
  constructor
  · rw [e1]; exact Nat.lt_of_le_of_lt (Int.natAbs_ediv_le_natAbs _ _) hn
  · have e3 : (Mth.fr n d).den = (d / ((n.natAbs.gcd d.natAbs : Nat) : Int)).natAbs := by omega
    rw [e3]; exact Nat.lt_of_le_of_lt (Int.natAbs_ediv_le_natAbs _ _) hd
theorem Sz.frn {k : Nat} {n d : Int} (h : d ≠ 0) (hn : n.natAbs < 2 ^ k) (hd : d.natAbs < 2 ^ k) : Sz k (Mth.fr n d) := by
  by_cases l : 0 < d
  · exact Sz.fr l hn hd
  · rw [← fr_neg h]; exact Sz.fr (by omega) (by rw [Int.natAbs_neg]; exact hn) (by rw [Int.natAbs_neg]; exact hd)
theorem mul_lt {i j : Int} {a b : Nat} (ha : i.natAbs < 2 ^ a) (hb : j.natAbs < 2 ^ b) : (i * j).natAbs < 2 ^ (a + b) := by
  rw [Int.natAbs_mul, Nat.pow_add]
  exact Nat.mul_lt_mul'' ha hb
theorem add_lt {i j : Int} {a : Nat} (ha : i.natAbs < 2 ^ a) (hb : j.natAbs < 2 ^ a) : (i + j).natAbs < 2 ^ (a + 1) := by
  have := Int.natAbs_add_le i j
  rw [Nat.pow_succ]; omega
theorem sub_lt {i j : Int} {a : Nat} (ha : i.natAbs < 2 ^ a) (hb : j.natAbs < 2 ^ a) : (i - j).natAbs < 2 ^ (a + 1) := by
  have := Int.natAbs_sub_le i j
  rw [Nat.pow_succ]; omega
theorem lt_mono {i : Nat} {a b : Nat} (h : i < 2 ^ a) (l : a ≤ b) : i < 2 ^ b := Nat.lt_of_lt_of_le h (Nat.pow_le_pow_right (by omega) l)
theorem Sz.den {k : Nat} {r : Rat} (h : Sz k r) : ((r.den : Int)).natAbs < 2 ^ k := by have := h.2; omega
theorem Sz.add {a b : Nat} {r s : Rat} (h : Sz a r) (g : Sz b s) : Sz (a + b + 1) (r + s) := by
  rw [← fr_add]
  refine Sz.fr (Int.mul_pos (den_pos r) (den_pos s)) (add_lt (mul_lt h.1 g.den) ?_) (lt_mono (mul_lt h.den g.den) (by omega))
  rw [Int.mul_comm]; exact mul_lt h.den g.1
theorem Sz.sub {a b : Nat} {r s : Rat} (h : Sz a r) (g : Sz b s) : Sz (a + b + 1) (r - s) := by
  rw [← fr_sub]
  refine Sz.fr (Int.mul_pos (den_pos r) (den_pos s)) (sub_lt (mul_lt h.1 g.den) ?_) (lt_mono (mul_lt h.den g.den) (by omega))
  rw [Int.mul_comm]; exact mul_lt h.den g.1
theorem Sz.mul {a b : Nat} {r s : Rat} (h : Sz a r) (g : Sz b s) : Sz (a + b) (r * s) := by
  rw [← fr_mul]
  exact Sz.fr (Int.mul_pos (den_pos r) (den_pos s)) (mul_lt h.1 g.1) (mul_lt h.den g.den)
theorem Sz.int {k : Nat} {i : Int} (h : i.natAbs < 2 ^ k) (hk : 1 ≤ k) : Sz k (i : Rat) := by
  constructor
  · rw [Rat.num_intCast]; exact h
  · rw [Rat.den_intCast]; exact Nat.lt_of_lt_of_le (by decide : 1 < 2 ^ 1) (Nat.pow_le_pow_right (by omega) hk)
/-! ### Euclid -/
theorem gcd_step (a b : Nat) : Nat.gcd b (a % b) = Nat.gcd a b := by
  rw [Nat.gcd_comm a b, Nat.gcd_rec b a, Nat.gcd_comm]
theorem emod_nat (a b : Nat) : ((a : Int) % (b : Int)) = ((a % b : Nat) : Int) := by simp
/-- what stands ahead of turn i of the bounded loop: T bits in all -/
def Eu (g T i a b : Nat) : Prop := Nat.gcd a b = g ∧ (0 < i → b < a ∧ a * b < 2 ^ (T + 1 - i))
theorem Eu.step {g T i a b : Nat} (h : Eu g T i a b) (hb : b ≠ 0) (h0 : i = 0 → a < 2 ^ (T - b.log2 - 1) ∧ b.log2 + 1 ≤ T) : Eu g T (i + 1) b (a % b) := by
  refine ⟨(gcd_step a b).trans h.1, fun _ => ⟨Nat.mod_lt _ (by omega), ?_⟩⟩
  by_cases e : i = 0
  · obtain ⟨h1, h2⟩ := h0 e
    subst e
    have h3 : a % b ≤ a := Nat.mod_le _ _
    have h4 : b < 2 ^ (b.log2 + 1) := Nat.lt_log2_self
    have h5 : b * (a % b) < 2 ^ (b.log2 + 1) * 2 ^ (T - b.log2 - 1) := Nat.mul_lt_mul'' h4 (by omega)
    rw [← Nat.pow_add] at h5
    have : b.log2 + 1 + (T - b.log2 - 1) = T + 1 - (0 + 1) := by omega
    rw [this] at h5; exact h5
  · obtain ⟨h1, h2⟩ := h.2 (by omega)
    have h3 : a % b + b ≤ a := by
      have q := Nat.div_add_mod a b
      have q2 : 1 ≤ a / b := Nat.div_pos (by omega) (by omega)
      have q3 : b * 1 ≤ b * (a / b) := Nat.mul_le_mul_left b q2
      omega
    have h4 : a % b < b := Nat.mod_lt _ (by omega)
    have h5 : 2 * (b * (a % b)) ≤ a * b := by
      have : 2 * (a % b) ≤ a := by omega
      have := Nat.mul_le_mul_right b this
      rw [show 2 * (b * (a % b)) = 2 * (a % b) * b by rw [Nat.mul_comm b, Nat.mul_assoc]]
      exact this
    by_cases l : i ≤ T
    · have : T + 1 - i = (T + 1 - (i + 1)) + 1 := by omega
      rw [this, Nat.pow_succ] at h2
      omega
    · have : T + 1 - i = 0 := by omega
      rw [this] at h2
      have : T + 1 - (i + 1) = 0 := by omega
      rw [this]
      omega
theorem Eu.end {g T i a b : Nat} (h : Eu g T i a b) (hi : T + 1 ≤ i) : b = 0 ∧ a = g := by
  obtain ⟨h1, h2⟩ := h.2 (by omega)
  have : T + 1 - i = 0 := by omega
  rw [this] at h2
  have hb : b = 0 := by
    rcases Nat.mul_eq_zero.mp (show a * b = 0 by omega) with q | q
    · omega
    · exact q
  refine ⟨hb, ?_⟩
  have := h.1
  rw [hb, Nat.gcd_zero_right] at this
  exact this
theorem Eu.zero {g T i a : Nat} (h : Eu g T i a 0) : a = g := by
  have := h.1
  rw [Nat.gcd_zero_right] at this
  exact this
end Mth
end
section
set_option Elab.async false
set_option linter.all false
set_option maxRecDepth 100000
namespace K18
open PySem PySem.Spec PyProof.Rows L2
def top (i : Nat) : Stmt := PySem.Challenge.pw_spreadlots_k18_whole_numbers_of_two_side.main.body.getD i (.Pass ⟨0, 0, 0, 0⟩)
/-- the methods of Table -/
def mS (j : Nat) : Stmt := (C8.clsBody (top 43)).getD j (.Pass ⟨0, 0, 0, 0⟩)
/-- BadLot.__init__ -/
def blInit : Stmt := (C8.clsBody (top 5)).getD 0 (.Pass ⟨0, 0, 0, 0⟩)
/-- the built-in names that the text asks for are not bound by it -/
structure Bt (mg : Str → Option Value) : Prop where
  abs : mg "abs" = none
  bool : mg "bool" = none
  enumerate : mg "enumerate" = none
  int : mg "int" = none
  isinstance : mg "isinstance" = none
  len : mg "len" = none
  list : mg "list" = none
  max : mg "max" = none
  min : mg "min" = none
  range : mg "range" = none
  sorted : mg "sorted" = none
  sum : mg "sum" = none
  tuple : mg "tuple" = none
/-- the i-th statement of the top is the def x, as it stands behind the top -/
def DD (K : PySem.W.Frag) (mg : Str → Option Value) (x : Str) (i : Nat) : Prop := ∃ f fd, C8.Def K mg x (top i) f fd ∧ fd.defaults = .none
section
variable {P : Program} {w : World} {K : PySem.W.Frag} {mg : Str → Option Value} {base : Heap}
theorem cal_mk {x : Str} {i k : Nat} {N ps : List Str} {sp : Sp} (D : DD K mg x i) (S : FnScope N ps (C8.fnScope (top i)))
    (hb : ∀ (kV doc pm : Value) (an : Option Addr) (cdv ct : Value) (us : List Value), us.length = ps.length → bindArgs (PySem.W.fnOf x x (C8.fnArgs (top i)) (C8.fnBody (top i)) (C8.fnScope (top i)) .none kV doc pm an cdv ct) ⟨us, []⟩ = pure (ps.zip us))
    (len : ∀ vs H Q E, sp vs H Q E → vs.length = ps.length)
    (hbody : ∀ (f : Addr) (cdv : Value) (A : Around) (outer : List Env) (s : Shared) (H : Hp) (vs : List V) (Q : VK) (E : XK), Room k (A.deeper (envOfC x (C8.fnScope (top i)) s.heap.objs.size f cdv)) → sp vs H Q E →
      ∃ t, PSs (cxOf C8.CX0 P w K mg base N x (C8.fnScope (top i)) f cdv A outer s H E).nox (C8.fnBody (top i)) t ∧ t { nx := fun _ H' => Q .non H', rt := Q } (start N vs) H) : C8.Cal P w K mg base (k + 1) x sp [] := by
  obtain ⟨f, fd, F, df⟩ := D
  exact C8.cal0 F (F.fn.binds df hb) .nil S len fun cdv A outer s H vs Q E hr h => hbody f cdv A outer s H vs Q E hr h
end
/-! ### short words -/
section
variable {X : Cx}
theorem pgn (i : Nat) {x : Str} {pos : Pos} (hN : X.N.Nodup) (hi : X.N[i]? = some x := by rfl) (hx : Loc X.env.scope x := by first | exact Or.inl rfl | exact Or.inr rfl) (hf : X.fn x = true ∨ X.env.scope.names.lookup x = some .local := by first | exact .inl rfl | exact .inr rfl) : PG X (.Name x pos) (gName i) := pg_name hN hi hx hf
theorem pset (i : Nat) {x : Str} {e : Expr} {te : TE} {pos pos' : Pos} (hN : X.N.Nodup) (he : PE X e te) (hi : X.N[i]? = some x := by rfl) (hx : Loc X.env.scope x := by first | exact Or.inl rfl | exact Or.inr rfl) (hs : swapsWith e (some (.Name x pos')) pos.line X.env = pure false := by rfl)
    (hf : X.fn x = true ∨ X.env.scope.names.lookup x = some .local := by first | exact .inl rfl | exact .inr rfl) : PS X (.Assign [.Name x pos'] e pos) (tAsg te (gName i)) := ps_set hN hi hx he hs hf
/-- // by any divisor that is not 0, below 2 ^ 9000 -/
def CDivZ (_ j : Int) : Prop := j ≠ 0 ∧ j.natAbs.log2 < 9000
theorem op_fdivZ : OpR X (binaryOp .FloorDiv) (rI CDivZ fun i j => .int (i.fdiv j)) := opI fun i j _ _ _ _ _ hc q => floordiv_int hc.1 q (.inl (PyProof.noPylong_of_log2 hc.2))
end
theorem cdivz {i j : Int} (h : j ≠ 0) (hb : j.natAbs < 2 ^ 9000) : CDivZ i j := ⟨h, (Nat.log2_lt (by omega)).mpr hb⟩
/-! ### what is known of values -/
def big : Nat := 8999
theorem big_eq : big = 8999 := rfl
abbrev Ex := Evl.Ex
/-- a tuple of these -/
def TupV (K : PySem.W.Frag) (H : Hp) (v : V) (xs : List V) : Prop := ∃ p, v = .ref p ∧ SqT K H p xs
def LstV (K : PySem.W.Frag) (H : Hp) (v : V) (xs : List V) : Prop := ∃ p, v = .ref p ∧ SqL K H p xs
def Frac (K : PySem.W.Frag) (H : Hp) (v : V) (r : Rat) : Prop := TupV K H v [.int r.num, .int r.den]
theorem TupV.ex {K : PySem.W.Frag} {H H' : Hp} {v : V} {xs : List V} (h : TupV K H v xs) (e : Ex H H') : TupV K H' v xs := by
  obtain ⟨p, rfl, h⟩ := h
  exact ⟨p, rfl, Evl.ex_t e h⟩
theorem LstV.ex {K : PySem.W.Frag} {H H' : Hp} {v : V} {xs : List V} (h : LstV K H v xs) (e : Ex H H') : LstV K H' v xs := by
  obtain ⟨p, rfl, h⟩ := h
  exact ⟨p, rfl, Evl.ex_l e h⟩
theorem Frac.ex {K : PySem.W.Frag} {H H' : Hp} {v : V} {r : Rat} (h : Frac K H v r) (e : Ex H H') : Frac K H' v r := TupV.ex h e
theorem TupV.new {K : PySem.W.Frag} {H : Hp} {p : Addr} {xs : List V} : TupV K (upd H p (.tup xs)) (.ref p) xs := ⟨p, rfl, SqT.of upd_same⟩
theorem LstV.new {K : PySem.W.Frag} {H : Hp} {p : Addr} {xs : List V} : LstV K (upd H p (.lst xs)) (.ref p) xs := ⟨p, rfl, SqL.of upd_same⟩
/-- what may be passed as a fraction -/
def Num (K : PySem.W.Frag) (H : Hp) (v : V) (r : Rat) : Prop := (∃ i : Int, v = .int i ∧ r = (i : Rat)) ∨ (∃ n d : Int, TupV K H v [.int n, .int d] ∧ 0 < d ∧ d.natAbs < 2 ^ big ∧ r = Mth.fr n d)
theorem Num.ex {K : PySem.W.Frag} {H H' : Hp} {v : V} {r : Rat} (h : Num K H v r) (e : Ex H H') : Num K H' v r := by
  rcases h with h | ⟨n, d, h, q⟩
  · exact .inl h
  · exact .inr ⟨n, d, h.ex e, q⟩
theorem Frac.num {K : PySem.W.Frag} {H : Hp} {v : V} {r : Rat} {k : Nat} (h : Frac K H v r) (z : Mth.Sz k r) (hk : k ≤ big) : Num K H v r :=
  .inr ⟨r.num, r.den, h, Mth.den_pos r, Mth.lt_mono z.den hk, (Mth.fr_self r).symm⟩
theorem ty_tup {K : PySem.W.Frag} {H : Hp} {a : Addr} {xs : List V} (h : SqT K H a xs) : TyX K H (.ref a) (.type "tuple") := by
  rcases h with (h | ⟨o, h⟩) | ⟨o, its, n, h1, h2, _⟩
  · exact .base (.tup h)
  · exact .fTuple h
  · exact .kTuple h1 h2
theorem ty_lst {K : PySem.W.Frag} {H : Hp} {a : Addr} {xs : List V} (h : SqL K H a xs) : TyX K H (.ref a) (.type "list") := by
  rcases h with (h | ⟨o, h⟩) | ⟨o, its, n, h1, h2, _⟩
  · exact .base (.lst h)
  · exact .base (.frz h)
  · exact .kList h1 h2
/-- isinstance(x, (list, tuple)) -/
theorem kit_lt_t {K : PySem.W.Frag} : PySem.W.kitAny K (.type "tuple") [.type "list", .type "tuple"] = some true := kitAny_cons (b := false) (kit_ty (by decide +kernel)) (fun _ => kitAny_cons (b := true) (kit_ty (by decide +kernel)) (fun q => by cases q) fun _ => rfl) (fun q => by cases q)
theorem kit_lt_l {K : PySem.W.Frag} : PySem.W.kitAny K (.type "list") [.type "list", .type "tuple"] = some true := kitAny_cons (b := true) (kit_ty (by decide +kernel)) (fun q => by cases q) fun _ => rfl
theorem cls_lt : Paired ClsV [.ty "list", .ty "tuple"] [.type "list", .type "tuple"] := .cons (.ty _) (.cons (.ty _) .nil)
end K18
end
section
set_option Elab.async false
set_option linter.all false
set_option maxRecDepth 100000
set_option maxHeartbeats 4000000
namespace K18
open PySem PySem.Spec PyProof.Rows L2
/-! ### what the head is asked -/
def nsV (g : Addr → Option Obj) (a : Addr) : List Addr := match g a with
  | some ⟨_, _, .dict es _, _⟩ => es.toList.flatMap fun e => He.refV e.val
  | _ => []
def clsN (g : Addr → Option Obj) (a : Addr) : List Addr := match g a with
  | some ⟨_, _, .cls cd, _⟩ => [cd.ns]
  | _ => []
def subA (g : Addr → Option Obj) (a : Addr) : List Addr := match g a with
  | some ⟨_, _, .func fd, _⟩ => He.refV fd.code ++ fd.closure.map (·.2)
  | some ⟨.type n, _, .fields vs, _⟩ => if n = "classmethod" then vs.toList.flatMap He.refV else []
  | _ => []
def thenA (g : Addr → Option Obj) (l1 : List Addr) : List Addr :=
  let ns := l1.flatMap (clsN g)
  let l3 := ns.flatMap (nsV g)
  let l4 := l3.flatMap (subA g)
  mainGlobals :: cStatics :: (ns ++ (l1 ++ (l1.flatMap (subA g) ++ (l3 ++ (l4 ++ l4.flatMap (subA g))))))
def asK (g : Addr → Option Obj) (_ : Nat) : List Addr := thenA g (nsV g mainGlobals)
abbrev Fn7 : Type := Option (Str × Str × Arguments × FuncBody × Scope × Addr × Addr)
def fn7 (K : PySem.W.Frag) (a : Addr) : Fn7 := match K.lookup a with
  | some ⟨_, _, .func fd, _⟩ => some (fd.name, fd.qualname, fd.params, fd.body, fd.scope, fd.globals, fd.builtins)
  | _ => none
def val7 (x qual : Str) (st : Stmt) : Fn7 := some (x, qual, C8.fnArgs st, .stmts (C8.fnBody st), C8.fnScope st, mainGlobals, builtinsNs)
abbrev tC_ (K : PySem.W.Frag) : Addr := He.ga K "Table"
abbrev tD_ (K : PySem.W.Frag) : Addr := He.ga K "BadLot"
/-- coins' own def -/
def coP (K : PySem.W.Frag) : Addr := He.ma K (tC_ K) "coins"
def coG (K : PySem.W.Frag) : Addr := match PySem.W.recIn K (coP K) "classmethod" with
  | some (.ref g :: _) => g
  | _ => 0
def isNon : Value → Bool
  | .none => true
  | _ => false
def coB (K : PySem.W.Frag) : Bool := (match PySem.W.recIn K (coP K) "classmethod" with
  | some (.ref _ :: _) => true
  | _ => false) && (PySem.W.fnIn K (coG K) && match K.lookup (coG K) with
  | some ⟨_, _, .func fd, _⟩ => PySem.W.codeIn K fd.code "Table.coins" && (fd.closure.isEmpty && isNon fd.defaults)
  | _ => false)
def cfB (K : PySem.W.Frag) : Bool := match PySem.W.findCls K (.ref (tC_ K)) (.type "type") "coins" with
  | some (.get (.builtin g) (.ref p) .none (.ref c)) => decide (g = "classmethod.__get__") && (decide (p = coP K) && decide (c = tC_ K))
  | _ => false
/-- BadLot's -/
def blA (K : PySem.W.Frag) : Addr := He.ma K (tD_ K) "__init__"
def celB (K : PySem.W.Frag) (c : Addr) (D : Addr) : Bool := match K.lookup c with
  | some ⟨_, _, .cell (some (.ref d)), _⟩ => decide (d = D)
  | _ => false
def filB (K : PySem.W.Frag) (c : Value) : Bool := match c with
  | .ref cda => (match K.lookup cda with
    | some ⟨_, _, .fields vs, _⟩ => (match (vs[2]? : Option Value) with
      | some (.str file _) => decide (file = ("/claim/cut.py" : Str))
      | _ => false)
    | _ => false)
  | _ => false
def clB (K : PySem.W.Frag) (D : Addr) : List (Str × Addr) → Bool
  | [(x, cc)] => decide (x = ("__class__" : Str)) && celB K cc D
  | _ => false
def blB (K : PySem.W.Frag) : Bool := match K.lookup (blA K) with
  | some ⟨_, _, .func fd, _⟩ => PySem.W.codeIn K fd.code "BadLot.__init__" && (clB K (tD_ K) fd.closure && (isNon fd.defaults && filB K fd.code))
  | _ => false
def oexB (K : PySem.W.Frag) (D : Addr) : Bool := match K.lookup D with
  | some ⟨.type "type", _, .cls cd, sl⟩ => (match cd.mro, sl.toList with
    | .ref C' :: bm, [_, _, _, _, some (.builtin n), _] => decide (C' = D) && (decide (n = "ValueError.__new__") && (!cd.hasDel && (cd.hasDict && PySem.HandSPX.refsVE bm)))
    | _, _ => false)
  | _ => false
/-- the other facts -/
def exB (K : PySem.W.Frag) : List Bool := [
  coB K, cfB K, blB K, oexB K (tD_ K),
  He.eqO (PySem.W.findIn K (.ref (tC_ K)) "__class__") (some (some (.builtin "object.__class__"))),
  He.eqO (PySem.W.specialIn K (.builtin "object.__class__") "__get__") (some (some (.builtin "getset_descriptor.__get__"))),
  decide (PySem.W.takesIn K (.builtin "object.__class__") = some true),
  decide (PySem.W.mroIn K (tC_ K) (.type "object") = some true),
  decide (PySem.W.kitOne K (.ref (tC_ K)) (.ref (tC_ K)) = some true),
  PySem.W.selfFirst K (tC_ K),
  He.eqO (PySem.W.findIn K (.ref (tC_ K)) "__ne__") (some (some (.builtin "object.__ne__"))),
  PySem.W.fnIn K (He.ma K (tC_ K) "__getitem__"),
  PySem.W.readsIn K (tC_ K) (.type "type"),
  He.eqO (PySem.W.specialIn K (.ref (tC_ K)) "__getattribute__") (some (some (.builtin "type.__getattribute__"))),
  He.tupB K "ZERO" [.int 0, .int 1],
  He.eqO (PySem.W.findIn K (.ref (tD_ K)) "__setattr__") (some (some (.builtin "object.__setattr__"))),
  decide (PySem.W.subIn K (.ref (tD_ K)) (.type "BaseException") = some true),
  decide (PySem.W.typeIn K (.ref (tD_ K)) = some (.type "type")),
  PySem.W.keepIn K (.ref (tD_ K)),
  He.eqO (PySem.W.ks_superIn K (tD_ K) (tD_ K) "__init__") (some (some (.builtin "ValueError.__init__"))),
  decide (PySem.W.subIn K (.ref (tD_ K)) (.type "ValueError") = some true),
  decide (PySem.W.mroIn K (tD_ K) (.ref (tD_ K)) = some true),
  He.eqO (PySem.W.nsIn K cStatics "thirdparty.any") (some none),
  He.eqO (PySem.W.findIn K (.ref (tD_ K)) "at") (some none),
  He.eqO (PySem.W.findIn K (.ref (tD_ K)) "__getattribute__") (some (some (.builtin "BaseException.__getattribute__"))),
  He.eqO (PySem.W.findIn K (.ref (tD_ K)) "__getattr__") (some none),
  PySem.W.hasDictIn K (tD_ K),
  decide (PySem.W.exmOne K (.ref (tD_ K)) (.ref (tD_ K)) = some true),
  He.eqO (PySem.W.findIn K (.ref (tD_ K)) "__init__") (some (some (.ref (blA K)))),
  decide (PySem.W.typeIn K (.ref (blA K)) = some (.type "function"))]
def fa1 : List He.Fa := [.free "abs", .free "bool", .free "enumerate", .free "int", .free "isinstance", .free "len", .free "list", .free "max", .free "min", .free "range", .free "sorted", .free "sum", .free "tuple", .free "super", .glo "Table", .glo "BadLot", .glo "ZERO", .int "MOST_PLACES" 12, .int "MOST_LISTED" 6, .cls "Table", .noat "Table" "rows", .noat "Table" "size", .mkr "Table", .meth "Table" "moved", .meth "Table" "transposed", .meth "Table" "__invert__", .meth "Table" "__add__", .meth "Table" "__eq__", .meth "Table" "__getitem__", .glo "is_whole", .glo "lowest", .glo "frac_or_none", .glo "frac_named", .glo "plus", .glo "minus"]
def fa2 : List He.Fa := [.glo "times", .glo "sign_of", .glo "row_where", .glo "row_of", .glo "check_size", .glo "at_most_six", .glo "is_place", .glo "check_place", .glo "apart_lot", .glo "lot_of", .glo "rest_of", .glo "joined", .glo "common", .glo "without", .glo "covariance", .glo "variance", .glo "table_rows", .glo "coin_rows", .glo "picked", .glo "turned_rows", .glo "beside_rows", .glo "has_link", .glo "rings_of", .glo "crossing_ring", .glo "independent", .glo "blurred", .glo "_law_draws", .glo "_law_eat", .glo "_law_gcd", .glo "_law_low", .glo "_law_is", .glo "_law_add", .glo "_law_sub", .glo "_law_mul", .glo "_law_sum"]
def fa3 : List He.Fa := [.glo "_law_power", .glo "_law_places", .glo "_law_rest", .glo "_law_some", .glo "_law_det", .glo "_law_show", .glo "_law_chances", .glo "_law_rows", .glo "_law_size", .glo "_law_web", .glo "_law_sparse", .glo "_law_heavy", .glo "_law_dimmed", .glo "_law_free", .glo "_law_perm", .glo "_law_moved", .glo "_law_own", .glo "_law_plain", .glo "_law_turned", .glo "_law_across", .glo "_law_moment", .glo "_law_links", .glo "_law_asked", .glo "_law_next", .glo "_law_refused", .glo "_law_wide", .glo "law"]
def faL : List He.Fa := fa1 ++ (fa2 ++ fa3)
def dT (x : Str) (i : Nat) : He.DefD := ⟨(x, none), x, x, C8.fnArgs (top i), C8.fnBody (top i), C8.fnScope (top i), [], []⟩
def dM (m : Str) (q : Str) (j : Nat) : He.DefD := ⟨("Table", some m), m, q, C8.fnArgs (mS j), C8.fnBody (mS j), C8.fnScope (mS j), [], []⟩
def fn1 : List He.DefD := [dT "is_whole" 10, dT "lowest" 11, dT "frac_or_none" 12, dT "frac_named" 13, dT "plus" 14, dT "minus" 15, dT "times" 16, dT "sign_of" 17, dT "row_where" 18, dT "row_of" 19, dT "check_size" 23, dT "at_most_six" 24, dT "is_place" 25, dT "check_place" 26, dT "apart_lot" 27, dT "lot_of" 28, dT "rest_of" 29, dT "joined" 30, dT "common" 31, dT "without" 32, dT "covariance" 34, dT "variance" 35, dT "table_rows" 38, dT "coin_rows" 39, dT "picked" 40, dT "turned_rows" 41, dT "beside_rows" 42, dT "has_link" 45, dT "rings_of" 46, dT "crossing_ring" 48, dT "independent" 49, dT "blurred" 51, dT "_law_draws" 53, dT "_law_eat" 54, dT "_law_gcd" 55]
def fn2 : List He.DefD := [dT "_law_low" 56, dT "_law_is" 57, dT "_law_add" 58, dT "_law_sub" 59, dT "_law_mul" 60, dT "_law_sum" 61, dT "_law_power" 62, dT "_law_places" 63, dT "_law_rest" 64, dT "_law_some" 65, dT "_law_det" 66, dT "_law_show" 67, dT "_law_chances" 68, dT "_law_rows" 69, dT "_law_size" 70, dT "_law_web" 71, dT "_law_sparse" 72, dT "_law_heavy" 73, dT "_law_dimmed" 74, dT "_law_free" 75, dT "_law_perm" 76, dT "_law_moved" 77, dT "_law_own" 78, dT "_law_plain" 79, dT "_law_turned" 80, dT "_law_across" 81, dT "_law_moment" 82, dT "_law_links" 83, dT "_law_asked" 84, dT "_law_next" 85, dT "_law_refused" 86, dT "_law_wide" 87, dT "law" 88, dM "__init__" "Table.__init__" 0, dM "moved" "Table.moved" 5]
def fn3 : List He.DefD := [dM "transposed" "Table.transposed" 6, dM "__invert__" "Table.__invert__" 8, dM "__add__" "Table.__add__" 9, dM "__eq__" "Table.__eq__" 11, dM "__getitem__" "Table.__getitem__" 12]
def fnL : List He.DefD := fn1 ++ (fn2 ++ fn3)
abbrev AlK : Type := Bool × List He.FnW × Fn7 × Fn7
def obsK (K : PySem.W.Frag) : AlK := ((faL.all fun f => f.ok K) && ((fnL.all fun d => d.ok K) && (exB K).all id), fnL.map fun d => He.fnW K d.at_, fn7 K (coG K), fn7 K (blA K))
def valK : AlK := (true, fnL.map He.DefD.val, val7 "coins" "Table.coins" (mS 1), val7 "__init__" "BadLot.__init__" blInit)
def obsKG (n : Nat) (g : Addr → Option Obj) : AlK := obsK (He.frG g (asK g n))
def hookK (n : Nat) : PySem.W.Hook where
  α := AlK
  obs := fun s => obsKG n s.heap.get?
  val := fun _ => valK
  says := fun _ h => ∃ K : PySem.W.Frag, K.In h ∧ obsK K = valK
  of := fun _ _ e => ⟨_, He.frG_in, e⟩
  keeps := fun _ _ _ ⟨K, hK, c⟩ k => ⟨K, PySem.W.Frag.In.keeps hK k, c⟩
theorem obsKG_eq {n : Nat} {g : Addr → Option Obj} {s : Shared} (h : ∀ a, g a = s.heap.get? a) : obsKG n g = (hookK n).obs s := by
  have e : g = s.heap.get? := funext h
  rw [e] <;> rfl
section
variable {K : PySem.W.Frag} (c : obsK K = valK)
include c
theorem sk_fa {i : Nat} {f : He.Fa} (h : faL[i]? = some f) : f.ok K = true := by
  have c1 := (He.ba (show ((faL.all fun f => f.ok K) && ((fnL.all fun d => d.ok K) && (exB K).all id)) = true from congrArg (fun z : AlK => z.1) c)).1
  exact List.all_eq_true.mp c1 f (List.mem_of_getElem? h)
theorem sk_ex {i : Nat} {b : Bool} (h : (exB K)[i]? = some b) : b = true := by
  have c1 := (He.ba (He.ba (show ((faL.all fun f => f.ok K) && ((fnL.all fun d => d.ok K) && (exB K).all id)) = true from congrArg (fun z : AlK => z.1) c)).2).2
  exact List.all_eq_true.mp c1 b (List.mem_of_getElem? h)
theorem sk_def {i : Nat} {d : He.DefD} (h : fnL[i]? = some d) : ∃ fd, FunD K d.name d.qual d.params d.body d.scope (d.dvs K) (d.kws K) (He.fAd K d.at_) fd := by
  have c2 := (He.ba (He.ba (show ((faL.all fun f => f.ok K) && ((fnL.all fun d => d.ok K) && (exB K).all id)) = true from congrArg (fun z : AlK => z.1) c)).2).1
  have e : fnL.map (fun d => He.fnW K d.at_) = fnL.map He.DefD.val := congrArg (fun z : AlK => z.2.1) c
  have e2 : (fnL.map fun d => He.fnW K d.at_)[i]? = (fnL.map He.DefD.val)[i]? := by rw [e]
  rw [List.getElem?_map, List.getElem?_map, h] at e2
  exact He.DefD.funD (Option.some.inj e2) (List.all_eq_true.mp c2 d (List.mem_of_getElem? h))
end
theorem fun8 {K : PySem.W.Frag} {x qual : Str} {st : Stmt} {f : Addr} {fd : FuncData} (F : FunD K x qual (C8.fnArgs st) (C8.fnBody st) (C8.fnScope st) [] [] f fd) : C8.Fun K x qual st f fd ∧ fd.defaults = .none := by
  obtain ⟨oc, od, dV, kV, doc, pm, an, cdv, ct, osl, rfl, lk, hcd, hD, hK⟩ := F.ex
  refine ⟨⟨oc, od, dV, kV, doc, pm, an, cdv, ct, osl, rfl, lk, hcd⟩, ?_⟩
  rcases hD with ⟨_, h⟩ | ⟨h, _⟩
  · exact h
  · exact absurd rfl h
theorem isNon_ok {v : Value} (h : isNon v = true) : v = .none := by
  cases v <;> first | rfl | cases h
theorem fn7_ok {K : PySem.W.Frag} {a : Addr} {x qual : Str} {st : Stmt} (e : fn7 K a = val7 x qual st) : ∃ oc od fd osl, K.lookup a = some ⟨oc, od, .func fd, osl⟩ ∧ fd = { name := x, qualname := qual, params := C8.fnArgs st, body := .stmts (C8.fnBody st), scope := C8.fnScope st, globals := mainGlobals, closure := fd.closure, defaults := fd.defaults, kwdefaults := fd.kwdefaults, doc := fd.doc, pyModule := fd.pyModule, annotations := fd.annotations, code := fd.code, closureTuple := fd.closureTuple, builtins := builtinsNs } := by
  unfold fn7 val7 at e
  cases q : K.lookup a with
  | none => rw [q] at e; cases e
  | some o =>
    obtain ⟨oc, od, dt, osl⟩ := o
    rw [q] at e
    cases dt with
    | func fd =>
      refine ⟨oc, od, fd, osl, rfl, ?_⟩
      obtain ⟨n1, n2, n3, n4, n5, n6, n7, n8, n9, n10, n11, n12, n13, n14, n15⟩ := fd
      simp only [Option.some.injEq, Prod.mk.injEq] at e
      obtain ⟨h1, h2, h3, h4, h5, h6, h7⟩ := e
      subst h1 h2 h3 h4 h5 h6 h7
      rfl
    | _ => cases e
end K18
end
section
set_option Elab.async false
set_option linter.all false
set_option maxRecDepth 100000
set_option maxHeartbeats 0
namespace K18
open PySem PySem.W PySem.Calls PyProof.Rows
abbrev R : OpenRow := OpenLaw.row PySem.Challenge.rw_spreadlots_k18_whole_numbers_of_two_side
abbrev qv : Program := view R.prog [88]
def n1 : List PySem.Str := ([("_wall" : PySem.Str), ("LotsError" : PySem.Str), ("BadFraction" : PySem.Str), ("BadNumber" : PySem.Str), ("BadLot" : PySem.Str), ("BadTable" : PySem.Str), ("BadRow" : PySem.Str), ("TooMany" : PySem.Str), ("is_whole" : PySem.Str), ("lowest" : PySem.Str), ("frac_or_none" : PySem.Str), ("frac_named" : PySem.Str), ("plus" : PySem.Str), ("minus" : PySem.Str), ("times" : PySem.Str), ("sign_of" : PySem.Str), ("row_where" : PySem.Str), ("row_of" : PySem.Str), ("MOST_PLACES" : PySem.Str), ("MOST_LISTED" : PySem.Str), ("check_size" : PySem.Str), ("at_most_six" : PySem.Str), ("is_place" : PySem.Str), ("check_place" : PySem.Str), ("apart_lot" : PySem.Str)] : List PySem.Str)
def n2 : List PySem.Str := ([("lot_of" : PySem.Str), ("rest_of" : PySem.Str), ("joined" : PySem.Str), ("common" : PySem.Str), ("without" : PySem.Str), ("covariance" : PySem.Str), ("variance" : PySem.Str), ("ZERO" : PySem.Str), ("table_rows" : PySem.Str), ("coin_rows" : PySem.Str), ("picked" : PySem.Str), ("turned_rows" : PySem.Str), ("beside_rows" : PySem.Str), ("Table" : PySem.Str), ("has_link" : PySem.Str), ("rings_of" : PySem.Str), ("crossing_ring" : PySem.Str), ("independent" : PySem.Str), ("blurred" : PySem.Str), ("_law_draws" : PySem.Str), ("_law_eat" : PySem.Str), ("_law_gcd" : PySem.Str), ("_law_low" : PySem.Str), ("_law_is" : PySem.Str), ("_law_add" : PySem.Str)] : List PySem.Str)
def n3 : List PySem.Str := ([("_law_sub" : PySem.Str), ("_law_mul" : PySem.Str), ("_law_sum" : PySem.Str), ("_law_power" : PySem.Str), ("_law_places" : PySem.Str), ("_law_rest" : PySem.Str), ("_law_some" : PySem.Str), ("_law_det" : PySem.Str), ("_law_show" : PySem.Str), ("_law_chances" : PySem.Str), ("_law_rows" : PySem.Str), ("_law_size" : PySem.Str), ("_law_web" : PySem.Str), ("_law_sparse" : PySem.Str), ("_law_heavy" : PySem.Str), ("_law_dimmed" : PySem.Str), ("_law_free" : PySem.Str), ("_law_perm" : PySem.Str), ("_law_moved" : PySem.Str), ("_law_own" : PySem.Str), ("_law_plain" : PySem.Str), ("_law_turned" : PySem.Str), ("_law_across" : PySem.Str), ("_law_moment" : PySem.Str), ("_law_links" : PySem.Str)] : List PySem.Str)
def n4 : List PySem.Str := ([("_law_asked" : PySem.Str), ("_law_next" : PySem.Str), ("_law_refused" : PySem.Str), ("_law_wide" : PySem.Str)] : List PySem.Str)
def names : List PySem.Str := n1 ++ (n2 ++ (n3 ++ (n4)))
def ob (s : SharedT) : AlK := obsKG 5 (HandSHeadRun.getT s)
theorem ob_eq (s : SharedT) : ob s = (hookK 5).obs s.abs := obsKG_eq (HandSHeadRun.getT_eq s)
theorem run (w : World) : HandSHeadRun.RunEq R qv (hookK 5) ob 8000 names w := by
  intro os
  kernel_rfl
end K18
end
section
set_option Elab.async false
set_option linter.all false
set_option maxRecDepth 100000
set_option maxHeartbeats 1000000
namespace K18
open PySem PySem.Spec PyProof.Rows L2
open Sem (wp)
open AutoSeq1 (wpAny_loadPart')
/-! ### enumerate over a tuple -/
theorem meets_enum_T {v : Value} {o : Obj} {H : Heap → Prop} (B : Begins v o H) :
    Meets (Builtin.«enumerate.__new__» ⟨[.type "enumerate", v], []⟩) (fun _ R s => H s.heap ∧
      R (.ok (.ret (.ref (s.heap.push o).objs.size))) { s with heap := (s.heap.push o).push { cls := .type "enumerate", data := .fields #[.none, .bool false, .ref s.heap.objs.size, rawInt 0, .none, .none] } }) :=
  .of_wp fun prog w A R s h => by
    obtain ⟨hp, g, d, tk, os⟩ := s; obtain ⟨h1, h⟩ := h
    have hsub := sub_enumerate
    have hI : ∀ (A' : Around) (E' : Value → Shared → Prop) (Q' : Value → Shared → Prop), Q' (.ref hp.objs.size) ⟨hp.push o, g, d, tk, os⟩ → wpAny (model prog w) A' (pyIter v) Q' E' ⟨hp, g, d, tk, os⟩ := fun A' E' Q' q => B.iter prog w A' E' ⟨hp, g, d, tk, os⟩ Q' h1 q
    wp_walk
    refine wpAny_stack_any fun st => wpAny_pure ?_
    split
    · rename_i c _ _ _ _ _
      cases (c == Value.type "enumerate")
      · wp_walk using hI
        exact ⟨_, rfl, h⟩
      · wp_walk using hI
        exact ⟨_, rfl, h⟩
    · wp_walk using hI
      exact ⟨_, rfl, h⟩
section
variable {prog : Program} {w : World} {A : Around} {E : Value → Shared → Prop} {s : Shared}
theorem call_enum_T {v : Value} {o : Obj} {H : Heap → Prop} {Q : Value → Shared → Prop} (B : Begins v o H) (h1 : H s.heap)
    (h : ∀ h', IsEnum h' (s.heap.objs.size + 1) s.heap.objs.size 0 .none → h'.get? s.heap.objs.size = some o → h'.objs.size = s.heap.objs.size + 2 →
      (∀ b o, s.heap.get? b = some o → h'.get? b = some o) → Q (.ref (s.heap.objs.size + 1)) { s with heap := h' }) :
    wpAny (model prog w) A (call (.type "enumerate") [v]) Q E s := by
  refine callType_new F.called_enumerate (by decide) (F.typeCall_enumerate_1 _) (F.newCall_enumerate_1 _) (fun obj => F.args_object_init_2 obj _) F.entry_enumerate_new
    (meets_enum_T B) ⟨h1, ?_⟩
  have hz : (s.heap.push o).objs.size = s.heap.objs.size + 1 := Heap.size_push ..
  show _ ∧ _
  rw [hz]
  have he : IsEnum ((s.heap.push o).push
      { cls := .type "enumerate", data := .fields #[.none, .bool false, .ref s.heap.objs.size, rawInt 0, .none, .none] }) (s.heap.objs.size + 1) s.heap.objs.size 0 .none := by
    have := Heap.get?_push_size (s.heap.push o)
      (o := { cls := .type "enumerate", data := .fields #[.none, .bool false, .ref s.heap.objs.size, rawInt 0, .none, .none] }) rfl
    rw [hz] at this; exact this
  refine ⟨⟨_, he, rfl⟩, h _ he (Heap.get?_push_of_some _ (Heap.get?_push_size _ B.free)) (by rw [Heap.size_push, hz]) fun b o x => Heap.get?_push_of_some _ (Heap.get?_push_of_some _ x)⟩
end
/-- the tuple at a, each item in a new pair -/
def Iet (K : PySem.W.Frag) (a : Addr) : It :=
  ⟨fun i H => ∃ (xs : List V) (x : V), SqT K H a xs ∧ xs[i]? = some x, fun i H v H' => ∃ T x, v = .ref T ∧ H T = none ∧ H' = upd H T (.tup [.int (i : Nat), x]) ∧ ∀ xs, SqT K H a xs → xs[i]? = some x, fun i H => ∃ xs : List V, SqT K H a xs ∧ xs.length = i⟩
theorem turn_enumT {P : Program} {w : World} {K : PySem.W.Frag} {elts : List Expr} {kk : Nat} {tpos : Pos} (a e it : Addr) :
    Turn P w K (.Tuple elts kk tpos) (Iet K a) [e, it] e (fun i h => (∃ old, IsEnum h e it ((i : Nat) : Int) old) ∧ h.IsTupleIter it a i ∧ e ≠ it ∧ a ≠ it ∧ e ≠ a) where
  mem := by simp
  obj := fun i h st b hb => by
    obtain ⟨⟨old, he⟩, ⟨o, ho, hc, hd⟩, _⟩ := st
    have e' : b = e ∨ b = it := by simpa using hb
    rcases e' with z | z
    · rw [z]; exact ⟨_, he, fun v q => nomatch q⟩
    · rw [z]; exact ⟨o, ho, fun v q => by rw [hd] at q; cases q⟩
  keep := fun i h h' st k => let ⟨⟨old, he⟩, hi, hne⟩ := st; ⟨⟨old, k e (by simp) _ he⟩, hi.at fun o q => k it (by simp) o q, hne⟩
  item := by
    intro X hP hw hK hc i pins s σ H E I hf st hg
    subst hP hw hK
    obtain ⟨⟨old, he⟩, hit, hne, hai, hea⟩ := st
    obtain ⟨xs, x, hq, hx⟩ := hg
    obtain ⟨its, rv, p, hz⟩ := I.tuple hq
    obtain ⟨u, hu, ru⟩ := rv.get hx
    have hel : e < s.heap.objs.size := Heap.lt_size he
    have hil : it < s.heap.objs.size := by obtain ⟨_, q, _⟩ := hit; exact Heap.lt_size q
    have hlen : i < its.toArray.size := by
      obtain ⟨hlt, _⟩ := List.getElem?_eq_some_iff.mp hu
      simpa using hlt
    refine wpAny_pyNext_enum_itemC (D := (Draws.tuple (A := X.A.in1) (I.ok.hd hc) it a hai its.toArray)) he ⟨hit, (show s.heap.IsTuple a its.toArray from p)⟩ hlen hne (by simp [hne, hea]) fun x' h' tk hP ho hs' hT hsz hk => ?_
    have ex : x' = u := by
      have : its.toArray[i]? = some x' := hP
      rw [List.getElem?_toArray, hu] at this
      exact (Option.some.inj this).symm
    subst ex
    obtain ⟨hit', _⟩ := hs'
    refine ⟨_, rfl, wpAny_letOwnedTupleGo_enum (s := { s with heap := h', toks := tk + 1 }) ho fun h'' he' sb => ?_⟩
    have hT2 : h''.get? s.heap.objs.size = some { cls := .type "tuple", data := .seq #[.int i tk, x'] } := (sb.2 _ (Nat.ne_of_gt hel)).trans hT
    have new : ObjOk X.prog X.w (upd H s.heap.objs.size (.tup [.int (i : Nat), x])) h'' s.heap.objs.size (.tup [.int (i : Nat), x]) :=
      ⟨by show 2 ≤ sizeLine; decide, [.int i tk, x'], .cons ⟨_, rfl⟩ (.cons ru .nil), ⟨_, hT2, rfl, _, rfl⟩⟩
    have I1 : Inv X pins σ (upd H s.heap.objs.size (.tup [.int (i : Nat), x])) { s with heap := h'', toks := tk + 1 } :=
      I.turnedNew (ch := [e, it]) (fun b ob hb q => (sb.2 b (fun z => hb (by simp [z]))).trans (hk b ob (fun z => hb (by simp [z])) (fun z => hb (by simp [z])) q)) hf (Nat.le_refl _) new
    refine ⟨.ref s.heap.objs.size, _, I1, rfl, ⟨_, x, rfl, I.hok.fresh (Nat.le_refl _), rfl, fun ys hy => by rw [I.tuple_inj hy hq]; exact hx⟩, ⟨⟨x', ?_⟩, hit'.at fun o q => (sb.2 it (Ne.symm hne)).trans q, hne, hai, hea⟩, fun b hb => ?_⟩
    · have e1 : ((i + 1 : Nat) : Int) = (i : Int) + 1 := by omega
      rw [e1]; exact he'
    · have hb' : b < s.heap.objs.size := by
        have e' : b = e ∨ b = it := by simpa using hb
        rcases e' with z | z
        · rw [z]; exact hel
        · rw [z]; exact hil
      rw [upd_ne (Nat.ne_of_lt hb')]
      exact (hf b hb).1
  done := by
    intro X hP hw hK hc i pins s σ H E I hf st hg
    subst hP hw hK
    obtain ⟨⟨old, he⟩, hit, hne, hai, hea⟩ := st
    obtain ⟨xs, hq, hx⟩ := hg
    obtain ⟨its, rv, p, hz⟩ := I.tuple hq
    obtain ⟨f0, f1, f2, f3, f4, f5⟩ := hf it (by simp)
    have hl := rv.length
    have hn : i = its.toArray.size := by simp; omega
    subst hn
    exact wpAny_pyNext_enum_endD (D := (Draws.tuple (A := X.A.in1) (I.ok.hd hc) it a hai its.toArray)) he ⟨hit, (show s.heap.IsTuple a its.toArray from p)⟩ fun h' eb => ⟨rfl, I.turned (t' := s.toks) (fun b o hb q => eb b o hb q) f0 f1 f3 f4 f5⟩
  self := fun A i s Q E st h => let ⟨⟨_, he⟩, _⟩ := st; wpAny_pyIter_enum he h
/-- over a list or a tuple -/
def iEnumA (K : PySem.W.Frag) (ta : TA) : TI := fun σ H R => ta σ H fun vs H1 => ∃ a xs, vs = [.ref a] ∧ ((SqL K H1 a xs ∧ R (Ite K a) H1) ∨ (SqT K H1 a xs ∧ R (Iet K a) H1))
theorem pi_enumA_run {X : Cx} {tpos : Pos} {elts : List Expr} {kk : Nat} {pins : List (Addr × Obj)} {s1 : Shared} {σ : L2.St} {H1 : Hp} {R : It → Hp → Prop} {a : Addr} {xs : List V} {us : List Value} (I1 : Inv X pins σ H1 s1) (r1 : Vals [V.ref a] us)
    (q1 : (SqL X.K H1 a xs ∧ R (Ite X.K a) H1) ∨ (SqT X.K H1 a xs ∧ R (Iet X.K a) H1)) : wpAny (model X.prog X.w) X.A (call (.type "enumerate") us) (fun v s2 => wpAny (model X.prog X.w) X.A (pyIter v) (PIE X pins σ (.Tuple elts kk tpos) R) X.xe s2) X.xe s1 := by
  cases r1 with
  | cons r rr =>
    cases rr
    cases r
    have fin : ∀ (h' : Heap) (it : It) (tn : Nat → Heap → Prop), Turn X.prog X.w X.K (.Tuple elts kk tpos) it [s1.heap.objs.size + 1, s1.heap.objs.size] (s1.heap.objs.size + 1) tn → tn 0 h' → (∃ old, IsEnum h' (s1.heap.objs.size + 1) s1.heap.objs.size 0 old) → (∀ b o, s1.heap.get? b = some o → h'.get? b = some o) → R it H1 → wpAny (model X.prog X.w) X.A (pyIter (.ref (s1.heap.objs.size + 1))) (PIE X pins σ (.Tuple elts kk tpos) R) X.xe { s1 with heap := h' } := fun h' it tn T st he hk q => by
      obtain ⟨old, he⟩ := he
      refine wpAny_pyIter_enum he ?_
      have I2 : Inv X pins σ H1 { s1 with heap := h' } := I1.kept (t' := s1.toks) hk
      refine ⟨s1.heap.objs.size + 1, [s1.heap.objs.size + 1, s1.heap.objs.size], _, _, H1, rfl, I2, T, st, fun b hb => ?_, q⟩
      have e' : b = s1.heap.objs.size + 1 ∨ b = s1.heap.objs.size := by simpa using hb
      have hle : s1.heap.objs.size ≤ b := by
        rcases e' with z | z
        · rw [z]; exact Nat.le_add_right _ _
        · rw [z]; exact Nat.le_refl _
      exact I1.fpOk hle (I1.hok.fresh hle)
    rcases q1 with ⟨hq, q⟩ | ⟨hq, q⟩
    · obtain ⟨its, rv, p', hz⟩ := I1.list hq
      exact call_enumerate_list p'.isList fun h' he hit hsz hk => fin h' _ _ (turn_enum a (s1.heap.objs.size + 1) s1.heap.objs.size) ⟨⟨.none, he⟩, hit, Nat.succ_ne_self _⟩ ⟨_, he⟩ hk q
    · obtain ⟨its, rv, p', hz⟩ := I1.tuple hq
      have hal : a < s1.heap.objs.size := by obtain ⟨o, ho, _⟩ := (show s1.heap.IsTuple a its.toArray from p'); exact Heap.lt_size ho
      exact call_enum_T (begins_tuple a its.toArray) (show s1.heap.IsTuple a its.toArray from p') fun h' he ho hsz hk => fin h' _ _ (turn_enumT a (s1.heap.objs.size + 1) s1.heap.objs.size) ⟨⟨.none, he⟩, ⟨_, ho, rfl, rfl⟩, Nat.succ_ne_self _, Nat.ne_of_lt hal, (Nat.ne_of_lt (Nat.lt_succ_of_lt hal)).symm⟩ ⟨_, he⟩ hk q
theorem pi_enumA {X : Cx} {e : Expr} {ta : TA} {p pos tpos : Pos} {elts : List Expr} {kk : Nat} (hg : Gl X "enumerate") (hm : X.mg "enumerate" = none) (ha : PA X [e] ta) (hs : starEach [e] X.env = [(false, eval e X.env)] := by rfl) :
    PI X (.Tuple elts kk tpos) (.Call (.Name "enumerate" p) [e] [] pos) (iEnumA X.K ta) := by
  refine ⟨fun pins s σ H R I h => ?_⟩
  refine Call_ (ld_blt I hg hm boot_enumerate (PyProof.Rows.callWith_type1 (thn (ha.run pos pins s σ H _ I h) fun us s1 ⟨vs, H1, I1, r1, q1⟩ => ?_) hs rfl))
  obtain ⟨a, xs, ex, q1⟩ := q1
  subst ex
  exact pi_enumA_run I1 r1 q1
end K18
end
section
set_option Elab.async false
set_option linter.all false
set_option maxRecDepth 100000
set_option maxHeartbeats 1000000
namespace PySem.W
open PySem PySem.Calls PyProof.Rows
section
variable {prog : Program} {w : World} {A A₀ : Around} {E : Value → Shared → Prop} {s : Shared} {K : Frag} {x C L f : Addr} {h₀ : Heap} {m : Str → Option Value} {ox : Obj} {od : Option Obj} {name : Str} {b tb : Value}
theorem ne_bind (self : Value) : bindSpecial (.builtin "object.__ne__") self = pure (.builtin "object.__ne__", [self]) :=
  (Slot.of (T := "object") (name := "__ne__") (owner := "object") (n := "__ne__") (by rw [typeLookup_type, builtinLookup_eq_fast]; kernel_rfl) (by decide +kernel) (by decide +kernel) (by decide +kernel)
    (.inl (by decide +kernel)) (by rw [isSubtype_type]; kernel_rfl)).bind self
theorem ifBound_ne {M : Model} {args : List Value} {Q : Option Value → Shared → Prop} (X : K.In s.heap) (I : InstAt s.heap x ox C od) (hs : findIn K (.ref C) "__ne__" = some (some (.builtin "object.__ne__")))
    (h : wpAny M A (call (.builtin "object.__ne__") (.ref x :: args)) (fun v => Q (some v)) E s) : wpAny M A (callSpecialIfBound? (.ref x) "__ne__" args) Q E s := by
  simp only [callSpecialIfBound?, bindSpecialIfBound?]
  refine wpAny_holding (wpAny_bind (wpAny_bind (wpAny_bind (I.type.here ((looks_findIn X hs).here ?_)))))
  simp only [ne_bind]
  refine wpAny_bind (wpAny_askSetting (wpAny_ite ?_))
  have fin : wpAny M A (call (.builtin "object.__ne__") ([.ref x] ++ args) >>= fun v => pure (some v)) Q E s := wpAny_bind (wpAny_mono h (fun v s' h' => wpAny_pure h') fun _ _ h' => h')
  split
  · exact wpAny_bind (wpAny_pure (wpAny_pure (by exact fin)))
  · exact wpAny_tryCatch (wpAny_bind (wpAny_pure (wpAny_pure (by exact fin))))
theorem run_ne {Q : Fin → Shared → Prop} (hu : A.units < cLine) (X : K.In s.heap) (I : InstAt s.heap x ox C od) (hs : findIn K (.ref C) "__eq__" = some (some (.ref f))) (hf : isFn K (.ref f) = true)
    (h : wpAny (model prog w) A (call (.ref f) [.ref x, b]) (fun v s' => ∃ r, v = .bool r ∧ Q (.done (.ret (.bool (!r)))) s') E s) :
    wpAny (model prog w) A (Builtin.«object.__ne__» ⟨[.ref x, b], []⟩) Q E s := by
  unfold Builtin.«object.__ne__»
  repeat (first
    | with_reducible refine wpAny_cRoomFor hu ?_
    | (refine wpAny_bind (m := callSpecialIfBound? (.ref x) (Str.ofString "__eq__") [b])
        (ifBound_K X I hs hf (wpAny_mono h (fun r s' hr => by
          obtain ⟨b', rfl, hq⟩ := hr
          repeat (first | exact hq | exact wpAny_pure hq | exact wpAny_truthy_bool hq | (refine wpAny_bind (m := truthy (.bool _)) (wpAny_truthy_bool ?_)) | wp_step)) fun _ _ e => e)))
    | wp_step)
theorem ne_K {Q : Value → Shared → Prop} (hu : A.units + 1 < cLine) (X : K.In s.heap) (I : InstAt s.heap x ox C od) (hb : Looks (model prog w) s.heap (typeOf b) (.ref C))
    (hn : findIn K (.ref C) "__ne__" = some (some (.builtin "object.__ne__"))) (hm : mroIn K C (.type "object") = some true)
    (hs : findIn K (.ref C) "__eq__" = some (some (.ref f))) (hf : isFn K (.ref f) = true)
    (h : wpAny (model prog w) A.in1 (call (.ref f) [.ref x, b]) (fun v s' => ∃ r, v = .bool r ∧ Q (.bool (!r)) s') E s) : wpAny (model prog w) A (richCompare .NotEq (.ref x) b) Q E s := by
  have one : wpAny (model prog w) A (tryCompare (.ref x) "__ne__" b) (fun r s' => ∃ v, r = some v ∧ Q v s') E s := by
    unfold tryCompare
    refine wpAny_bind (ifBound_ne X I hn (wpAny_call (codeAny_call_builtin (by decide +kernel) F.cmpEntry_ne (check_slot F.cmpKind_ne F.cmpSplit_ne (I.type.andThen (looks_mroIn X hm)) (F.cmpArgs_ne _ _) (run_ne (A := A.in1) hu X I hs hf (wpAny_mono h (fun v s' hv => ?_) fun _ _ e => e))))))
    obtain ⟨r, rfl, hq⟩ := hv
    exact ⟨r, rfl, wpAny_pure ⟨_, rfl, hq⟩⟩
  unfold richCompare
  simp only [oneThing_ref]
  refine wpAny_holding (wpAny_bind (wpAny_cRoomFor (Nat.lt_of_succ_lt hu) ?_))
  refine wpAny_bind (I.type.here (wpAny_bind (hb.here ?_)))
  rw [show (Value.ref C != Value.ref C) = false from by simp]
  simp only [Bool.false_eq_true, if_false]
  refine wpAny_bind (wpAny_pure ?_)
  simp only [Bool.false_eq_true, if_false]
  refine wpAny_bind (wpAny_mono one (fun r s' z => ?_) fun _ _ e => e)
  obtain ⟨v, rfl, hq⟩ := z
  exact wpAny_pure hq
end
end PySem.W
namespace K18
open PySem PySem.Spec PyProof.Rows L2
/-- what the text's operators ask of the class at C -/
structure TabC (K : PySem.W.Frag) (C : Addr) : Prop where
  isi : C8.InsC K C
  first : PySem.W.selfFirst K C = true
  ne : PySem.W.findIn K (.ref C) "__ne__" = some (some (.builtin "object.__ne__"))
section
variable {X : Cx} {k j : Nat} {C : Addr} {m : Str} {sp : Sp} {a b : Expr} {ta tb : TE} {pos : Pos}
def rOwn2 (C : Addr) (sp : Sp) : R2 := fun x y H Q => ∃ p q dx dy fs gs, x = .ref p ∧ y = .ref q ∧ H p = some (.ins C dx fs) ∧ H q = some (.ins C dy gs) ∧ sp [x, y] H (fun v H' => (∃ r, v = .ref r) ∧ Q v H') C8.E0
/-- x + y -/
theorem op_addO (T : TabC X.K C) (c : C8.Met X.prog X.w X.K X.mg X.base k C "__add__" sp []) (hr : Room j X.A) (hk : k ≤ j) : OpR X (binaryOp .Add) (rOwn2 C sp) := by
  intro pins s σ H x y v u Q I rx ry h
  obtain ⟨p, q, dx, dy, fs, gs, rfl, rfl, hp, hq, h⟩ := h
  cases rx
  cases ry
  obtain ⟨f, fd, ps, ds, hc, hm, F, hb, d⟩ := c.ex
  obtain ⟨mA, J, _⟩ := ins_get I.hok hp
  obtain ⟨mB, J', _⟩ := ins_get I.hok hq
  obtain ⟨od, J, _⟩ := J.look
  obtain ⟨od', J', _⟩ := J'.look
  obtain ⟨m, hF⟩ := I.fr
  refine PySem.W.binop_K hF I.ok.mod.kin J J'.type T.first hm.at_ hm.fn ?_
  refine wpAny_mono (run_fn (us := [.ref p, .ref q]) (vs := [.ref p, .ref q]) F (hr.mono hk) hb d C8.pass0 I (.cons rfl (.cons rfl .nil)) h) (fun r s' z => ?_) fun _ _ e => e
  obtain ⟨v, H', I', rv, hv, hQ⟩ := z
  obtain ⟨r', rfl⟩ := hv
  cases rv
  exact ⟨.ref r', H', I', rfl, hQ⟩
def rOwn1 (C : Addr) (sp : Sp) : V → Hp → VK → Prop := fun x H Q => ∃ p dx fs, x = .ref p ∧ H p = some (.ins C dx fs) ∧ sp [x] H Q C8.E0
/-- ~x -/
theorem un_invO (c : C8.Met X.prog X.w X.K X.mg X.base k C "__invert__" sp []) (hr : Room j X.A) (hk : k ≤ j) : UnR X (unaryOp .Invert) (rOwn1 C sp) := by
  intro pins s σ H x v Q I rx h
  obtain ⟨p, dx, fs, rfl, hp, h⟩ := h
  cases rx
  obtain ⟨f, fd, ps, ds, hc, hm, F, hb, d⟩ := c.ex
  obtain ⟨mA, J, _⟩ := ins_get I.hok hp
  obtain ⟨od, J, _⟩ := J.look
  obtain ⟨m, hF⟩ := I.fr
  exact PySem.W.ksp_inv hF I.ok.mod.kin J hm.at_ hm.fn (run_fn (us := [.ref p]) (vs := [.ref p]) F (hr.mono hk) hb d C8.pass0 I (.cons rfl .nil) h)
/-- x[y] -/
def rOwnI (C : Addr) (sp : Sp) : R2 := fun x y H Q => ∃ p dx fs, x = .ref p ∧ H p = some (.ins C dx fs) ∧ sp [x, y] H Q C8.E0
theorem pe_ixO (c : C8.Met X.prog X.w X.K X.mg X.base k C "__getitem__" sp []) (hr : Room j X.A) (hk : k + 1 ≤ j) (hfi : ∀ f, Meth X.K C "__getitem__" f → PySem.W.fnIn X.K f = true) (ha : PE X a ta) (hb : PE X b tb)
    (hsl : ∀ x i, subscripted b true (.ref x) i = runValue (.builtin "lifetime.subscript" ⟨[.ref x, i], []⟩)) : PE X (.Subscript a b pos) (tOp (rOwnI C sp) ta tb) := by
  refine ⟨fun pins s σ H Q I h => ?_⟩
  refine Subscript_ (binT ha hb I h fun v u s2 x y H2 I2 rx ry q => ?_)
  obtain ⟨p, dx, fs, rfl, hp, q⟩ := q
  cases rx
  obtain ⟨f, fd, ps, ds, hc, hm, F, hbn, d⟩ := c.ex
  obtain ⟨mA, J, _⟩ := ins_get I2.hok hp
  obtain ⟨od, J, _⟩ := J.look
  obtain ⟨m, hF⟩ := I2.fr
  cases d
  refine PySem.W.sub_K hF I2.ok.mod.kin J hm.at_ (hfi f hm) hm.fn ?_ (hsl _ _)
  have hr' : Room k X.A.in1 := (hr.mono hk).in1
  have r2 : Vals [V.ref p, y] [Value.ref p, u] := .cons rfl (.cons ry .nil)
  have hl := F.len _ _ _ _ q
  refine wpAny_call (codeAny_mono (F.run X.A.in1 X.stack s2 H2 ⟨[.ref p, u], []⟩ [.ref p, u] [.ref p, y] Q C8.E0 hr' I2.env0.in1 (by
    have := hbn s2 [.ref p, u] I2.kIn (by simpa using hl)
    simpa using this) r2 q) fun r s' hq => ?_)
  cases r with
  | error e => exact hq.elim
  | ok fl =>
    cases fl with
    | ret w => exact I2.after hq
    | next => exact False.elim hq
    | brk => exact False.elim hq
    | cont => exact False.elim hq
/-- x != y: what the own == says, turned -/
def rOwnN (C : Addr) (sp : Sp) : R2 := fun x y H Q => ∃ p q dx dy fs gs, x = .ref p ∧ y = .ref q ∧ H p = some (.ins C dx fs) ∧ H q = some (.ins C dy gs) ∧ sp [x, y] H (fun v H' => ∃ r, v = .bl r ∧ Q (.bl (!r)) H') C8.E0
theorem op_neO (T : TabC X.K C) (c : C8.Met X.prog X.w X.K X.mg X.base k C "__eq__" sp []) (hr : Room j X.A) (hk : k + 1 ≤ j) : OpR X (compareOp .NotEq) (rOwnN C sp) := by
  intro pins s σ H x y v u Q I rx ry h
  obtain ⟨p, q, dx, dy, fs, gs, rfl, rfl, hp, hq, h⟩ := h
  cases rx
  cases ry
  obtain ⟨f, fd, ps, ds, hc, hm, F, hb, d⟩ := c.ex
  obtain ⟨mA, J, _⟩ := ins_get I.hok hp
  obtain ⟨mB, J', _⟩ := ins_get I.hok hq
  obtain ⟨od, J, _⟩ := J.look
  obtain ⟨od', J', _⟩ := J'.look
  have hr' : Room (k + 1) X.A := hr.mono hk
  cases d
  show wpAny (model X.prog X.w) X.A (richCompare .NotEq (.ref p) (.ref q)) (EP X pins σ Q) X.xe s
  refine PySem.W.ne_K hr'.in1.units0 I.kIn J J'.type T.ne T.isi.hm hm.at_ hm.fn ?_
  have r2 : Vals [V.ref p, .ref q] [Value.ref p, .ref q] := .cons rfl (.cons rfl .nil)
  have hl := F.len _ _ _ _ h
  refine wpAny_call (codeAny_mono (F.run X.A.in1 X.stack s H ⟨[.ref p, .ref q], []⟩ [.ref p, .ref q] [.ref p, .ref q] _ C8.E0 hr'.in1 I.env0.in1 (by
    have := hb s [.ref p, .ref q] I.kIn (by simpa using hl)
    simpa using this) r2 h) fun r s' hq => ?_)
  cases r with
  | error e => exact hq.elim
  | ok fl =>
    cases fl with
    | ret w =>
      obtain ⟨v, H', I', rv, r, rfl, hQ⟩ := I.after hq
      cases rv
      exact ⟨r, rfl, .bl (!r), H', I', rfl, hQ⟩
    | next => exact False.elim hq
    | brk => exact False.elim hq
    | cont => exact False.elim hq
end
end K18
end
section
set_option Elab.async false
set_option linter.all false
set_option maxRecDepth 100000
set_option maxHeartbeats 4000000
namespace SrtO
open PySem PyProof.Rows Srt
section
variable {prog : Program} {w : World} {A : Around} {E : Value → Shared → Prop} {s : Shared}
theorem collect_tupleK {l : Addr} {vs : List Value} {Q : List Value → Shared → Prop} (hl : s.heap.IsTuple l vs.toArray)
    (h : Q vs { s with heap := (s.heap.push (seqObj "list" #[] 0)).update s.heap.objs.size (Obj.mapSeq (· ++ vs.toArray)) }) (hsz : vs.length ≤ sizeLine := by size_fits) :
    wpAny (model prog w) A (collect (.ref l)) Q E s := by
  obtain ⟨o, ho, hc, n, hd⟩ := id hl
  unfold collect
  refine wpAny_bind (wpAny_runValue (codeAny_builtin entry_proto_collect' ?_))
  show wpAny _ _ (do again (.builtin "list.__iadd__" ⟨[← newList [], .ref l], []⟩)) _ _ s
  refine wpAny_bind (wpAny_newList (wpAny_pure ⟨Code.quiet_builtin _ (by decide +kernel), codeAny_builtin entry_list_iadd' ?_⟩))
  show wpAny _ _ (Builtin.List.listExtendWith (.ref s.heap.objs.size) (.ref l) (.ref s.heap.objs.size)) _ _ { s with heap := s.heap.push (seqObj "list" #[] 0) }
  unfold Builtin.List.listExtendWith
  have ho' : (s.heap.push (seqObj "list" #[] 0)).get? l = some o := Heap.get?_push_of_some _ ho
  refine wpAny_bind (wpAny_typeOf (T := "tuple") ⟨o, ho', hc⟩ ?_)
  have ht : (Value.type "tuple" == Value.type "tuple") = true := by rfl
  rw [if_pos (by rw [ht]; simp)]
  refine wpAny_bind (listItems_at ho' hd ?_)
  refine wpAny_bind (listItems_at (xs := #[]) (n := 0) (Heap.get?_push_size _ rfl) rfl ?_)
  rw [if_neg (by simp)]
  refine wpAny_bind (listUpdate_at (xs := #[]) (n := 0) (Heap.get?_push_size _ rfl) rfl ?_ (Nat.zero_le _) (by show (#[] ++ vs.toArray).size ≤ sizeLine + 1; simp only [Array.size_append, List.size_toArray, List.length_nil]; omega))
  refine wpAny_pure ?_
  show wpAny (model prog w) A (do
      let o ← load s.heap.objs.size
      match o.data with
      | .seq xs _ => pure xs.toList
      | _ => unsupported "internal:collect") Q E { s with heap := (s.heap.push (seqObj "list" #[] 0)).update s.heap.objs.size (Obj.mapSeq (· ++ vs.toArray)) }
  refine wpAny_bind (wpAny_load (get?_update_seq (Heap.get?_push_size _ rfl) _) ?_)
  show wpAny _ _ (pure ((#[] : Array Value) ++ vs.toArray).toList) Q E _
  rw [show ((#[] : Array Value) ++ vs.toArray).toList = vs by simp]
  exact wpAny_pure h
theorem sorted_ordT {l : Addr} {vs : List Value} {ltv : Value → Value → Bool} {Q : Value → Shared → Prop} (O : Swo ltv) (hl : s.heap.IsTuple l vs.toArray) (hz : vs.length ≤ sizeLine)
    (hS : 2 ≤ vs.length → ∀ (h₁ : Heap) (a : Addr), h₁.get? a = some (seqObj "list" vs.toArray 0) → (∀ b o, s.heap.get? b = some o → b ≠ a ∧ h₁.get? b = some o) → SortableO prog w A.in1.in1 { s with heap := h₁ } a vs ltv)
    (h : ∀ out : List Value, Srtd ltv out → Stb ltv out vs → Q (.ref (s.heap.objs.size + 1)) { s with heap := sortedAll s.heap vs out.toArray }) :
    wpAny (model prog w) A (call (.builtin "sorted") [.ref l]) Q E s := by
  refine Calls.call_function_entry kind_sorted plain_sorted entry_sorted (args_sorted1 _) ?_
  unfold Builtin.«sorted»
  refine wpAny_bind (m := checkCount "sorted" 1 1 _) (wpAny_pure ?_)
  refine wpAny_bind (collect_tupleK hl ?_ hz)
  refine wpAny_bind (wpAny_newList ?_ hz)
  have hsz : ((s.heap.push (seqObj "list" #[] 0)).update s.heap.objs.size (Obj.mapSeq (· ++ vs.toArray))).objs.size = s.heap.objs.size + 1 := by
    rw [Heap.size_update, size_push']
  have hoL : (((s.heap.push (seqObj "list" #[] 0)).update s.heap.objs.size (Obj.mapSeq (· ++ vs.toArray))).push (seqObj "list" vs.toArray 0)).get? (s.heap.objs.size + 1) = some (seqObj "list" vs.toArray 0) := by
    rw [← hsz]; exact Heap.get?_push_size _ rfl
  have keep : ∀ b o, s.heap.get? b = some o → b ≠ s.heap.objs.size + 1 ∧ (((s.heap.push (seqObj "list" #[] 0)).update s.heap.objs.size (Obj.mapSeq (· ++ vs.toArray))).push (seqObj "list" vs.toArray 0)).get? b = some o := fun b o q => by
    have hlt : b < s.heap.objs.size := Heap.lt_size q
    refine ⟨Nat.ne_of_lt (Nat.lt_succ_of_lt hlt), Heap.get?_push_of_some _ ?_⟩
    rw [Heap.get?_update_ne _ _ _ _ (Nat.ne_of_lt hlt)]
    exact Heap.get?_push_of_some _ q
  show wpAny _ _ _ _ _ { s with heap := ((s.heap.push (seqObj "list" #[] 0)).update s.heap.objs.size (Obj.mapSeq (· ++ vs.toArray))).push (seqObj "list" vs.toArray 0) }
  rw [hsz]
  refine wpAny_bind (wpAny_holding (wpAny_call_entry slot_list_sort ⟨_, hoL, rfl⟩ entry_list_sort (list_sort_ord O hoL hz (fun h2 => hS h2 _ _ hoL keep) fun out hs hb => ⟨_, rfl, ?_⟩) (args_list_sort _)))
  exact wpAny_pure ⟨_, rfl, h out hs hb⟩
end
end SrtO
namespace HT
open PySem PySem.Spec PyProof.Rows
section
variable {prog : Program} {w : World} {A : Around} {E : Value → Shared → Prop} {s : Shared}
theorem sliceApplied_rev {sl : Addr} {vl vu vs : Value} {n : Nat} {Q : Int × Int × Nat → Shared → Prop} (hs : s.heap.IsSliceOf sl vl vu vs) (pl : IsPart vl none) (pu : IsPart vu none) (ps : IsPart vs (some (-1)))
    (h : Q ((n : Int) - 1, -1, n) s) : wpAny (model prog w) A (Builtin.Slice.sliceApplied (.ref sl) (pure (n : Int))) Q E s := by
  obtain ⟨os, hos, hcs, hds⟩ := id hs
  unfold Builtin.Slice.sliceApplied Builtin.Slice.sliceFields
  refine wpAny_bind (wpAny_bind (wpAny_field hos hds (x := vl) rfl (wpAny_bind (wpAny_field hos hds (x := vu) rfl (wpAny_bind (wpAny_field hos hds (x := vs) rfl (wpAny_pure ?_)))))))
  refine wpAny_bind (slicePart_ ps ?_)
  show wpAny _ _ (if ((-1 : Int) == 0) = true then _ else _) _ _ s
  rw [if_neg (by decide)]
  refine wpAny_bind (slicePart_ pl (wpAny_bind (slicePart_ pu (wpAny_bind (wpAny_pure ?_)))))
  show wpAny _ _ (pure ((n : Int) - 1, (-1 : Int), Builtin.Slice.slicePlaces ((n : Int) - 1) (-1) (-1))) _ _ s
  have e : Builtin.Slice.slicePlaces ((n : Int) - 1) (-1) (-1) = n := by
    unfold Builtin.Slice.slicePlaces
    rw [if_neg (by decide)]
    by_cases h0 : n = 0
    · subst h0; decide
    · rw [if_pos (by omega), show (- -1 : Int) = 1 from rfl, Int.ediv_one]
      omega
  rw [e]
  exact wpAny_pure h
theorem pick_rev (xs : Array Value) : ((List.range xs.size).filterMap fun (m : Nat) => xs[((xs.size : Int) - 1 + (m : Int) * -1).toNat]?).toArray = xs.toList.reverse.toArray := by
  congr 1
  have e : (List.range xs.size).filterMap (fun (m : Nat) => xs[((xs.size : Int) - 1 + (m : Int) * -1).toNat]?) = ((List.range xs.size).map fun k => xs.size - 1 - k).filterMap (xs[·]?) := by
    rw [List.filterMap_map]
    have key : ∀ l : List Nat, (∀ m ∈ l, m < xs.size) → l.filterMap (fun (m : Nat) => xs[((xs.size : Int) - 1 + (m : Int) * -1).toNat]?) = l.filterMap ((fun x => xs[x]?) ∘ fun k => xs.size - 1 - k) := by
      intro l
      induction l with
      | nil => intro _; rfl
      | cons m l ih =>
        intro hm
        have h1 : ((xs.size : Int) - 1 + (m : Int) * -1).toNat = xs.size - 1 - m := by
          have := hm m List.mem_cons_self
          omega
        rw [List.filterMap_cons, List.filterMap_cons, ih fun m' h' => hm m' (List.mem_cons_of_mem _ h'), h1]
        rfl
    exact key _ fun m hm => List.mem_range.mp hm
  rw [e, PySem.W.krv_range, List.filterMap_reverse, PySem.W.krv_all]
theorem getItem_tuple_rev {t sl : Addr} {items : Array Value} {vl vu vs : Value} {Q : Value → Shared → Prop} (ht : IsTup s.heap t items) (hs : s.heap.IsSliceOf sl vl vu vs) (pl : IsPart vl none) (pu : IsPart vu none) (ps : IsPart vs (some (-1)))
    (h : Q (.ref s.heap.objs.size) { s with heap := s.heap.push { cls := .type "tuple", data := .seq items.toList.reverse.toArray } })
    (hsz : items.size ≤ sizeLine) : wpAny (model prog w) A (getItem (.ref t) (.ref sl)) Q E s := by
  have htake : sizeOk (.seq items.toList.reverse.toArray) := by
    show items.toList.reverse.toArray.size ≤ sizeLine
    rw [List.size_toArray, List.length_reverse, Array.length_toList]
    exact hsz
  obtain ⟨os, hos, hcs, hds⟩ := id hs
  have hTs : s.TypeIs (.ref sl) "slice" := ⟨os, hos, hcs⟩
  unfold getItem
  try with_reducible refine wpAny_holding ?_
  first | refine wpAny_bind (wpAny_pure ?_) | skip
  refine wpAny_bind (wpAny_sequenceKey ht.typeIs (by decide) ?_)
  refine wpAny_bind (wpAny_callSpecial?_slot (name := Str.ofString "__getitem__") ht.typeIs PyProof.Rows.slot_tuple_getitem
    (wpAny_call_entry PyProof.Rows.slot_tuple_getitem ht.typeIs entry_tuple_getitem ?_ (args_tuple_getitem _ _)))
  show wpAny _ _ (Builtin.Tuple.tupleItemsOf (.ref t) >>= _) _ _ s
  refine wpAny_bind (tupleItemsOf_ ht ?_)
  refine wpAny_bind (wpAny_typeOf hTs ?_)
  rw [if_pos (by decide)]
  refine wpAny_bind (sliceApplied_rev hs pl pu ps ?_)
  show wpAny _ _ (if (((items.size : Int) - 1) == 0 && (-1 : Int) == 1 && items.size == items.size) = true then _ else _) _ _ s
  rw [if_neg (by simp), pick_rev]
  first
    | exact wpAny_bind (m := Builtin.Tuple.tupleExact _) (wpAny_newObj_type (wpAny_pure ⟨_, rfl, wpAny_pure h⟩) htake)
    | exact wpAny_bind (m := Builtin.Tuple.tupleExact _) (wpAny_newObj_type (wpAny_bind (wpAny_pure (wpAny_pure ⟨_, rfl, wpAny_pure h⟩))) htake)
    | exact wpAny_bind (wpAny_bind (m := Builtin.Tuple.tupleExact _) (wpAny_newObj_type (wpAny_pure (wpAny_pure ⟨_, rfl, wpAny_pure h⟩)) htake))
    | exact wpAny_bind (wpAny_bind (m := Builtin.Tuple.tupleExact _) (wpAny_newObj_type (wpAny_pure ⟨_, rfl, wpAny_pure h⟩) htake))
end
end HT
namespace K18
open PySem PySem.Spec PyProof.Rows L2
section
variable {X : Cx}
/-- sorted(xs) of a list or tuple of ints -/
def rSortedQ (K : PySem.W.Frag) : List V → Hp → VK → Prop := fun vs H Q => ∃ (a : Addr) (ns : List Int), vs = [V.ref a] ∧ (SqL K H a (ns.map V.int) ∨ SqT K H a (ns.map V.int)) ∧
  ∀ (ns' : List Int) (p : Addr), ns'.Perm ns → ns'.Pairwise (· ≤ ·) → H p = none → Q (.ref p) (upd H p (.lst (ns'.map V.int)))
theorem cr_sortedQ : CallR X (.builtin "sorted") (rSortedQ X.K) := by
  intro pins s σ H vs us Q I r h
  obtain ⟨a, ns, rfl, hs, q⟩ := h
  rcases hs with hs | hs
  · exact cr_sortedI pins s σ H _ us Q I r ⟨a, ns, rfl, hs, q⟩
  · obtain ⟨its, rv, hl, hz⟩ := I.tuple hs
    rw [Vals.ref1 r]
    have hi := rv.ints
    refine SrtO.sorted_ordT SrtO.swo_int (show s.heap.IsTuple a its.toArray from hl) (by rw [← rv.length]; exact hz) (fun h2 h₁ a' _ _ => SrtO.ints_sortable hi h2) fun out h1 h2 => ?_
    obtain ⟨k1, k2, k3⟩ := SrtO.ints_out hi h1 h2
    obtain ⟨ep, he'⟩ := PyProof.Rows.sortedAll_at s.heap its out.toArray
    have hlen : ((out.map SrtO.iv).map V.int).length ≤ sizeLine := by
      rw [List.length_map, k2.length_eq]
      rw [List.length_map] at hz
      exact hz
    exact ⟨.ref _, upd H (s.heap.objs.size + 1) (.lst ((out.map SrtO.iv).map V.int)), I.laid (t' := s.toks) (fun _ _ => PyProof.Rows.sortedAll_old) (Nat.le_succ _) ⟨hlen, out, ep, vals_of_ints k1, he'⟩, rfl, q _ _ k2 k3 (I.hok.fresh (Nat.le_succ _))⟩
/-- t[::-1] of a tuple -/
def tRevT (K : PySem.W.Frag) (te : TE) : TE := fun σ H Q => te σ H fun x H1 => ∃ a xs, x = .ref a ∧ SqT K H1 a xs ∧ ∀ p, H1 p = none → Q (.ref p) (upd H1 p (.tup xs.reverse))
theorem pe_revT {e : Expr} {te : TE} {k : Nat} {p1 p2 p3 pos : Pos} (he : PE X e te) : PE X (.Subscript e (.Slice none none (some (.UnaryOp .USub (.Constant (.int 1) k p1) p2)) p3) pos) (tRevT X.K te) := by
  refine ⟨fun pins s σ H Q I h => ?_⟩
  refine Subscript_ (thn (he.run pins s σ H _ I h) fun v s1 ⟨x, H1, I1, r1, q1⟩ => ?_)
  obtain ⟨a, xs, ex, hx, q⟩ := q1
  subst ex
  cases r1
  have hst : PO X (some (.UnaryOp .USub (.Constant (.int 1) k p1) p2)) (tPart (tUn (rU fun i => .int (-i)) (tC (.int 1)))) := po_some (pe_un un_neg pe_int)
  refine wpAny_Slice (thn (po_none.run pins s1 σ H1 (fun o H2 => o = none ∧ H2 = H1) I1 ⟨rfl, rfl⟩) fun vl s2 ⟨l, H2, I2, pl, el, e2⟩ => ?_)
  subst el e2
  refine thn (po_none.run pins s2 σ H2 (fun o H3 => o = none ∧ H3 = H2) I2 ⟨rfl, rfl⟩) fun vu s3 ⟨u, H3, I3, pu, eu, e3⟩ => ?_
  subst eu e3
  refine thn (hst.run pins s3 σ H3 (fun o H4 => o = some (-1) ∧ H4 = H3) I3 ⟨1, rfl, -1, rfl, rfl, rfl⟩) fun vs s4 ⟨o, H4, I4, ps, eo, e4⟩ => ?_
  subst eo e4
  have I5 : Inv X pins σ H4 { s4 with heap := s4.heap.push { cls := .type "slice", data := .fields #[vl, vu, vs] } } := I4.kept (t' := s4.toks) fun b ob q => Heap.get?_push_of_some _ q
  obtain ⟨its, r, ht, hz⟩ := I5.tuple hx
  have hlen := r.length
  show wpAny (model X.prog X.w) X.A (subscriptTail e (.Slice none none (some (.UnaryOp .USub (.Constant (.int 1) k p1) p2)) p3) (.ref a) (.ref s4.heap.objs.size)) (EP X pins σ Q) X.xe { s4 with heap := s4.heap.push { cls := .type "slice", data := .fields #[vl, vu, vs] } }
  refine tail_any (ops := [.ref a, .ref s4.heap.objs.size]) ht.typeIs (PyProof.Rows.slot_tuple_getitem.lookup) ?_ (by with_unfolding_all rfl)
  refine HT.getItem_tuple_rev ht (Heap.IsSliceOf.new _ vl vu vs) pl pu ps ?_ (by rw [List.size_toArray]; omega)
  refine ⟨.ref _, _, I5.laid (t' := s4.toks) (o := .tup xs.reverse) (fun b ob q => Heap.get?_push_of_some _ q) (Nat.le_refl _) ?_, rfl, q _ (I5.hok.fresh (Nat.le_refl _))⟩
  exact ⟨by rw [List.length_reverse]; exact hz, _, r.reverse, IsTup.new _ _⟩
/-- x in t, of data of any depth -/
def rInDT (K : PySem.W.Frag) : R2 := fun x y H Q => ∃ d ds, Dp K H x d ∧ Dp K H y (.tuple ds) ∧ SeqAt.shaped d = true ∧ SeqAt.shaped (.tuple ds) = true ∧ Q (.bl (ds.any fun z => PyData.eqv z d)) H
theorem op_inDT (hu : X.A.units + 65 < cLine) : OpR X (compareOp .In) (rInDT X.K) := by
  intro pins s σ H x y v u Q I rx ry h
  obtain ⟨d, ds, hd, he, sd, se, q⟩ := h
  obtain ⟨as, r1⟩ := Dp.reads I d x v hd rx
  obtain ⟨bs, r2⟩ := Dp.reads I (.tuple ds) y u he ry
  exact SeqAt.in_tuple_reads r2 r1 (SeqAt.canLay_of_shaped se) (SeqAt.canLay_of_shaped sd) (room_in_shaped sd hu) ⟨.bl _, H, I, rfl, q⟩
/-- cls(..), cls a local name -/
def tMakeL (i : Nat) (C : Addr) (sp : Sp) (t : TA) : TE := fun σ H Q => σ[i]? = some (some (.ref C)) ∧ tMake C sp [] C8.E0 t σ H Q
theorem pe_mkL {k j i : Nat} {C : Addr} {sp : Sp} {x y : Str} {p pos : Pos} {e : Expr} {es : List Expr} {t : TA} (c : C8.Mak X.prog X.w X.K X.mg X.base k y C sp []) (hr : Room j X.A) (hk : k + 1 ≤ j) (hN : X.N[i]? = some x) (hv : Vis X.env.scope x) (ha : PA X (e :: es) t)
    (hdb : (x == ("__debug__" : Str)) = false := by decide) (hcd : (x == ("__classdict__" : Str)) = false := by decide)
    (he : starEach (e :: es) X.env = (false, eval e X.env) :: starEach es X.env := by rfl) (hpl : (backTo pos (starEach es X.env)).any (·.1) = false := by rfl) : PE X (.Call (.Name x p) (e :: es) [] pos) (tMakeL i C sp t) := by
  refine ⟨fun pins s σ H Q I h => ?_⟩
  obtain ⟨hs, ht⟩ := h
  obtain ⟨f, fd, ps, ds, M, F, hm, b, d⟩ := c.ex
  refine wpAny_Call_Name_kw (thn ((pe_var (pos := p) hN hv hdb hcd).run pins s σ H (fun v H1 => v = .ref C ∧ H1 = H) I ⟨.ref C, hs, rfl, rfl⟩) fun u s1 ⟨v, H1, I1, r1, q1⟩ => ?_)
  obtain ⟨rfl, rfl⟩ := q1
  cases r1
  refine PySem.W.callWith_K (h₀ := X.base) I.ok.mod.kin M.kp (thn (ha.run pos pins s1 σ _ _ I1 ht) fun us s2 ⟨vs, H2, I2, r, q⟩ => ⟨I2.kIn, ?_⟩) he hpl
  exact run_make M F (hr.mono hk) b d C8.pass0 I2 r q
end
end K18
end
section
set_option Elab.async false
set_option linter.all false
set_option maxRecDepth 100000
set_option maxHeartbeats 4000000
namespace K18
open PySem PySem.Spec PyProof.Rows L2
section
variable {P : Program} {w : World} {K : PySem.W.Frag} {mg : Str → Option Value} {base : Heap}
/-! ### is_whole -/
def spWhole (K : PySem.W.Frag) : Sp := fun vs H Q _ => ∃ x, vs = [x] ∧ ((∃ i, x = .int i ∧ Q (.bl true) H) ∨ (∃ b, x = .bl b ∧ Q (.bl false) H) ∨ (∃ xs, TupV K H x xs ∧ Q (.bl false) H))
theorem sc_whole : FnScope ["number"] ["number"] (C8.fnScope (top 10)) := C8.fnScope_by (by decide +kernel)
theorem cal_whole (B : Bt mg) (D : DD K mg "is_whole" 10) : C8.Cal P w K mg base 1 "is_whole" (spWhole K) [] := by
  refine cal_mk D sc_whole (fun _ _ _ _ _ _ us hl => match us, hl with | [_], _ => rfl) (fun vs H Q E h => ?_) (fun f cdv A outer s H vs Q E hr h => ?_)
  · obtain ⟨x, rfl, _⟩ := h; rfl
  · obtain ⟨x, rfl, h⟩ := h
    refine ⟨_, pss_one (ps_ret (pe_and (pe_callB call_isi (by rfl) B.isinstance PyProof.Rows.boot_isinstance (pa_cons (pv 0) (pa_cons (pe_bltn (v := .ty "int") (by rfl) B.int PyProof.Rows.boot_int rfl) pa_nil)))
      (pe_one (pe_not (pe_callB call_isi (by rfl) B.isinstance PyProof.Rows.boot_isinstance (pa_cons (pv 0) (pa_cons (pe_bltn (v := .ty "bool") (by rfl) B.bool PyProof.Rows.boot_bool rfl) pa_nil))))))), ?_⟩
    rcases h with ⟨i, rfl, h⟩ | ⟨b, rfl, h⟩ | ⟨xs, ⟨a, rfl, hS⟩, h⟩
    · refine ⟨_, rfl, _, _, .type "int", .type "int", true, rfl, .ty _, .base (.int _), kit_ty (by decide +kernel), true, rfl, ?_⟩
      refine iteT ?_
      exact ⟨_, rfl, _, _, .type "int", .type "bool", false, rfl, .ty _, .base (.int _), kit_ty (by decide +kernel), false, rfl, h⟩
    · refine ⟨_, rfl, _, _, .type "bool", .type "int", true, rfl, .ty _, .base (.bl _), kit_ty (by decide +kernel), true, rfl, ?_⟩
      refine iteT ?_
      exact ⟨_, rfl, _, _, .type "bool", .type "bool", true, rfl, .ty _, .base (.bl _), kit_ty (by decide +kernel), true, rfl, h⟩
    · refine ⟨_, rfl, _, _, .type "tuple", .type "int", false, rfl, .ty _, ty_tup hS, kit_ty (by decide +kernel), false, rfl, ?_⟩
      exact iteF h
/-! ### lowest -/
def spLowest (K : PySem.W.Frag) : Sp := fun vs H Q _ => ∃ n d : Int, vs = [.int n, .int d] ∧ 0 < d ∧ d.natAbs < 2 ^ big ∧ ∀ v H', Ex H H' → Frac K H' v (Mth.fr n d) → Q v H'
theorem sc_lowest : FnScope ["top", "bottom", "one", "other"] ["top", "bottom"] (C8.fnScope (top 11)) := C8.fnScope_by (by decide +kernel)
theorem abs_cast (n : Int) : (if n < 0 then -n else n) = ((n.natAbs : Nat) : Int) := by split <;> omega
theorem cal_lowest (B : Bt mg) (D : DD K mg "lowest" 11) : C8.Cal P w K mg base 1 "lowest" (spLowest K) [] := by
  refine cal_mk D sc_lowest (fun _ _ _ _ _ _ us hl => match us, hl with | [_, _], _ => rfl) (fun vs H Q E h => ?_) (fun f cdv A outer s H vs Q E hr h => ?_)
  · obtain ⟨n, d, rfl, _⟩ := h; rfl
  · obtain ⟨n, d, rfl, hd, hb, k⟩ := h
    have nd := sc_lowest.nd
    refine ⟨_, (pss_cons (ps_par (i := 2) (j := 3) (by rfl) nd rfl rfl (by decide) rfl rfl (pa_cons (pe_callB call_abs (by rfl) B.abs boot_abs (pa_cons (pv 0) pa_nil)) (pa_cons (pe_callB call_abs (by rfl) B.abs boot_abs (pa_cons (pv 1) pa_nil)) pa_nil)) (by rfl))
    (pss_cons (ps_while PassesOwn.never (pt_truth (pv 3) (by intro _; rfl)) (pss_one (ps_par (i := 2) (j := 3) (by rfl) nd rfl rfl (by decide) rfl rfl (pa_cons (pv 3) (pa_cons (pe_op op_mod (pv 2) (pv 3)) pa_nil)) (by rfl))))
    (pss_cons (ps_if (pt_cmpR op_lt (pv 1) pe_int (nomark _)) (pss_one (pset 2 nd (pe_un un_neg (pv 2)))) pss_nil)
    (pss_one (ps_ret (pe_tup (pa_cons (pe_op op_fdivW (pv 0) (pv 2)) (pa_cons (pe_op op_fdivW (pv 1) (pv 2)) pa_nil)))))))), ?_⟩
    refine ⟨_, rfl, _, rfl, _, rfl, _, rfl, _, _, rfl, ?_⟩
    rw [abs_cast, abs_cast]
    refine ⟨fun m σ H' => H' = H ∧ ∃ a b : Nat, m = b ∧ Nat.gcd a b = Nat.gcd n.natAbs d.natAbs ∧ σ = [some (.int n), some (.int d), some (.int a), some (.int b)], ⟨_, rfl, _, _, rfl, rfl, rfl⟩, ?_⟩
    rintro m σ H' ⟨rfl, a, b, rfl, hg, rfl⟩
    refine ⟨_, rfl, _, rfl, ?_⟩
    by_cases e : m = 0
    · subst e
      rw [Nat.gcd_zero_right] at hg
      have hgp := Mth.gcd_pos (n := n) (d := d) (by omega)
      refine iteF ⟨_, rfl, _, _, rfl, rfl, _, rfl, ?_⟩
      have : decide (d < 0) = false := decide_eq_false (by omega)
      rw [this]
      have ha : a ≤ d.natAbs := by rw [hg]; exact Nat.gcd_le_right _ (by omega)
      have hdv : CDivW n (a : Int) := wide_div (b := big) (by omega) (Nat.lt_of_le_of_lt (by omega) hb) (by decide) (by decide)
      refine iteF ⟨_, rfl, _, rfl, _, _, rfl, rfl, hdv, _, rfl, _, rfl, _, _, rfl, rfl, ⟨hdv.1, hdv.2⟩, (by show 2 ≤ sizeLine; decide), fun p hp => ?_⟩
      refine k _ _ (Evl.Ex.new hp) ?_
      have e1 := Mth.fr_num (n := n) hd
      have e2 := Mth.fr_den (n := n) hd
      rw [← hg] at e1 e2
      show TupV K _ _ _
      rw [e1, e2]
      exact TupV.new
    · have hm : ((m : Int) != 0) = true := bne_iff_ne.mpr (by omega)
      rw [hm]
      refine iteT ⟨fun σ' H2 => H2 = H' ∧ σ' = [some (.int n), some (.int d), some (.int m), some (.int ((a % m : Nat) : Int))], ?_, ?_⟩
      · rintro σ' H2 ⟨rfl, rfl⟩
        exact ⟨a % m, Nat.mod_lt _ (by omega), rfl, m, a % m, rfl, (Mth.gcd_step a m).trans hg, rfl⟩
      · refine ⟨_, rfl, _, rfl, _, rfl, _, _, rfl, rfl, (by show (0 : Int) < m; omega), _, _, rfl, rfl, ?_⟩
        rw [← Mth.emod_nat]; rfl
/-! ### frac_or_none, frac_named -/
def spFrn (K : PySem.W.Frag) : Sp := fun vs H Q _ => ∃ x r, vs = [x] ∧ Num K H x r ∧ ∀ v H', Ex H H' → Frac K H' v r → Q v H'
theorem sc_frn : FnScope ["number", "top", "bottom"] ["number"] (C8.fnScope (top 12)) := C8.fnScope_by (by decide +kernel)
theorem cal_frn (B : Bt mg) (D : DD K mg "frac_or_none" 12) (c_is_whole : C8.Cal P w K mg base 1 "is_whole" (spWhole K) []) (c_lowest : C8.Cal P w K mg base 1 "lowest" (spLowest K) []) : C8.Cal P w K mg base 2 "frac_or_none" (spFrn K) [] := by
  refine cal_mk D sc_frn (fun _ _ _ _ _ _ us hl => match us, hl with | [_], _ => rfl) (fun vs H Q E h => ?_) (fun f cdv A outer s H vs Q E hr h => ?_)
  · obtain ⟨x, r, rfl, _⟩ := h; rfl
  · obtain ⟨x, r, rfl, hx, k⟩ := h
    have nd := sc_frn.nd
    refine ⟨_, (pss_cons (ps_if (pt_val (C8.pe_c c_is_whole hr (by decide) (by rfl) (pa_cons (pv 0) pa_nil))) (pss_one (ps_ret (pe_tup (pa_cons (pv 0) (pa_cons pe_int pa_nil))))) pss_nil)
    (pss_cons (ps_if (PW.pt (pw_and (pt_val (pe_callB call_isiT (by rfl) B.isinstance PyProof.Rows.boot_isinstance (pa_cons (pv 0) (pa_cons (pe_tup (pa_cons (pe_bltn (v := .ty "list") (by rfl) B.list PyProof.Rows.boot_list rfl) (pa_cons (pe_bltn (v := .ty "tuple") (by rfl) B.tuple PyProof.Rows.boot_tuple rfl) pa_nil))) pa_nil)))) (pw_and1 (pt_cmpR op_eq (pe_callB call_len_seq (by rfl) B.len PySem.boot_len (pa_cons (pv 0) pa_nil)) pe_int (nomark _))))) (pss_cons (ps_asg (pv 0) (pg_tup rfl (pgs_cons (pgn 1 nd) (pgs_cons (pgn 2 nd) pgs_nil))))
      (pss_one (ps_if (PW.pt (pw_and (pt_val (C8.pe_c c_is_whole hr (by decide) (by rfl) (pa_cons (pv 1) pa_nil))) (pw_and (pt_val (C8.pe_c c_is_whole hr (by decide) (by rfl) (pa_cons (pv 2) pa_nil))) (pw_and1 (pt_cmpR op_ge (pv 2) pe_int (nomark _)))))) (pss_one (ps_ret (C8.pe_c c_lowest hr (by decide) (by rfl) (pa_cons (pv 1) (pa_cons (pv 2) pa_nil))))) pss_nil))) pss_nil)
    (pss_one (ps_ret pe_non)))), ?_⟩
    rcases hx with ⟨i, rfl, rfl⟩ | ⟨n, d, hS, hd, hb, rfl⟩
    · refine ⟨_, rfl, _, rfl, .inl ⟨i, rfl, true, rfl, iteT ⟨_, rfl, (by show 2 ≤ sizeLine; decide), fun p hp => k _ _ (Evl.Ex.new hp) ?_⟩⟩⟩
      show TupV K _ _ _
      rw [Rat.num_intCast, Rat.den_intCast]
      exact TupV.new
    · refine ⟨_, rfl, _, rfl, .inr (.inr ⟨_, hS, false, rfl, iteF ?_⟩)⟩
      obtain ⟨a, rfl, hS⟩ := hS
      refine ⟨_, rfl, (by show 2 ≤ sizeLine; decide), fun p hp => ?_⟩
      have e1 := Evl.Ex.new (o := .tup [.ty "list", .ty "tuple"]) hp
      have hS1 := Evl.ex_t e1 hS
      refine ⟨_, p, _, .type "tuple", [.type "list", .type "tuple"], true, rfl, upd_same, cls_lt, ty_tup hS1, kit_lt_t, true, rfl, ?_⟩
      refine iteT ⟨_, rfl, a, _, rfl, .inr hS1, rfl, true, rfl, iteT ?_⟩
      refine ⟨_, rfl, a, _, rfl, hS1, rfl, _, _, rfl, _, _, rfl, rfl, ?_⟩
      refine ⟨_, rfl, _, rfl, .inl ⟨n, rfl, true, rfl, iteT ⟨_, rfl, _, rfl, .inl ⟨d, rfl, true, rfl, iteT ⟨_, rfl, _, _, rfl, rfl, _, rfl, ?_⟩⟩⟩⟩⟩
      have : decide (1 ≤ d) = true := decide_eq_true (by omega)
      rw [this]
      refine iteT ⟨_, rfl, _, rfl, n, d, rfl, hd, hb, fun v H' e hv => k v H' (e1.trans e) hv⟩
def spFnm (K : PySem.W.Frag) : Sp := fun vs H Q _ => ∃ x nm r, vs = [x, nm] ∧ Num K H x r ∧ ∀ v H', Ex H H' → Frac K H' v r → Q v H'
theorem sc_fnm : FnScope ["number", "name", "told"] ["number", "name"] (C8.fnScope (top 13)) := C8.fnScope_by (by decide +kernel)
theorem cal_fnm (D : DD K mg "frac_named" 13) (c_frac_or_none : C8.Cal P w K mg base 2 "frac_or_none" (spFrn K) []) : C8.Cal P w K mg base 3 "frac_named" (spFnm K) [] := by
  refine cal_mk D sc_fnm (fun _ _ _ _ _ _ us hl => match us, hl with | [_, _], _ => rfl) (fun vs H Q E h => ?_) (fun f cdv A outer s H vs Q E hr h => ?_)
  · obtain ⟨x, nm, r, rfl, _⟩ := h; rfl
  · obtain ⟨x, nm, r, rfl, hx, k⟩ := h
    have nd := sc_fnm.nd
    refine ⟨_, (pss_cons (pset 2 nd (C8.pe_c c_frac_or_none hr (by decide) (by rfl) (pa_cons (pv 0) pa_nil)))
    (pss_cons (ps_if (pt_cmpR op_isN (pv 2) pe_non (nomark _)) (pss_one ps_never) pss_nil)
    (pss_one (ps_ret (pv 2))))), ?_⟩
    refine ⟨_, rfl, x, r, rfl, hx, fun v H' e hv => ?_⟩
    obtain ⟨p, rfl, hS⟩ := id hv
    exact ⟨_, rfl, rfl, false, rfl, iteF ⟨_, rfl, k _ _ e hv⟩⟩
/-! ### plus, minus, times -/
def spBin (f : Rat → Rat → Rat) (K : PySem.W.Frag) : Sp := fun vs H Q _ => ∃ x y r s a b, vs = [x, y] ∧ Frac K H x r ∧ Frac K H y s ∧ Mth.Sz a r ∧ Mth.Sz b s ∧ 0 < a ∧ 0 < b ∧ a + b ≤ big ∧ ∀ v H', Ex H H' → Frac K H' v (f r s) → Q v H'
theorem sc_plus : FnScope ["one", "other", "top", "bottom", "more", "under"] ["one", "other"] (C8.fnScope (top 14)) := C8.fnScope_by (by decide +kernel)
theorem wmul {i j : Int} {a b : Nat} (ha : i.natAbs < 2 ^ a) (hb : j.natAbs < 2 ^ b) (h0 : 0 < a) (h1 : 0 < b) (h : a + b ≤ big) : CMulW i j := wide_mul ha hb h0 h1 (Nat.le_trans h (by decide))
theorem cal_plus (D : DD K mg "plus" 14) (c_frac_named : C8.Cal P w K mg base 3 "frac_named" (spFnm K) []) (c_lowest : C8.Cal P w K mg base 1 "lowest" (spLowest K) []) : C8.Cal P w K mg base 4 "plus" (spBin (· + ·) K) [] := by
  refine cal_mk D sc_plus (fun _ _ _ _ _ _ us hl => match us, hl with | [_, _], _ => rfl) (fun vs H Q E h => ?_) (fun f cdv A outer s H vs Q E hr h => ?_)
  · obtain ⟨x, y, r, s, a, b, rfl, _⟩ := h; rfl
  · obtain ⟨x, y, r, s, a, b, rfl, hx, hy, zx, zy, ha, hb, hab, k⟩ := h
    have nd := sc_plus.nd
    refine ⟨_, (pss_cons (ps_asg (C8.pe_c c_frac_named hr (by decide) (by rfl) (pa_cons (pv 0) (pa_cons pe_str pa_nil))) (pg_tup rfl (pgs_cons (pgn 2 nd) (pgs_cons (pgn 3 nd) pgs_nil))))
    (pss_cons (ps_asg (C8.pe_c c_frac_named hr (by decide) (by rfl) (pa_cons (pv 1) (pa_cons pe_str pa_nil))) (pg_tup rfl (pgs_cons (pgn 4 nd) (pgs_cons (pgn 5 nd) pgs_nil))))
    (pss_one (ps_ret (C8.pe_c c_lowest hr (by decide) (by rfl) (pa_cons (pe_op op_add (pe_op op_mulW (pv 2) (pv 5)) (pe_op op_mulW (pv 4) (pv 3))) (pa_cons (pe_op op_mulW (pv 3) (pv 5)) pa_nil))))))), ?_⟩
    refine ⟨_, rfl, _, _, r, rfl, hx.num zx (by omega), fun v1 H1 e1 h1 => ?_⟩
    obtain ⟨p1, rfl, t1⟩ := h1
    refine ⟨p1, _, rfl, t1, rfl, _, _, rfl, _, _, rfl, rfl, ?_⟩
    refine ⟨_, rfl, _, _, s, rfl, (hy.ex e1).num zy (by omega), fun v2 H2 e2 h2 => ?_⟩
    obtain ⟨p2, rfl, t2⟩ := h2
    refine ⟨p2, _, rfl, t2, rfl, _, _, rfl, _, _, rfl, rfl, ?_⟩
    have e12 := e1.trans e2
    refine ⟨_, rfl, _, rfl, _, _, rfl, rfl, wmul zx.1 zy.den ha hb hab, _, rfl, _, rfl, _, _, rfl, rfl, wmul zy.1 zx.den hb ha (by omega), _, _, rfl, rfl, _, rfl, _, rfl, _, _, rfl, rfl, wmul zx.den zy.den ha hb hab, ?_⟩
    refine ⟨_, _, rfl, Int.mul_pos (Mth.den_pos r) (Mth.den_pos s), Mth.lt_mono (Mth.mul_lt zx.den zy.den) hab, fun v H' e hv => k v H' (e12.trans e) ?_⟩
    rw [Mth.fr_add] at hv
    exact hv
end
end K18
end
section
set_option Elab.async false
set_option linter.all false
set_option maxRecDepth 100000
set_option maxHeartbeats 4000000
namespace K18
open PySem PySem.Spec PyProof.Rows L2
/-! ### rows of things, each known -/
/-- the i-th of vs is told by P i -/
def At (P : Nat → V → Hp → Prop) (vs : List V) (H : Hp) : Prop := ∀ i v, vs[i]? = some v → P i v H
def Mono (P : Nat → V → Hp → Prop) : Prop := ∀ i v H H', P i v H → Ex H H' → P i v H'
theorem At.ex {P : Nat → V → Hp → Prop} (m : Mono P) {vs : List V} {H H' : Hp} (h : At P vs H) (e : Ex H H') : At P vs H' := fun i v q => m i v _ _ (h i v q) e
theorem At.nil {P : Nat → V → Hp → Prop} {H : Hp} : At P [] H := fun i v q => by simp at q
theorem At.snoc {P : Nat → V → Hp → Prop} {vs : List V} {v : V} {H : Hp} (h : At P vs H) (hv : P vs.length v H) : At P (vs ++ [v]) H := fun i x q => by
  by_cases hi : i < vs.length
  · rw [List.getElem?_append_left hi] at q
    exact h i x q
  · have e : i = vs.length := by
      have := (List.getElem?_eq_some_iff.mp q).1
      simp at this
      omega
    subst e
    rw [List.getElem?_append_right (Nat.le_refl _)] at q
    simp at q
    subst q
    exact hv
theorem At.cons {P : Nat → V → Hp → Prop} {vs : List V} {v : V} {H : Hp} (hv : P 0 v H) (h : At (fun i => P (i + 1)) vs H) : At P (v :: vs) H := fun i x q => by
  cases i with
  | zero => simp at q; subst q; exact hv
  | succ i => simp at q; exact h i x q
theorem At.get {P : Nat → V → Hp → Prop} {vs : List V} {H : Hp} (h : At P vs H) {i : Nat} (hi : i < vs.length) : ∃ v, vs[i]? = some v ∧ P i v H := ⟨vs[i], by simp [hi], h i _ (by simp [hi])⟩
theorem At.imp {P P' : Nat → V → Hp → Prop} {vs : List V} {H : Hp} (h : At P vs H) (k : ∀ i v, i < vs.length → P i v H → P' i v H) : At P' vs H := fun i v q => k i v (List.getElem?_eq_some_iff.mp q).1 (h i v q)
/-- ints -/
def nV (l : List Nat) : List V := l.map fun i : Nat => V.int i
theorem nV_get {l : List Nat} {i : Nat} {v : V} (h : (nV l)[i]? = some v) : ∃ j, l[i]? = some j ∧ v = .int (j : Nat) := by
  unfold nV at h
  rw [List.getElem?_map] at h
  cases e : l[i]? with
  | none => rw [e] at h; cases h
  | some j => rw [e] at h; exact ⟨j, rfl, (Option.some.inj h).symm⟩
theorem map_get {α : Type} {f : α → V} {l : List α} {i : Nat} {v : V} (h : (l.map f)[i]? = some v) : ∃ j, l[i]? = some j ∧ v = f j := by
  rw [List.getElem?_map] at h
  cases e : l[i]? with
  | none => rw [e] at h; cases h
  | some j => rw [e] at h; exact ⟨j, rfl, (Option.some.inj h).symm⟩
theorem nV_len {l : List Nat} : (nV l).length = l.length := by simp [nV]
/-- told values are these -/
theorem at_eq {f : Nat → V} {vs : List V} {H : Hp} {n : Nat} (h : At (fun i v _ => v = f i) vs H) (hl : vs.length = n) : vs = (List.range n).map f := by
  apply List.ext_getElem?
  intro i
  by_cases hi : i < vs.length
  · rw [List.getElem?_map, List.getElem?_range (by omega)]
    have := h i vs[i] (by simp [hi])
    rw [List.getElem?_eq_getElem hi, this]
    rfl
  · rw [List.getElem?_eq_none (by omega), List.getElem?_eq_none (by simp; omega)]
theorem lst_ty {K : PySem.W.Frag} {H : Hp} {p : Addr} {ys : List V} (h : H p = some (.lst ys)) : tyV K "list" (.ref p) H := .inl ⟨rfl, ys, SqL.of h⟩
/-! ### walks -/
section
variable {K : PySem.W.Frag} {a : Addr} {xs : List V}
theorem walk_enumT : Walk (Iet K a) xs.length (fun H => SqT K H a xs) (YPair (fun i => some (.int (i : Nat))) (fun i => xs[i]?)) := by
  refine ⟨fun i _ hi q => ⟨xs, xs[i], q, by simp [hi]⟩, fun _ q => ⟨xs, q, rfl⟩, fun i H v H' _ q y => ?_⟩
  obtain ⟨T, x, h1, h2, h3, h4⟩ := y
  exact ⟨T, .int (i : Nat), x, h1, h2, h3, rfl, h4 xs q⟩
end
section
variable {J : It} {n : Nat} {G : Hp → Prop} {Y : Nat → Hp → V → Hp → Prop}
/-- told things stay told when the list at D is written -/
def MonoD (D : Addr) (P : Nat → V → Hp → Prop) : Prop := ∀ i v H H' ys, H D = some (.lst ys) → (∀ b o, b ≠ D → H b = some o → H' b = some o) → P i v H → P i v H'
theorem lcF (w : Walk J n G Y) (hGm : ∀ H H', G H → Ex H H' → G H') (hn : n < sizeLine) {D : Addr} {P : Nat → V → Hp → Prop} (hP : Mono P) (hPD : MonoD D P) (sel : Nat → Bool) {g : TG} {tt : TT} {te : TE} {vs : List Nat} {σ : L2.St} {H1 : Hp} {Qd : Hp → Prop} (hD : H1 D = none) (hG1 : G H1)
    (hs : ∀ (i : Nat) (x : V) (H H' : Hp) (Kt : V → Hp → Prop) (Kf : Hp → Prop), i < n → Ex H1 H → G H → Y i H x H' → (∃ ys, H D = some (.lst ys)) → (sel i = true → ∀ y H4, Ex H H4 → P i y H4 → Kt y H4) → (sel i = false → ∀ H4, Ex H H4 → Kf H4) →
      g x (wipe σ vs) H' fun σ2 H2 => wipe σ2 vs = wipe σ vs ∧ tt σ2 H2 fun b H3 => if b = true then te σ2 H3 Kt else Kf H3)
    (hd : ∀ H ys, Ex H1 H → H D = some (.lst ys) → ys.length = ((List.range n).filter sel).length → At (fun j v H => ∃ i, ((List.range n).filter sel)[j]? = some i ∧ P i v H) ys H → Qd H) :
    ∃ W : Nat → Nat → Hp → Prop, (∃ m, W 0 m (upd H1 D (.lst []))) ∧ ∀ i m H, W i m H →
      (J.stop i H ∧ Qd H) ∨ (J.go i H ∧ ∃ Nx : Hp → Prop, (∀ H', Nx H' → ∃ m', m' < m ∧ W (i + 1) m' H') ∧ ∀ x H', J.yld i H x H' → g x (wipe σ vs) H' fun σ2 H2 => wipe σ2 vs = wipe σ vs ∧ tt σ2 H2 fun b H3 =>
        if b = true then te σ2 H3 fun y H4 => ∃ acc, H4 D = some (.lst acc) ∧ acc.length < sizeLine ∧ Nx (upd H4 D (.lst (acc ++ [y]))) else Nx H3) := by
  let F : Nat → List Nat := fun i => (List.range i).filter sel
  have hF1 : ∀ i, sel i = true → F (i + 1) = F i ++ [i] := fun i h => by
    show (List.range (i + 1)).filter sel = _
    rw [List.range_succ, List.filter_append, List.filter_cons_of_pos h]; rfl
  have hF0 : ∀ i, sel i = false → F (i + 1) = F i := fun i h => by
    show (List.range (i + 1)).filter sel = _
    rw [List.range_succ, List.filter_append, List.filter_cons_of_neg (by rw [h]; exact Bool.false_ne_true)]; simp [F]
  have hFl : ∀ i, (F i).length ≤ i := fun i => by
    have := List.length_filter_le sel (List.range i)
    simpa using this
  refine lc_it w (Pv := fun i H => ∃ ys, Ex H1 H ∧ H D = some (.lst ys) ∧ ys.length = (F i).length ∧ At (fun j v H => ∃ i', (F i)[j]? = some i' ∧ P i' v H) ys H) ⟨[], Evl.Ex.new hD, upd_same, rfl, At.nil⟩ (fun i H hi h => ?_) (fun i x H H' hi h y => ?_) (fun H h => ?_)
  · obtain ⟨ys, h1, _⟩ := h
    exact hGm _ _ hG1 h1
  · obtain ⟨ys, h1, h2, h3, h4⟩ := h
    refine hs i x H H' _ _ hi h1 (hGm _ _ hG1 h1) y ⟨ys, h2⟩ (fun hsel y4 H4 e4 p4 => ?_) (fun hsel H4 e4 => ?_)
    · have hD4 := e4 _ _ h2
      have hl := hFl i
      refine ⟨ys, hD4, by omega, ys ++ [y4], (h1.trans e4).mut hD, upd_same, ?_, ?_⟩
      · rw [hF1 i hsel, List.length_append, List.length_append, h3]; rfl
      · rw [hF1 i hsel]
        have up : ∀ b o, b ≠ D → H4 b = some o → (upd H4 D (.lst (ys ++ [y4]))) b = some o := fun b o hb q => by rw [upd_ne hb]; exact q
        refine At.snoc (fun j v q => ?_) ⟨i, by rw [h3, List.getElem?_append_right (Nat.le_refl _)]; simp, hPD _ _ _ _ ys hD4 up p4⟩
        obtain ⟨i', e', p'⟩ := h4 j v q
        refine ⟨i', ?_, hPD _ _ _ _ ys hD4 up (hP _ _ _ _ p' e4)⟩
        rw [List.getElem?_append_left (List.getElem?_eq_some_iff.mp e').1]
        exact e'
    · refine ⟨ys, h1.trans e4, e4 _ _ h2, by rw [hF0 i hsel]; exact h3, ?_⟩
      rw [hF0 i hsel]
      intro j v q
      obtain ⟨i', e', p'⟩ := h4 j v q
      exact ⟨i', e', hP _ _ _ _ p' e4⟩
  · obtain ⟨ys, h1, h2, h3, h4⟩ := h
    exact hd _ ys h1 h2 h3 h4
/-- .. that keeps all -/
theorem lcA (w : Walk J n G Y) (hGm : ∀ H H', G H → Ex H H' → G H') (hn : n < sizeLine) {D : Addr} {P : Nat → V → Hp → Prop} (hP : Mono P) (hPD : MonoD D P) {g : TG} {te : TE} {vs : List Nat} {σ : L2.St} {H1 : Hp} {Qd : Hp → Prop} (hD : H1 D = none) (hG1 : G H1)
    (hs : ∀ (i : Nat) (x : V) (H H' : Hp) (Kt : V → Hp → Prop), i < n → Ex H1 H → G H → Y i H x H' → (∃ ys, H D = some (.lst ys)) → (∀ y H4, Ex H H4 → P i y H4 → Kt y H4) →
      g x (wipe σ vs) H' fun σ2 H2 => wipe σ2 vs = wipe σ vs ∧ te σ2 H2 Kt)
    (hd : ∀ H ys, Ex H1 H → H D = some (.lst ys) → ys.length = n → At P ys H → Qd H) :
    ∃ W : Nat → Nat → Hp → Prop, (∃ m, W 0 m (upd H1 D (.lst []))) ∧ ∀ i m H, W i m H →
      (J.stop i H ∧ Qd H) ∨ (J.go i H ∧ ∃ Nx : Hp → Prop, (∀ H', Nx H' → ∃ m', m' < m ∧ W (i + 1) m' H') ∧ ∀ x H', J.yld i H x H' → g x (wipe σ vs) H' fun σ2 H2 => wipe σ2 vs = wipe σ vs ∧ tYes σ2 H2 fun b H3 =>
        if b = true then te σ2 H3 fun y H4 => ∃ acc, H4 D = some (.lst acc) ∧ acc.length < sizeLine ∧ Nx (upd H4 D (.lst (acc ++ [y]))) else Nx H3) := by
  have hr : (List.range n).filter (fun _ => true) = List.range n := List.filter_eq_self.mpr fun _ _ => rfl
  refine lcF w hGm hn hP hPD (fun _ => true) hD hG1 (fun i x H H' Kt Kf hi e1 hg y hys k _ => hs i x H H' Kt hi e1 hg y hys (k rfl)) fun H ys e1 h2 h3 h4 => ?_
  rw [hr] at h3 h4
  refine hd H ys e1 h2 (by simpa using h3) fun j v q => ?_
  obtain ⟨i, ei, pi⟩ := h4 j v q
  have hj := (List.getElem?_eq_some_iff.mp ei).1
  rw [List.getElem?_range (by simpa using hj)] at ei
  cases ei
  exact pi
end
/-! ### telling words -/
section
variable {K : PySem.W.Frag} {H H' : Hp} {D : Addr} {ys : List V}
theorem SqT.exD {a : Addr} {xs : List V} (hD : H D = some (.lst ys)) (e : ∀ b o, b ≠ D → H b = some o → H' b = some o) (h : SqT K H a xs) : SqT K H' a xs := by
  rcases h with (h | ⟨o, h⟩) | h
  · exact .inl (.inl (e _ _ (fun z => by rw [z, hD] at h; cases h) h))
  · exact .inl (.inr ⟨o, e _ _ (fun z => by rw [z, hD] at h; cases h) h⟩)
  · exact .inr h
theorem SqL.exD {a : Addr} {xs : List V} (hn : a ≠ D) (e : ∀ b o, b ≠ D → H b = some o → H' b = some o) (h : SqL K H a xs) : SqL K H' a xs := by
  rcases h with (h | ⟨o, h⟩) | h
  · exact .inl (.inl (e _ _ hn h))
  · exact .inl (.inr ⟨o, e _ _ hn h⟩)
  · exact .inr h
theorem TupV.exD {v : V} {xs : List V} (hD : H D = some (.lst ys)) (e : ∀ b o, b ≠ D → H b = some o → H' b = some o) (h : TupV K H v xs) : TupV K H' v xs := by
  obtain ⟨p, rfl, h⟩ := h
  exact ⟨p, rfl, SqT.exD hD e h⟩
theorem Frac.exD {v : V} {r : Rat} (hD : H D = some (.lst ys)) (e : ∀ b o, b ≠ D → H b = some o → H' b = some o) (h : Frac K H v r) : Frac K H' v r := TupV.exD hD e h
theorem Num.exD {v : V} {r : Rat} (hD : H D = some (.lst ys)) (e : ∀ b o, b ≠ D → H b = some o → H' b = some o) (h : Num K H v r) : Num K H' v r := by
  rcases h with h | ⟨n, d, h, q⟩
  · exact .inl h
  · exact .inr ⟨n, d, TupV.exD hD e h, q⟩
end
theorem mono_eq {f : Nat → V} : Mono (fun i v _ => v = f i) := fun _ _ _ _ h _ => h
theorem monoD_eq {D : Addr} {f : Nat → V} : MonoD D (fun i v _ => v = f i) := fun _ _ _ _ _ _ _ h => h
end K18
end
section
set_option Elab.async false
set_option linter.all false
set_option maxRecDepth 100000
set_option maxHeartbeats 4000000
namespace K18
open PySem PySem.Spec PyProof.Rows L2
section
variable {P : Program} {w : World} {K : PySem.W.Frag} {mg : Str → Option Value} {base : Heap}
theorem sc_minus : FnScope ["one", "other", "top", "bottom", "more", "under"] ["one", "other"] (C8.fnScope (top 15)) := C8.fnScope_by (by decide +kernel)
theorem cal_minus (D : DD K mg "minus" 15) (c_frac_named : C8.Cal P w K mg base 3 "frac_named" (spFnm K) []) (c_lowest : C8.Cal P w K mg base 1 "lowest" (spLowest K) []) : C8.Cal P w K mg base 4 "minus" (spBin (· - ·) K) [] := by
  refine cal_mk D sc_minus (fun _ _ _ _ _ _ us hl => match us, hl with | [_, _], _ => rfl) (fun vs H Q E h => ?_) (fun f cdv A outer s H vs Q E hr h => ?_)
  · obtain ⟨x, y, r, s, a, b, rfl, _⟩ := h; rfl
  · obtain ⟨x, y, r, s, a, b, rfl, hx, hy, zx, zy, ha, hb, hab, k⟩ := h
    have nd := sc_minus.nd
    refine ⟨_, (pss_cons (ps_asg (C8.pe_c c_frac_named hr (by decide) (by rfl) (pa_cons (pv 0) (pa_cons pe_str pa_nil))) (pg_tup rfl (pgs_cons (pgn 2 nd) (pgs_cons (pgn 3 nd) pgs_nil))))
    (pss_cons (ps_asg (C8.pe_c c_frac_named hr (by decide) (by rfl) (pa_cons (pv 1) (pa_cons pe_str pa_nil))) (pg_tup rfl (pgs_cons (pgn 4 nd) (pgs_cons (pgn 5 nd) pgs_nil))))
    (pss_one (ps_ret (C8.pe_c c_lowest hr (by decide) (by rfl) (pa_cons (pe_op op_sub (pe_op op_mulW (pv 2) (pv 5)) (pe_op op_mulW (pv 4) (pv 3))) (pa_cons (pe_op op_mulW (pv 3) (pv 5)) pa_nil))))))), ?_⟩
    refine ⟨_, rfl, _, _, r, rfl, hx.num zx (by omega), fun v1 H1 e1 h1 => ?_⟩
    obtain ⟨p1, rfl, t1⟩ := h1
    refine ⟨p1, _, rfl, t1, rfl, _, _, rfl, _, _, rfl, rfl, ?_⟩
    refine ⟨_, rfl, _, _, s, rfl, (hy.ex e1).num zy (by omega), fun v2 H2 e2 h2 => ?_⟩
    obtain ⟨p2, rfl, t2⟩ := h2
    refine ⟨p2, _, rfl, t2, rfl, _, _, rfl, _, _, rfl, rfl, ?_⟩
    have e12 := e1.trans e2
    refine ⟨_, rfl, _, rfl, _, _, rfl, rfl, wmul zx.1 zy.den ha hb hab, _, rfl, _, rfl, _, _, rfl, rfl, wmul zy.1 zx.den hb ha (by omega), _, _, rfl, rfl, _, rfl, _, rfl, _, _, rfl, rfl, wmul zx.den zy.den ha hb hab, ?_⟩
    refine ⟨_, _, rfl, Int.mul_pos (Mth.den_pos r) (Mth.den_pos s), Mth.lt_mono (Mth.mul_lt zx.den zy.den) hab, fun v H' e hv => k v H' (e12.trans e) ?_⟩
    rw [Mth.fr_sub] at hv
    exact hv
theorem sc_times : FnScope ["one", "other", "top", "bottom", "more", "under"] ["one", "other"] (C8.fnScope (top 16)) := C8.fnScope_by (by decide +kernel)
theorem cal_times (D : DD K mg "times" 16) (c_frac_named : C8.Cal P w K mg base 3 "frac_named" (spFnm K) []) (c_lowest : C8.Cal P w K mg base 1 "lowest" (spLowest K) []) : C8.Cal P w K mg base 4 "times" (spBin (· * ·) K) [] := by
  refine cal_mk D sc_times (fun _ _ _ _ _ _ us hl => match us, hl with | [_, _], _ => rfl) (fun vs H Q E h => ?_) (fun f cdv A outer s H vs Q E hr h => ?_)
  · obtain ⟨x, y, r, s, a, b, rfl, _⟩ := h; rfl
  · obtain ⟨x, y, r, s, a, b, rfl, hx, hy, zx, zy, ha, hb, hab, k⟩ := h
    have nd := sc_times.nd
    refine ⟨_, (pss_cons (ps_asg (C8.pe_c c_frac_named hr (by decide) (by rfl) (pa_cons (pv 0) (pa_cons pe_str pa_nil))) (pg_tup rfl (pgs_cons (pgn 2 nd) (pgs_cons (pgn 3 nd) pgs_nil))))
    (pss_cons (ps_asg (C8.pe_c c_frac_named hr (by decide) (by rfl) (pa_cons (pv 1) (pa_cons pe_str pa_nil))) (pg_tup rfl (pgs_cons (pgn 4 nd) (pgs_cons (pgn 5 nd) pgs_nil))))
    (pss_one (ps_ret (C8.pe_c c_lowest hr (by decide) (by rfl) (pa_cons (pe_op op_mulW (pv 2) (pv 4)) (pa_cons (pe_op op_mulW (pv 3) (pv 5)) pa_nil))))))), ?_⟩
    refine ⟨_, rfl, _, _, r, rfl, hx.num zx (by omega), fun v1 H1 e1 h1 => ?_⟩
    obtain ⟨p1, rfl, t1⟩ := h1
    refine ⟨p1, _, rfl, t1, rfl, _, _, rfl, _, _, rfl, rfl, ?_⟩
    refine ⟨_, rfl, _, _, s, rfl, (hy.ex e1).num zy (by omega), fun v2 H2 e2 h2 => ?_⟩
    obtain ⟨p2, rfl, t2⟩ := h2
    refine ⟨p2, _, rfl, t2, rfl, _, _, rfl, _, _, rfl, rfl, ?_⟩
    have e12 := e1.trans e2
    refine ⟨_, rfl, _, rfl, _, _, rfl, rfl, wmul zx.1 zy.1 ha hb hab, _, rfl, _, rfl, _, _, rfl, rfl, wmul zx.den zy.den ha hb hab, ?_⟩
    refine ⟨_, _, rfl, Int.mul_pos (Mth.den_pos r) (Mth.den_pos s), Mth.lt_mono (Mth.mul_lt zx.den zy.den) hab, fun v H' e hv => k v H' (e12.trans e) ?_⟩
    rw [Mth.fr_mul] at hv
    exact hv
/-! ### sign_of -/
def spSign (K : PySem.W.Frag) : Sp := fun vs H Q _ => ∃ x r, vs = [x] ∧ Num K H x r ∧ ∀ (s : Int) H', Ex H H' → (s = -1 ∨ s = 0 ∨ s = 1) → Q (.int s) H'
theorem sc_sign : FnScope ["number", "top"] ["number"] (C8.fnScope (top 17)) := C8.fnScope_by (by decide +kernel)
theorem cal_sign (B : Bt mg) (D : DD K mg "sign_of" 17) (c_frac_named : C8.Cal P w K mg base 3 "frac_named" (spFnm K) []) : C8.Cal P w K mg base 4 "sign_of" (spSign K) [] := by
  refine cal_mk D sc_sign (fun _ _ _ _ _ _ us hl => match us, hl with | [_], _ => rfl) (fun vs H Q E h => ?_) (fun f cdv A outer s H vs Q E hr h => ?_)
  · obtain ⟨x, r, rfl, _⟩ := h; rfl
  · obtain ⟨x, r, rfl, hx, k⟩ := h
    have nd := sc_sign.nd
    refine ⟨_, (pss_cons (pset 1 nd (pe_ix ix_tup (C8.pe_c c_frac_named hr (by decide) (by rfl) (pa_cons (pv 0) (pa_cons pe_str pa_nil))) pe_int (fun _ _ => rfl)))
    (pss_one (ps_ret (pe_op op_sub (pe_callTy call_int1 (by rfl) B.int PyProof.Rows.boot_int (pa_cons (pe_cmpR op_gt (pv 1) pe_int (nomark _)) pa_nil)) (pe_callTy call_int1 (by rfl) B.int PyProof.Rows.boot_int (pa_cons (pe_cmpR op_lt (pv 1) pe_int (nomark _)) pa_nil)))))), ?_⟩
    refine ⟨_, rfl, _, _, r, rfl, hx, fun v1 H1 e1 h1 => ?_⟩
    obtain ⟨p1, rfl, t1⟩ := h1
    refine ⟨p1, _, 0, _, rfl, rfl, t1, rfl, ?_⟩
    refine ⟨_, rfl, _, _, rfl, rfl, .inr ⟨_, rfl, ?_⟩⟩
    refine ⟨_, rfl, _, _, rfl, rfl, .inr ⟨_, rfl, ?_⟩⟩
    refine ⟨_, _, rfl, rfl, k _ _ e1 ?_⟩
    by_cases h1 : 0 < r.num
    · rw [decide_eq_true h1, decide_eq_false (by omega : ¬ r.num < 0)]; exact .inr (.inr rfl)
    · rw [decide_eq_false h1]
      by_cases h2 : r.num < 0
      · rw [decide_eq_true h2]; exact .inl rfl
      · rw [decide_eq_false h2]; exact .inr (.inl rfl)
end
end K18
end
section
set_option Elab.async false
set_option linter.all false
set_option maxRecDepth 100000
set_option maxHeartbeats 4000000
namespace K18
open PySem PySem.Spec PyProof.Rows L2
/-- a list or a tuple of these -/
def SeqV (K : PySem.W.Frag) (H : Hp) (v : V) (xs : List V) : Prop := ∃ p, v = .ref p ∧ (SqL K H p xs ∨ SqT K H p xs)
theorem SeqV.ex {K : PySem.W.Frag} {H H' : Hp} {v : V} {xs : List V} (h : SeqV K H v xs) (e : Ex H H') : SeqV K H' v xs := by
  obtain ⟨p, rfl, h⟩ := h
  exact ⟨p, rfl, h.elim (fun h => .inl (Evl.ex_l e h)) fun h => .inr (Evl.ex_t e h)⟩
theorem LstV.seq {K : PySem.W.Frag} {H : Hp} {v : V} {xs : List V} (h : LstV K H v xs) : SeqV K H v xs := by
  obtain ⟨p, rfl, h⟩ := h
  exact ⟨p, rfl, .inl h⟩
theorem TupV.seq {K : PySem.W.Frag} {H : Hp} {v : V} {xs : List V} (h : TupV K H v xs) : SeqV K H v xs := by
  obtain ⟨p, rfl, h⟩ := h
  exact ⟨p, rfl, .inr h⟩
theorem ty_seq {K : PySem.W.Frag} {H : Hp} {p : Addr} {xs : List V} (h : SqL K H p xs ∨ SqT K H p xs) : ∃ t, TyX K H (.ref p) t ∧ PySem.W.kitAny K t [.type "list", .type "tuple"] = some true := by
  rcases h with h | h
  · exact ⟨_, ty_lst h, kit_lt_l⟩
  · exact ⟨_, ty_tup h, kit_lt_t⟩
/-- isinstance(x, (list, tuple)) of a list or a tuple: what is asked where the tuple of classes stands at q -/
theorem isi_ty {K : PySem.W.Frag} {H : Hp} {p q : Addr} {xs : List V} (h : SqL K H p xs ∨ SqT K H p xs) (hq : H q = none) : ∃ t, TyX K (upd H q (.tup [.ty "list", .ty "tuple"])) (.ref p) t ∧ PySem.W.kitAny K t [.type "list", .type "tuple"] = some true := by
  have e := Evl.Ex.new (o := .tup [.ty "list", .ty "tuple"]) hq
  exact ty_seq (h.imp (Evl.ex_l e) (Evl.ex_t e))
/-- enumerate over a list or a tuple: one word for both -/
theorem seq_enum {K : PySem.W.Frag} {H0 H : Hp} {p : Addr} {xs : List V} {R : It → Hp → Prop} (h : SqL K H0 p xs ∨ SqT K H0 p xs) (e : Ex H0 H)
    (k : ∀ (J : It) (G : Hp → Prop), Walk J xs.length G (YPair (fun i => some (.int (i : Nat))) (fun i => xs[i]?)) → (∀ H H', G H → Ex H H' → G H') → G H0 → R J H) : (SqL K H p xs ∧ R (Ite K p) H) ∨ (SqT K H p xs ∧ R (Iet K p) H) := by
  rcases h with h | h
  · exact .inl ⟨Evl.ex_l e h, k _ _ walk_enum (fun _ _ g e => Evl.ex_l e g) h⟩
  · exact .inr ⟨Evl.ex_t e h, k _ _ walk_enumT (fun _ _ g e => Evl.ex_t e g) h⟩
/-- .. as a reading: H0 is a heap below, that the loop leaves as it is -/
def iEnumB (K : PySem.W.Frag) (ta : TA) : TI := fun σ H R => ta σ H fun vs H1 => ∃ a xs H0, vs = [.ref a] ∧ (SqL K H0 a xs ∨ SqT K H0 a xs) ∧ Ex H0 H1 ∧
  ∀ (J : It) (G : Hp → Prop), Walk J xs.length G (YPair (fun i => some (.int (i : Nat))) (fun i => xs[i]?)) → (∀ H H', G H → Ex H H' → G H') → G H0 → R J H1
theorem pi_enumB {X : Cx} {e : Expr} {ta : TA} {p pos tpos : Pos} {elts : List Expr} {kk : Nat} (hg : Gl X "enumerate") (hm : X.mg "enumerate" = none) (ha : PA X [e] ta) (hs : starEach [e] X.env = [(false, eval e X.env)] := by rfl) :
    PI X (.Tuple elts kk tpos) (.Call (.Name "enumerate" p) [e] [] pos) (iEnumB X.K ta) := by
  refine ⟨fun pins s σ H R I h => ?_⟩
  refine Call_ (ld_blt I hg hm boot_enumerate (PyProof.Rows.callWith_type1 (thn (ha.run pos pins s σ H _ I h) fun us s1 ⟨vs, H1, I1, r1, q1⟩ => ?_) hs rfl))
  obtain ⟨a, xs, H0, ex, hq, e, k⟩ := q1
  subst ex
  exact (pi_enumA_run I1 r1 (seq_enum hq e k))
section
variable {P : Program} {w : World} {K : PySem.W.Frag} {mg : Str → Option Value} {base : Heap}
/-- numbers in a row -/
def NumR (K : PySem.W.Frag) (f : Nat → Rat) : Nat → V → Hp → Prop := fun i v H => Num K H v (f i) ∧ Mth.Sz big (f i)
def FracR (K : PySem.W.Frag) (f : Nat → Rat) : Nat → V → Hp → Prop := fun i v H => Frac K H v (f i)
theorem mono_num {f : Nat → Rat} : Mono (NumR K f) := fun _ _ _ _ h e => ⟨h.1.ex e, h.2⟩
theorem mono_frac {f : Nat → Rat} : Mono (FracR K f) := fun _ _ _ _ h e => Frac.ex h e
theorem monoD_frac {D : Addr} {f : Nat → Rat} : MonoD D (FracR K f) := fun _ _ _ _ _ hD e h => Frac.exD hD e h
/-- it stays told when a list that is new since H0 is written -/
theorem lt_sz {n : Nat} (h : n < 100000) : n < sizeLine := Nat.lt_of_lt_of_le h (by decide)
theorem le_sz {n : Nat} (h : n ≤ 100000) : n ≤ sizeLine := Nat.le_trans h (by decide)
def spRowW (K : PySem.W.Frag) : Sp := fun vs H Q _ => ∃ (row : V) (n : Nat) (signs : V) (xs : List V) (f : Nat → Rat), vs = [row, .int n, signs] ∧ SeqV K H row xs ∧ xs.length = n ∧ n ≤ 12 ∧ TupV K H signs [.int (-1), .int 0, .int 1] ∧ At (NumR K f) xs H ∧
  ∀ v ys H', Ex H H' → TupV K H' v ys → ys.length = n → At (FracR K f) ys H' → Q v H'
theorem sc_rowW : FnScope ["row", "size", "signs", "numbers", "at", "number", "told"] ["row", "size", "signs"] (C8.fnScope (top 18)) := C8.fnScope_by (by decide +kernel)
theorem cal_rowW (B : Bt mg) (D : DD K mg "row_where" 18) (c_frac_or_none : C8.Cal P w K mg base 2 "frac_or_none" (spFrn K) []) (c_sign_of : C8.Cal P w K mg base 4 "sign_of" (spSign K) []) : C8.Cal P w K mg base 5 "row_where" (spRowW K) [] := by
  refine cal_mk D sc_rowW (fun _ _ _ _ _ _ us hl => match us, hl with | [_, _, _], _ => rfl) (fun vs H Q E h => ?_) (fun f cdv A outer s H vs Q E hr h => ?_)
  · obtain ⟨row, n, signs, xs, f, rfl, _⟩ := h; rfl
  · obtain ⟨row, n, signs, xs, f, rfl, ⟨p, rfl, hq⟩, hl, hn, ⟨ps, rfl, hsg⟩, hx, k⟩ := h
    have nd := sc_rowW.nd
    refine ⟨_, (pss_cons (ps_if (PW.pt (pw_or (pt_not (pt_val (pe_callB call_isiT (by rfl) B.isinstance PyProof.Rows.boot_isinstance (pa_cons (pv 0) (pa_cons (pe_tup (pa_cons (pe_bltn (v := .ty "list") (by rfl) B.list PyProof.Rows.boot_list rfl) (pa_cons (pe_bltn (v := .ty "tuple") (by rfl) B.tuple PyProof.Rows.boot_tuple rfl) pa_nil))) pa_nil))))) (pw_or1 (pt_cmpR op_ne (pe_callB call_len_seq (by rfl) B.len PySem.boot_len (pa_cons (pv 0) pa_nil)) (pv 1) (nomark _))))) (pss_one ps_never) pss_nil)
    (pss_cons (pset 3 nd (pe_lst pa_nil))
    (pss_cons (ps_for PassesOwn.never rfl (pi_enumB (by rfl) B.enumerate (pa_cons (pv 0) pa_nil)) (pg_tup rfl (pgs_cons (pgn 4 nd) (pgs_cons (pgn 5 nd) pgs_nil)))
      (pss_cons (pset 6 nd (C8.pe_c c_frac_or_none hr (by decide) (by rfl) (pa_cons (pv 5) pa_nil)))
      (pss_cons (ps_if (PW.pt (pw_or (pt_cmpR op_isN (pv 6) pe_non (nomark _)) (pw_or1 (pt_cmpR op_notIn_seq (C8.pe_c c_sign_of hr (by decide) (by rfl) (pa_cons (pv 6) pa_nil)) (pv 2) rfl)))) (pss_one ps_never) pss_nil)
      (pss_one (ps_expr (pe_bm PySem.F.plainAttrs_list PySem.F.slot_list_append PySem.F.type_list_append mt_append (pv 3) (pa_cons (pv 6) pa_nil)))))))
    (pss_one (ps_ret (pe_callTy call_tuple_of (by rfl) B.tuple PyProof.Rows.boot_tuple (pa_cons (pv 3) pa_nil))))))), ?_⟩
    refine ⟨_, rfl, (by show 2 ≤ sizeLine; decide), fun p0 hp0 => ?_⟩
    have e0 := Evl.Ex.new (o := .tup [.ty "list", .ty "tuple"]) hp0
    obtain ⟨ty0, hty0, kt0⟩ := isi_ty hq hp0
    refine ⟨_, p0, _, ty0, [.type "list", .type "tuple"], true, rfl, upd_same, cls_lt, hty0, kt0, true, rfl, ?_⟩
    refine iteF ⟨_, rfl, p, xs, rfl, (hq.imp (Evl.ex_l e0) (Evl.ex_t e0)), _, rfl, rfl, _, rfl, ?_⟩
    have hne : (!decide (V.int (xs.length : Int) = V.int (n : Nat))) = false := by rw [hl]; simp
    rw [hne]
    refine iteF ⟨by decide, fun p1 hp1 => ?_⟩
    have e1 := e0.trans (Evl.Ex.new (o := .lst []) hp1)
    refine ⟨_, rfl, p, xs, _, rfl, hq, e1, fun J G wk gm g0 => ?_⟩
    refine for_it wk (Pv := fun i σ' H' => ∃ a4 a5 a6 ys, σ' = [some (.ref p), some (.int n), some (.ref ps), some (.ref p1), a4, a5, a6] ∧ Ex H H' ∧ H' p1 = some (.lst ys) ∧ ys.length = i ∧ At (FracR K f) ys H') ⟨_, _, _, [], rfl, e1, upd_same, rfl, At.nil⟩ (fun i σ' H' hi h => gm _ _ g0 h.choose_spec.choose_spec.choose_spec.choose_spec.2.1) ?_ ?_
    · rintro i v σ' H' H2 hi ⟨a4, a5, a6, ys, rfl, e2, h2, h3, h4⟩ ⟨T, x, y, rfl, hT, rfl, ex1, ey⟩
      cases ex1
      obtain ⟨hnum, hsz⟩ := hx i y ey
      have e3 := e2.trans (Evl.Ex.new (o := .tup [.int (i : Nat), y]) hT)
      refine ⟨T, _, rfl, SqT.of upd_same, rfl, _, _, rfl, _, _, rfl, rfl, ?_⟩
      refine ⟨_, rfl, y, f i, rfl, hnum.ex e3, fun v1 H3 e4 hv1 => ?_⟩
      obtain ⟨q1, rfl, t1⟩ := hv1
      refine ⟨_, rfl, rfl, false, rfl, ?_⟩
      refine iteF ⟨_, rfl, _, f i, rfl, Frac.num (k := big) ⟨q1, rfl, t1⟩ hsz (Nat.le_refl _), fun sg H4 e5 hs => ?_⟩
      have e35 := (e3.trans e4).trans e5
      refine ⟨_, rfl, ps, _, rfl, .inr (Evl.ex_t e35 hsg), rfl, rfl, _, rfl, ?_⟩
      have hin : (!inV (V.int sg) [V.int (-1), V.int 0, V.int 1]) = false := by
        rcases hs with rfl | rfl | rfl <;> decide
      show (if (if true = true then (!inV (V.int sg) [V.int (-1), V.int 0, V.int 1]) else _) = true then _ else _)
      rw [if_pos rfl, hin]
      refine iteF ?_
      have hT' : ∀ b o, H' b = some o → H4 b = some o := fun b o q => e5 _ _ (e4 _ _ (Evl.Ex.new hT _ _ q))
      refine ⟨_, rfl, lst_ty (hT' _ _ h2), _, rfl, p1, ys, _, rfl, rfl, hT' _ _ h2, lt_sz (by omega), ?_⟩
      have up : ∀ b o, b ≠ p1 → H4 b = some o → (upd H4 p1 (.lst (ys ++ [.ref q1]))) b = some o := fun b o hb q => by rw [upd_ne hb]; exact q
      refine ⟨_, _, _, ys ++ [.ref q1], rfl, e35.mut (Evl.fresh_back e0 hp1), upd_same, by rw [List.length_append, h3]; rfl, ?_⟩
      refine At.snoc (fun j v q => monoD_frac j v _ _ _ (hT' _ _ h2) up (mono_frac j v _ _ (h4 j v q) hT')) ?_
      rw [h3]
      exact Frac.exD (hT' _ _ h2) up ⟨q1, rfl, Evl.ex_t e5 t1⟩
    · rintro σ' H' ⟨a4, a5, a6, ys, rfl, e2, h2, h3, h4⟩
      refine ⟨_, rfl, p1, ys, rfl, .inl ⟨SqL.of h2, fun l hl' => ?_⟩⟩
      exact k _ ys _ (e2.trans (Evl.Ex.new hl')) ⟨l, rfl, SqT.of upd_same⟩ (h3.trans hl) (At.ex mono_frac h4 (Evl.Ex.new hl'))
end
end K18
end
section
set_option Elab.async false
set_option linter.all false
set_option maxRecDepth 100000
set_option maxHeartbeats 4000000
namespace K18
open PySem PySem.Spec PyProof.Rows L2
/-! ### words on lists of places -/
theorem nV_ints {l : List Nat} : nV l = (l.map fun i : Nat => (i : Int)).map V.int := by simp [nV]
theorem flat_nV {l : List Nat} : (nV l).all flatV = true := by
  rw [List.all_eq_true]
  intro x hx
  obtain ⟨i, _, rfl⟩ := List.mem_map.mp hx
  rfl
theorem inV_nV {l : List Nat} {i : Nat} : inV (.int (i : Nat)) (nV l) = decide (i ∈ l) := by
  unfold inV nV
  rw [Bool.eq_iff_iff, List.any_eq_true, decide_eq_true_iff]
  refine ⟨fun ⟨x, hx, e⟩ => ?_, fun h => ⟨_, List.mem_map_of_mem h, by show (_ == _) = true; simp⟩⟩
  obtain ⟨j, hj, rfl⟩ := List.mem_map.mp hx
  have : ((j : Int) == (i : Int)) = true := e
  have e' : j = i := by have := eq_of_beq this; omega
  rw [← e']; exact hj
theorem perm_nat {l : List Nat} {ns : List Int} (h : ns.Perm (l.map fun i : Nat => (i : Int))) : ∃ l' : List Nat, l'.Perm l ∧ ns.map V.int = nV l' ∧ (ns.Pairwise (· ≤ ·) → l'.Pairwise (· ≤ ·)) := by
  refine ⟨ns.map Int.toNat, ?_, ?_, fun hp => List.pairwise_map.mpr (hp.imp fun h => by omega)⟩
  · have := h.map Int.toNat
    rw [List.map_map] at this
    have e : (Int.toNat ∘ fun i : Nat => (i : Int)) = id := by funext i; simp
    rw [e, List.map_id] at this
    exact this
  · unfold nV
    rw [List.map_map]
    refine List.map_congr_left fun x hx => ?_
    obtain ⟨j, _, rfl⟩ := List.mem_map.mp (h.mem_iff.mp hx)
    simp
theorem cut_to {xs : List V} {i : Nat} (hi : i ≤ xs.length) : cutV xs none (some (i : Int)) = xs.take i := by
  unfold cutV
  have e1 : HT.sIx xs.length 0 none = 0 := rfl
  have e2 : HT.sIx xs.length xs.length (some (i : Int)) = i := by
    rw [HT.sIx_nat]
    omega
  rw [e1, e2]; simp
theorem nV_take {l : List Nat} {i : Nat} : (nV l).take i = nV (l.take i) := by simp [nV, List.map_take]
theorem nV_at {l : List Nat} {i : Nat} {v : V} (h : (nV l)[i]? = some v) : ∃ hi : i < l.length, v = .int (l[i] : Nat) := by
  obtain ⟨j, e, rfl⟩ := nV_get h
  obtain ⟨hi, e⟩ := List.getElem?_eq_some_iff.mp e
  exact ⟨hi, by rw [e]⟩
/-- the told values of a comprehension -/
theorem sel_list {α : Type} {a : List α} {p : α → Bool} {f : α → V} (d : α) : ((List.range a.length).filter fun i => p (a.getD i d)).map (fun i => f (a.getD i d)) = (a.filter p).map f := by
  induction a with
  | nil => rfl
  | cons x xs ih =>
    rw [List.length_cons, List.range_succ_eq_map, List.filter_cons, List.filter_map]
    have e : ((fun i => p ((x :: xs).getD i d)) ∘ Nat.succ) = fun i => p (xs.getD i d) := by funext i; simp
    rw [e]
    have e2 : ∀ l : List Nat, (l.map Nat.succ).map (fun i => f ((x :: xs).getD i d)) = l.map fun i => f (xs.getD i d) := fun l => by rw [List.map_map]; refine List.map_congr_left fun i _ => by simp
    by_cases h : p x = true
    · rw [if_pos (by simpa using h), List.map_cons, e2, ih, List.filter_cons_of_pos h, List.map_cons]
      simp
    · rw [if_neg (by simpa using h), e2, ih, List.filter_cons_of_neg h]
section
variable {J : It} {n : Nat} {G : Hp → Prop} {Y : Nat → Hp → V → Hp → Prop}
theorem lcV (w : Walk J n G Y) (hGm : ∀ H H', G H → Ex H H' → G H') (hn : n < sizeLine) {D : Addr} (sel : Nat → Bool) (val : Nat → V) {g : TG} {tt : TT} {te : TE} {vs : List Nat} {σ : L2.St} {H1 : Hp} {Qd : Hp → Prop} (hD : H1 D = none) (hG1 : G H1)
    (hs : ∀ (i : Nat) (x : V) (H H' : Hp) (Kt : V → Hp → Prop) (Kf : Hp → Prop), i < n → Ex H1 H → G H → Y i H x H' → (∃ ys, H D = some (.lst ys)) → (sel i = true → ∀ H4, Ex H H4 → Kt (val i) H4) → (sel i = false → ∀ H4, Ex H H4 → Kf H4) →
      g x (wipe σ vs) H' fun σ2 H2 => wipe σ2 vs = wipe σ vs ∧ tt σ2 H2 fun b H3 => if b = true then te σ2 H3 Kt else Kf H3)
    (hd : ∀ H, Ex H1 H → H D = some (.lst (((List.range n).filter sel).map val)) → Qd H) :
    ∃ W : Nat → Nat → Hp → Prop, (∃ m, W 0 m (upd H1 D (.lst []))) ∧ ∀ i m H, W i m H →
      (J.stop i H ∧ Qd H) ∨ (J.go i H ∧ ∃ Nx : Hp → Prop, (∀ H', Nx H' → ∃ m', m' < m ∧ W (i + 1) m' H') ∧ ∀ x H', J.yld i H x H' → g x (wipe σ vs) H' fun σ2 H2 => wipe σ2 vs = wipe σ vs ∧ tt σ2 H2 fun b H3 =>
        if b = true then te σ2 H3 fun y H4 => ∃ acc, H4 D = some (.lst acc) ∧ acc.length < sizeLine ∧ Nx (upd H4 D (.lst (acc ++ [y]))) else Nx H3) := by
  refine lcF w hGm hn (P := fun i v _ => v = val i) (fun _ _ _ _ h _ => h) (fun _ _ _ _ _ _ _ h => h) sel hD hG1 (fun i x H H' Kt Kf hi e1 hg y hys k1 k2 => hs i x H H' Kt Kf hi e1 hg y hys (fun h H4 e => k1 h _ H4 e rfl) k2) fun H ys e1 h2 h3 h4 => hd H e1 ?_
  rw [h2]
  congr 2
  refine List.ext_getElem (by rw [h3, List.length_map]) fun j hj hj' => ?_
  obtain ⟨i, ei, pi⟩ := h4 j _ (List.getElem?_eq_getElem hj)
  rw [pi, List.getElem_map]
  congr 1
  rw [List.getElem?_eq_getElem (by simpa using hj')] at ei
  exact (Option.some.inj ei).symm
end
/-- a list or a tuple, gone through: one word for both -/
def iSeqB (K : PySem.W.Frag) (te : TE) : TI := fun σ H R => te σ H fun x H1 => ∃ a xs H0, x = .ref a ∧ (SqL K H0 a xs ∨ SqT K H0 a xs) ∧ Ex H0 H1 ∧
  ∀ (J : It) (G : Hp → Prop), Walk J xs.length G (YAt xs) → (∀ H H', G H → Ex H H' → G H') → G H0 → R J H1
section
variable {P : Program} {w : World} {K : PySem.W.Frag} {mg : Str → Option Value} {base : Heap}
/-! ### lots -/
def spChkSize : Sp := fun vs H Q _ => ∃ n : Nat, vs = [.int n] ∧ n ≤ 12 ∧ Q (.int n) H
def spSix : Sp := fun vs H Q _ => ∃ n : Nat, vs = [.int n] ∧ n ≤ 6 ∧ Q .non H
def spIsPl : Sp := fun vs H Q _ => ∃ (x : V) (n : Nat), vs = [x, .int n] ∧ ((∃ i, x = .int i ∧ Q (.bl (decide (0 ≤ i ∧ i < n))) H) ∨ (∃ b, x = .bl b ∧ Q (.bl false) H))
def spChkPl : Sp := fun vs H Q _ => ∃ (i n : Nat) (nm : V), vs = [.int i, .int n, nm] ∧ i < n ∧ Q (.int i) H
theorem sc_chkSize : FnScope ["size"] ["size"] (C8.fnScope (top 23)) := C8.fnScope_by (by decide +kernel)
theorem cal_chkSize (D : DD K mg "check_size" 23) (g_MOST_PLACES : ∃ u, mg "MOST_PLACES" = some u ∧ RelV (.int 12) u) (c_is_whole : C8.Cal P w K mg base 1 "is_whole" (spWhole K) []) : C8.Cal P w K mg base 2 "check_size" spChkSize [] := by
  refine cal_mk D sc_chkSize (fun _ _ _ _ _ _ us hl => match us, hl with | [_], _ => rfl) (fun vs H Q E h => ?_) (fun f cdv A outer s H vs Q E hr h => ?_)
  · obtain ⟨n, rfl, _⟩ := h; rfl
  · obtain ⟨n, rfl, hn, k⟩ := h
    have nd := sc_chkSize.nd
    refine ⟨_, (pss_cons (ps_if (PW.pt (pw_or (pt_not (pt_val (C8.pe_c c_is_whole hr (by decide) (by rfl) (pa_cons (pv 0) pa_nil)))) (pw_or1 (pt_not (pt_chain op_le op_le pe_int (pv 0) (C8.pe_gc (by rfl) g_MOST_PLACES)))))) (pss_one ps_never) pss_nil)
    (pss_one (ps_ret (pv 0)))), ?_⟩
    refine ⟨_, rfl, _, rfl, .inl ⟨_, rfl, true, rfl, ?_⟩⟩
    refine iteF ?_
    refine ⟨_, rfl, _, _, rfl, rfl, _, rfl, ?_⟩
    rw [decide_eq_true (by omega : (0 : Int) ≤ (n : Int))]
    refine iteT ⟨_, _, rfl, rfl, _, rfl, ?_⟩
    rw [decide_eq_true (by omega : (n : Int) ≤ 12)]
    exact iteF ⟨_, rfl, k⟩
theorem sc_six : FnScope ["size"] ["size"] (C8.fnScope (top 24)) := C8.fnScope_by (by decide +kernel)
theorem cal_six (D : DD K mg "at_most_six" 24) (g_MOST_LISTED : ∃ u, mg "MOST_LISTED" = some u ∧ RelV (.int 6) u) : C8.Cal P w K mg base 1 "at_most_six" spSix [] := by
  refine cal_mk D sc_six (fun _ _ _ _ _ _ us hl => match us, hl with | [_], _ => rfl) (fun vs H Q E h => ?_) (fun f cdv A outer s H vs Q E hr h => ?_)
  · obtain ⟨n, rfl, _⟩ := h; rfl
  · obtain ⟨n, rfl, hn, k⟩ := h
    have nd := sc_six.nd
    refine ⟨_, (pss_one (ps_if (pt_cmpR op_gt (pv 0) (C8.pe_gc (by rfl) g_MOST_LISTED) (nomark _)) (pss_one ps_never) pss_nil)), ?_⟩
    refine ⟨_, rfl, _, _, rfl, rfl, _, rfl, ?_⟩
    rw [decide_eq_false (by omega : ¬ (n : Int) > 6)]
    exact iteF k
theorem sc_isPl : FnScope ["place", "size"] ["place", "size"] (C8.fnScope (top 25)) := C8.fnScope_by (by decide +kernel)
theorem cal_isPl (D : DD K mg "is_place" 25) (c_is_whole : C8.Cal P w K mg base 1 "is_whole" (spWhole K) []) : C8.Cal P w K mg base 2 "is_place" spIsPl [] := by
  refine cal_mk D sc_isPl (fun _ _ _ _ _ _ us hl => match us, hl with | [_, _], _ => rfl) (fun vs H Q E h => ?_) (fun f cdv A outer s H vs Q E hr h => ?_)
  · obtain ⟨x, n, rfl, _⟩ := h; rfl
  · obtain ⟨x, n, rfl, hx⟩ := h
    have nd := sc_isPl.nd
    refine ⟨_, (pss_one (ps_ret (pe_and (C8.pe_c c_is_whole hr (by decide) (by rfl) (pa_cons (pv 0) pa_nil)) (pe_one (pe_chain op_le op_lt pe_int (pv 0) (pv 1)))))), ?_⟩
    rcases hx with ⟨i, rfl, k⟩ | ⟨b, rfl, k⟩
    · refine ⟨_, rfl, _, rfl, .inl ⟨_, rfl, true, rfl, iteT ⟨_, rfl, _, _, rfl, rfl, _, rfl, ?_⟩⟩⟩
      by_cases h : 0 ≤ i
      · rw [decide_eq_true h]
        refine iteT ⟨_, rfl, _, _, rfl, rfl, ?_⟩
        have e : decide (0 ≤ i ∧ i < (n : Int)) = decide (i < (n : Int)) := by simp [h]
        rw [e] at k
        exact k
      · rw [decide_eq_false h]
        refine iteF ?_
        rw [decide_eq_false (by omega)] at k
        exact k
    · exact ⟨_, rfl, _, rfl, .inr (.inl ⟨_, rfl, false, rfl, iteF k⟩)⟩
theorem sc_chkPl : FnScope ["place", "size", "name"] ["place", "size", "name"] (C8.fnScope (top 26)) := C8.fnScope_by (by decide +kernel)
theorem cal_chkPl (D : DD K mg "check_place" 26) (c_is_place : C8.Cal P w K mg base 2 "is_place" (spIsPl) []) : C8.Cal P w K mg base 3 "check_place" spChkPl [] := by
  refine cal_mk D sc_chkPl (fun _ _ _ _ _ _ us hl => match us, hl with | [_, _, _], _ => rfl) (fun vs H Q E h => ?_) (fun f cdv A outer s H vs Q E hr h => ?_)
  · obtain ⟨i, n, nm, rfl, _⟩ := h; rfl
  · obtain ⟨i, n, nm, rfl, hi, k⟩ := h
    have nd := sc_chkPl.nd
    refine ⟨_, (pss_cons (ps_if (pt_not (pt_val (C8.pe_c c_is_place hr (by decide) (by rfl) (pa_cons (pv 0) (pa_cons (pv 1) pa_nil))))) (pss_one ps_never) pss_nil)
    (pss_one (ps_ret (pv 0)))), ?_⟩
    refine ⟨_, rfl, _, rfl, _, _, rfl, .inl ⟨_, rfl, true, ?_, iteF ⟨_, rfl, k⟩⟩⟩
    rw [decide_eq_true (by omega)]
end
end K18
end
section
set_option Elab.async false
set_option linter.all false
set_option maxRecDepth 100000
set_option maxHeartbeats 4000000
namespace K18
open PySem PySem.Spec PyProof.Rows L2
section
variable {X : Cx} (K : PySem.W.Frag)
theorem op_inK (h : X.K = K := by rfl) : OpR X (compareOp .In) (rIn K false) := h ▸ op_in_seq
theorem op_niK (h : X.K = K := by rfl) : OpR X (compareOp .NotIn) (rIn K true) := h ▸ op_notIn_seq
theorem ix_tupK (h : X.K = K := by rfl) : IxR X (rIxT K) := h ▸ ix_tup
theorem ix_listK (h : X.K = K := by rfl) : IxR X (rIxL K) := h ▸ ix_list
theorem op_eqDK (hu : X.A.units + 64 < cLine) (h : X.K = K := by rfl) : OpR X (compareOp .Eq) (rEqD K) := h ▸ op_eqD hu
theorem op_neDK (hu : X.A.units + 64 < cLine) (h : X.K = K := by rfl) : OpR X (compareOp .NotEq) (rNeD K) := h ▸ op_neD hu
def rLenK : List V → Hp → VK → Prop := fun xs H Q => ∃ p ys, xs = [.ref p] ∧ (SqL K H p ys ∨ SqT K H p ys) ∧ Q (.int ys.length) H
theorem call_lenK (h : X.K = K := by rfl) : CallR X (.builtin "len") (rLenK K) := h ▸ call_len_seq
def rTupOf : List V → Hp → VK → Prop := fun xs H Q => ∃ p ys, xs = [.ref p] ∧ ((SqL K H p ys ∧ ∀ l, H l = none → Q (.ref l) (upd H l (.tup ys))) ∨ (SqT K H p ys ∧ Q (.ref p) H))
theorem call_tupK (h : X.K = K := by rfl) : CallR X (.type "tuple") (rTupOf K) := h ▸ call_tuple_of
def rLstOf : List V → Hp → VK → Prop := fun xs H Q => ∃ p ys, xs = [.ref p] ∧ (SqL K H p ys ∨ SqT K H p ys) ∧ ∀ l, H l = none → Q (.ref l) (upd H l (.lst ys))
theorem call_lstK (h : X.K = K := by rfl) : CallR X (.type "list") (rLstOf K) := h ▸ call_list_of
theorem call_isiK (h : X.K = K := by rfl) : CallR X (.builtin "isinstance") (rIsi K) := h ▸ call_isi
theorem call_isiTK (h : X.K = K := by rfl) : CallR X (.builtin "isinstance") (rIsiT K) := h ▸ call_isiT
theorem cr_sortK (h : X.K = K := by rfl) : CallR X (.builtin "sorted") (rSortedQ K) := h ▸ cr_sortedQ
theorem cr_sumK (hc : X.calm = true) (h : X.K = K := by rfl) : CallR X (.builtin "sum") (rSum K) := h ▸ cr_sum hc
theorem op_catAK (h : X.K = K := by rfl) : OpR X (binaryOp .Add) (rCatA K) := h ▸ op_catA
theorem sl_listK (h : X.K = K := by rfl) : SlR X (rSlL K) := h ▸ sl_list
theorem sl_tupK (h : X.K = K := by rfl) : SlR X (rSlA K) := h ▸ sl_tupA
theorem mt_indexK (h : X.K = K := by rfl) : MtR X "list.index" (rIndex K) := h ▸ mt_index
theorem pi_tupK {tg l : Expr} {tl : TE} (hl : PE X l tl) (h : X.K = K := by rfl) : PI X tg l (iTup K tl) := h ▸ pi_tup hl
theorem pi_listK {tg l : Expr} {tl : TE} (hl : PE X l tl) (h : X.K = K := by rfl) : PI X tg l (iList K tl) := h ▸ pi_list hl
theorem pi_enumK {e : Expr} {ta : TA} {p pos tpos : Pos} {elts : List Expr} {kk : Nat} (hg : Gl X "enumerate") (hm : X.mg "enumerate" = none) (ha : PA X [e] ta) (hs : starEach [e] X.env = [(false, eval e X.env)] := by rfl) (h : X.K = K := by rfl) :
    PI X (.Tuple elts kk tpos) (.Call (.Name "enumerate" p) [e] [] pos) (iEnumB K ta) := h ▸ pi_enumB hg hm ha hs
theorem pg_tupK {es : List Expr} {k : Nat} {t : TGs} {n : Nat} {pos : Pos} (hc : X.calm = true) (h : PGs X es t) (hn : (assignEach es X.env).length = n := by rfl) (hst : (assignEach es X.env).findIdx? (·.1) = none := by rfl) (hK : X.K = K := by rfl) : PG X (.Tuple es k pos) (gTup K n t) := hK ▸ pg_tup hc h hn hst
/-- both kinds -/
theorem pi_seqK {tg l : Expr} {te : TE} (hl : PE X l te) (h : X.K = K := by rfl) : PI X tg l (iSeqB K te) := by
  subst h
  refine ⟨fun pins s σ H R I h => ?_⟩
  refine thn (hl.run pins s σ H _ I h) fun v s1 ⟨x, H1, I1, r1, q1⟩ => ?_
  obtain ⟨a, xs, H0, e, hq, e0, q⟩ := q1
  subst e
  cases r1
  rcases hq with hq | hq
  · have hq1 := Evl.ex_l e0 hq
    obtain ⟨its, rv, p, hz⟩ := I1.list hq1
    refine wpAny_pyIter_list p.isList ?_
    refine ⟨s1.heap.objs.size, [s1.heap.objs.size], _, _, H1, rfl, I1.kept (t' := s1.toks) fun b o e => Heap.get?_push_of_some _ e, turn_list a _, ⟨_, Heap.get?_push_size _ rfl, rfl, rfl⟩, fun b hb => ?_, q _ _ walk_list (fun _ _ g e => Evl.ex_l e g) hq⟩
    have e : b = s1.heap.objs.size := by simpa using hb
    subst e
    exact I1.fpOk (Nat.le_refl _) (I1.hok.fresh (Nat.le_refl _))
  · have hq1 := Evl.ex_t e0 hq
    obtain ⟨its, rv, p, hz⟩ := I1.tuple hq1
    refine wpAny_pyIter_tuple (show s1.heap.IsTuple a its.toArray from p) ?_
    refine ⟨s1.heap.objs.size, [s1.heap.objs.size], _, _, H1, rfl, I1.kept (t' := s1.toks) fun b o e => Heap.get?_push_of_some _ e, turn_tuple a _, ⟨_, Heap.get?_push_size _ rfl, rfl, rfl⟩, fun b hb => ?_, q _ _ walk_tup (fun _ _ g e => Evl.ex_t e g) hq⟩
    have e : b = s1.heap.objs.size := by simpa using hb
    subst e
    exact I1.fpOk (Nat.le_refl _) (I1.hok.fresh (Nat.le_refl _))
end
end K18
end
section
set_option Elab.async false
set_option linter.all false
set_option maxRecDepth 100000
set_option maxHeartbeats 4000000
namespace K18
open PySem PySem.Spec PyProof.Rows L2
section
variable {P : Program} {w : World} {K : PySem.W.Frag} {mg : Str → Option Value} {base : Heap}
/-- what is told of a lot of places below n -/
structure LotOk (l : List Nat) (n : Nat) : Prop where
  lt : ∀ x ∈ l, x < n
  nd : l.Nodup
def spApart (K : PySem.W.Frag) : Sp := fun vs H Q _ => ∃ (v : V) (n : Nat) (tk : V) (l t : List Nat), vs = [v, .int n, tk] ∧ n ≤ 12 ∧ SeqV K H v (nV l) ∧ TupV K H tk (nV t) ∧ LotOk l n ∧ (∀ x ∈ l, x ∉ t) ∧
  ∀ v l' H', Ex H H' → TupV K H' v (nV l') → l'.Perm l → l'.Pairwise (· ≤ ·) → Q v H'
theorem LotOk.len {l : List Nat} {n : Nat} (h : LotOk l n) : l.length ≤ n := by
  have := h.nd.length_le_of_subset (l₂ := List.range n) fun x hx => List.mem_range.mpr (h.lt x hx)
  simpa using this
theorem LotOk.inj {l : List Nat} {n i j : Nat} (h : LotOk l n) (hi : i < l.length) (hj : j < l.length) (e : l[i] = l[j]) : i = j := by
  have hp := List.pairwise_iff_getElem.mp h.nd
  rcases Nat.lt_trichotomy i j with q | q | q
  · exact absurd e (hp i j hi hj q)
  · exact q
  · exact absurd e.symm (hp j i hj hi q)
theorem sc_apart : FnScope ["lot", "size", "taken", "at", "place"] ["lot", "size", "taken"] (C8.fnScope (top 27)) := C8.fnScope_by (by decide +kernel)
theorem cal_apart (B : Bt mg) (D : DD K mg "apart_lot" 27) (c_check_size : C8.Cal P w K mg base 2 "check_size" (spChkSize) []) (c_is_place : C8.Cal P w K mg base 2 "is_place" (spIsPl) []) : C8.Cal P w K mg base 3 "apart_lot" (spApart K) [] := by
  refine cal_mk D sc_apart (fun _ _ _ _ _ _ us hl => match us, hl with | [_, _, _], _ => rfl) (fun vs H Q E h => ?_) (fun f cdv A outer s H vs Q E hr h => ?_)
  · obtain ⟨v, n, tk, l, t, rfl, _⟩ := h; rfl
  · obtain ⟨v, n, tk, l, t, rfl, hn, ⟨p, rfl, hq⟩, ⟨pt, rfl, ht⟩, ok, hd, k⟩ := h
    have nd := sc_apart.nd
    refine ⟨_, (pss_cons (ps_expr (C8.pe_c c_check_size hr (by decide) (by rfl) (pa_cons (pv 1) pa_nil)))
    (pss_cons (ps_if (pt_not (pt_val (pe_callB (call_isiTK K) (by rfl) B.isinstance PyProof.Rows.boot_isinstance (pa_cons (pv 0) (pa_cons (pe_tup (pa_cons (pe_bltn (v := .ty "list") (by rfl) B.list PyProof.Rows.boot_list rfl) (pa_cons (pe_bltn (v := .ty "tuple") (by rfl) B.tuple PyProof.Rows.boot_tuple rfl) pa_nil))) pa_nil))))) (pss_one ps_never) pss_nil)
    (pss_cons (ps_for PassesOwn.never rfl (pi_enumK K (by rfl) B.enumerate (pa_cons (pv 0) pa_nil)) (pg_tup rfl (pgs_cons (pgn 3 nd) (pgs_cons (pgn 4 nd) pgs_nil)))
      (pss_one (ps_if (PW.pt (pw_or (pt_not (pt_val (C8.pe_c c_is_place hr (by decide) (by rfl) (pa_cons (pv 4) (pa_cons (pv 1) pa_nil))))) (pw_or (pt_cmpR (op_inK K) (pv 4) (pv 2) rfl) (pw_or1 (pt_cmpR (op_inK K) (pv 4) (pe_slice ((sl_listK K).or (sl_tupK K)) (pv 0) po_none (po_some (pv 3))) rfl))))) (pss_one ps_never) pss_nil)))
    (pss_one (ps_ret (pe_callTy (call_tupK K) (by rfl) B.tuple PyProof.Rows.boot_tuple (pa_cons (pe_callB (cr_sortK K) (by rfl) B.sorted PyProof.Rows.boot_sorted (pa_cons (pv 0) pa_nil)) pa_nil))))))), ?_⟩
    have hll := ok.len
    refine ⟨_, rfl, n, rfl, hn, _, rfl, (by show 2 ≤ sizeLine; decide), fun p0 hp0 => ?_⟩
    obtain ⟨ty0, hty0, kt0⟩ := isi_ty hq hp0
    have e0 := Evl.Ex.new (o := .tup [.ty "list", .ty "tuple"]) hp0
    refine ⟨_, p0, _, ty0, [.type "list", .type "tuple"], true, rfl, upd_same, cls_lt, hty0, kt0, true, rfl, ?_⟩
    refine iteF ?_
    refine ⟨_, rfl, p, _, _, rfl, hq, e0, fun J G wk gm g0 => ?_⟩
    have hl : (nV l).length = l.length := nV_len
    refine for_it wk (Pv := fun i σ' H' => ∃ a3 a4, σ' = [some (.ref p), some (.int n), some (.ref pt), a3, a4] ∧ Ex H H') ⟨_, _, rfl, e0⟩ (fun i σ' H' hi h => gm _ _ g0 h.choose_spec.choose_spec.2) ?_ ?_
    · rintro i v σ' H' H2 hi ⟨a3, a4, rfl, e2⟩ ⟨T, x, y, rfl, hT, rfl, ex1, ey⟩
      cases ex1
      obtain ⟨hil, rfl⟩ := nV_at ey
      have e3 := e2.trans (Evl.Ex.new (o := .tup [.int (i : Nat), .int (l[i] : Nat)]) hT)
      refine ⟨T, _, rfl, SqT.of upd_same, rfl, _, _, rfl, _, _, rfl, rfl, ?_⟩
      have hm : l[i] ∈ l := List.getElem_mem hil
      refine ⟨_, rfl, _, rfl, _, n, rfl, .inl ⟨_, rfl, true, (by have := ok.lt _ hm; rw [decide_eq_true (by omega)]), iteF ?_⟩⟩
      refine ⟨_, rfl, _, rfl, pt, _, rfl, .inr (Evl.ex_t e3 ht), rfl, flat_nV, false, ?_, iteF ?_⟩
      · show V.bl (inV _ _) = _
        rw [inV_nV, decide_eq_false (hd _ hm)]
      · have e5 : inV (V.int (l[i] : Nat)) (nV (l.take i)) = false := by
          rw [inV_nV, decide_eq_false (fun hmem => ?_)]
          obtain ⟨j, hj, ej⟩ := List.mem_iff_getElem.mp hmem
          rw [List.getElem_take] at ej
          rw [List.length_take] at hj
          have := ok.inj (by omega) hil ej
          omega
        have ec : cutV (nV l) none (some (i : Int)) = nV (l.take i) := by rw [cut_to (by omega), nV_take]
        have ew : ¬ (HT.sIx (nV l).length 0 none = 0 ∧ HT.sIx (nV l).length (nV l).length (some (i : Int)) = (nV l).length) := by
          rw [HT.sIx_nat]
          omega
        refine ⟨_, rfl, _, rfl, _, rfl, i, rfl, ?_⟩
        rcases hq with hq | hq
        · refine .inl ⟨p, _, rfl, Evl.ex_l e3 hq, fun q hq' => ?_⟩
          rw [ec]
          refine ⟨q, _, rfl, .inl (SqL.of upd_same), rfl, flat_nV, false, ?_, iteF ?_⟩
          · show V.bl (inV _ _) = _
            rw [e5]
          · exact ⟨_, _, rfl, e3.trans (Evl.Ex.new hq')⟩
        · refine .inr ⟨p, _, rfl, Evl.ex_t e3 hq, fun z => absurd z ew, fun _ q hq' => ?_⟩
          rw [ec]
          refine ⟨q, _, rfl, .inr (SqT.of upd_same), rfl, flat_nV, false, ?_, iteF ?_⟩
          · show V.bl (inV _ _) = _
            rw [e5]
          · exact ⟨_, _, rfl, e3.trans (Evl.Ex.new hq')⟩
    · rintro σ' H' ⟨a3, a4, rfl, e2⟩
      refine ⟨_, rfl, p, _, rfl, (by rw [← nV_ints]; exact hq.imp (Evl.ex_l e2) (Evl.ex_t e2)), fun ns' q hpm hso hq' => ?_⟩
      obtain ⟨l', pl, el, sl⟩ := perm_nat hpm
      refine ⟨q, _, rfl, .inl ⟨SqL.of upd_same, fun q2 hq2 => ?_⟩⟩
      rw [el] at hq2 ⊢
      exact k _ l' _ ((e2.trans (Evl.Ex.new hq')).trans (Evl.Ex.new hq2)) TupV.new pl (sl hso)
def spLot (K : PySem.W.Frag) : Sp := fun vs H Q _ => ∃ (v : V) (n : Nat) (l : List Nat), vs = [v, .int n] ∧ n ≤ 12 ∧ SeqV K H v (nV l) ∧ LotOk l n ∧ ∀ v l' H', Ex H H' → TupV K H' v (nV l') → l'.Perm l → l'.Pairwise (· ≤ ·) → Q v H'
theorem sc_lot : FnScope ["lot", "size"] ["lot", "size"] (C8.fnScope (top 28)) := C8.fnScope_by (by decide +kernel)
theorem cal_lot (D : DD K mg "lot_of" 28) (c_apart_lot : C8.Cal P w K mg base 3 "apart_lot" (spApart K) []) : C8.Cal P w K mg base 4 "lot_of" (spLot K) [] := by
  refine cal_mk D sc_lot (fun _ _ _ _ _ _ us hl => match us, hl with | [_, _], _ => rfl) (fun vs H Q E h => ?_) (fun f cdv A outer s H vs Q E hr h => ?_)
  · obtain ⟨v, n, l, rfl, _⟩ := h; rfl
  · obtain ⟨v, n, l, rfl, hn, hq, ok, k⟩ := h
    have nd := sc_lot.nd
    refine ⟨_, (pss_one (ps_ret (C8.pe_c c_apart_lot hr (by decide) (by rfl) (pa_cons (pv 0) (pa_cons (pv 1) (pa_cons (pe_tup pa_nil) pa_nil)))))), ?_⟩
    refine ⟨_, rfl, _, rfl, (by show 0 ≤ sizeLine; decide), fun p0 hp0 => ?_⟩
    have e0 := Evl.Ex.new (o := .tup []) hp0
    exact ⟨v, n, _, l, [], rfl, hn, hq.ex e0, TupV.new, ok, fun _ _ => List.not_mem_nil, fun v l' H' e h pm so => k v l' H' (e0.trans e) h pm so⟩
def spCommon (K : PySem.W.Frag) : Sp := fun vs H Q _ => ∃ (x y : V) (a b : List Nat), vs = [x, y] ∧ TupV K H x (nV a) ∧ TupV K H y (nV b) ∧ a.length < 100000 ∧ ∀ v l' H', Ex H H' → TupV K H' v (nV l') → l'.Perm (a.filter fun i => decide (i ∈ b)) → Q v H'
def spWithout (K : PySem.W.Frag) : Sp := fun vs H Q _ => ∃ (x y : V) (a b : List Nat), vs = [x, y] ∧ TupV K H x (nV a) ∧ TupV K H y (nV b) ∧ a.length < 100000 ∧ ∀ v l' H', Ex H H' → TupV K H' v (nV l') → l'.Perm (a.filter fun i => !decide (i ∈ b)) → Q v H'
theorem sc_common : FnScope ["one", "other", "place"] ["one", "other"] (C8.fnScope (top 31)) := C8.fnScope_by (by decide +kernel)
theorem cal_common (B : Bt mg) (D : DD K mg "common" 31) : C8.Cal P w K mg base 1 "common" (spCommon K) [] := by
  refine cal_mk D sc_common (fun _ _ _ _ _ _ us hl => match us, hl with | [_, _], _ => rfl) (fun vs H Q E h => ?_) (fun f cdv A outer s H vs Q E hr h => ?_)
  · obtain ⟨x, y, a, b, rfl, _⟩ := h; rfl
  · obtain ⟨x, y, a, b, rfl, ⟨p, rfl, hp⟩, ⟨q, rfl, hq⟩, hl, k⟩ := h
    have nd := sc_common.nd
    refine ⟨_, (pss_one (ps_ret (pe_callTy (call_tupK K) (by rfl) B.tuple PyProof.Rows.boot_tuple (pa_cons (pe_callB (cr_sortK K) (by rfl) B.sorted PyProof.Rows.boot_sorted (pa_cons (pe_lc (own := [("place", 2)]) rfl nd (pi_tupK K (pv 0)) (blkOk_by (own := [("place", 2)]) (N := ["one", "other", "place"]) (by kernel_rfl)) (fun _ _ _ _ _ => (pgn 2 nd)) (fun _ _ _ _ _ => (pts_one (pt_cmpR (op_inK K) (pv 2) (pv 1) rfl))) (fun _ _ _ _ _ => (pv 2))) pa_nil)) pa_nil)))), ?_⟩
    refine ⟨_, rfl, p, rfl, ⟨_, hp⟩, fun D hD => ?_⟩
    refine lcV walk_tup (fun _ _ g e => Evl.ex_t e g) (by rw [nV_len]; exact lt_sz hl) (fun i => decide (a.getD i 0 ∈ b)) (fun i => .int (a.getD i 0 : Nat)) hD hp ?_ ?_
    · rintro i x H2 H2' Kt Kf hi e1 hg ⟨rfl, ex⟩ _ kt kf
      obtain ⟨hil, rfl⟩ := nV_at ex
      refine ⟨rfl, _, rfl, _, rfl, q, _, rfl, .inr (Evl.ex_t e1 hq), rfl, flat_nV, _, rfl, ?_⟩
      rw [if_neg Bool.false_ne_true, inV_nV]
      have eg : a.getD i 0 = a[i] := by rw [List.getD_eq_getElem?_getD, List.getElem?_eq_getElem hil]; rfl
      rw [eg] at kt kf
      by_cases hm : a[i] ∈ b
      · rw [decide_eq_true hm] at kt ⊢
        exact iteT ⟨_, rfl, kt rfl _ (Evl.Ex.refl _)⟩
      · rw [decide_eq_false hm] at kf ⊢
        exact iteF (kf rfl _ (Evl.Ex.refl _))
    · intro H2 e2 h2
      rw [nV_len, sel_list (f := fun i : Nat => V.int i) (p := fun i => decide (i ∈ b)) (a := a) 0] at h2
      refine ⟨D, (a.filter fun i => decide (i ∈ b)).map fun i : Nat => (i : Int), rfl, .inl (by rw [← nV_ints]; exact SqL.of h2), fun ns' q2 hpm hso hq' => ?_⟩
      obtain ⟨l', pl, el, sl⟩ := perm_nat hpm
      refine ⟨q2, _, rfl, .inl ⟨SqL.of upd_same, fun q3 hq3 => ?_⟩⟩
      rw [el] at hq3 ⊢
      exact k _ l' _ ((e2.trans (Evl.Ex.new hq')).trans (Evl.Ex.new hq3)) TupV.new pl
theorem sc_without : FnScope ["one", "other", "place"] ["one", "other"] (C8.fnScope (top 32)) := C8.fnScope_by (by decide +kernel)
theorem cal_without (B : Bt mg) (D : DD K mg "without" 32) : C8.Cal P w K mg base 1 "without" (spWithout K) [] := by
  refine cal_mk D sc_without (fun _ _ _ _ _ _ us hl => match us, hl with | [_, _], _ => rfl) (fun vs H Q E h => ?_) (fun f cdv A outer s H vs Q E hr h => ?_)
  · obtain ⟨x, y, a, b, rfl, _⟩ := h; rfl
  · obtain ⟨x, y, a, b, rfl, ⟨p, rfl, hp⟩, ⟨q, rfl, hq⟩, hl, k⟩ := h
    have nd := sc_without.nd
    refine ⟨_, (pss_one (ps_ret (pe_callTy (call_tupK K) (by rfl) B.tuple PyProof.Rows.boot_tuple (pa_cons (pe_callB (cr_sortK K) (by rfl) B.sorted PyProof.Rows.boot_sorted (pa_cons (pe_lc (own := [("place", 2)]) rfl nd (pi_tupK K (pv 0)) (blkOk_by (own := [("place", 2)]) (N := ["one", "other", "place"]) (by kernel_rfl)) (fun _ _ _ _ _ => (pgn 2 nd)) (fun _ _ _ _ _ => (pts_one (pt_cmpR (op_niK K) (pv 2) (pv 1) rfl))) (fun _ _ _ _ _ => (pv 2))) pa_nil)) pa_nil)))), ?_⟩
    refine ⟨_, rfl, p, rfl, ⟨_, hp⟩, fun D hD => ?_⟩
    refine lcV walk_tup (fun _ _ g e => Evl.ex_t e g) (by rw [nV_len]; exact lt_sz hl) (fun i => !decide (a.getD i 0 ∈ b)) (fun i => .int (a.getD i 0 : Nat)) hD hp ?_ ?_
    · rintro i x H2 H2' Kt Kf hi e1 hg ⟨rfl, ex⟩ _ kt kf
      obtain ⟨hil, rfl⟩ := nV_at ex
      refine ⟨rfl, _, rfl, _, rfl, q, _, rfl, .inr (Evl.ex_t e1 hq), rfl, flat_nV, _, rfl, ?_⟩
      rw [if_pos rfl, inV_nV]
      have eg : a.getD i 0 = a[i] := by rw [List.getD_eq_getElem?_getD, List.getElem?_eq_getElem hil]; rfl
      rw [eg] at kt kf
      by_cases hm : a[i] ∈ b
      · rw [decide_eq_true hm] at kf ⊢
        exact iteF (kf rfl _ (Evl.Ex.refl _))
      · rw [decide_eq_false hm] at kt ⊢
        exact iteT ⟨_, rfl, kt rfl _ (Evl.Ex.refl _)⟩
    · intro H2 e2 h2
      rw [nV_len, sel_list (f := fun i : Nat => V.int i) (p := fun i => !decide (i ∈ b)) (a := a) 0] at h2
      refine ⟨D, (a.filter fun i => !decide (i ∈ b)).map fun i : Nat => (i : Int), rfl, .inl (by rw [← nV_ints]; exact SqL.of h2), fun ns' q2 hpm hso hq' => ?_⟩
      obtain ⟨l', pl, el, sl⟩ := perm_nat hpm
      refine ⟨q2, _, rfl, .inl ⟨SqL.of upd_same, fun q3 hq3 => ?_⟩⟩
      rw [el] at hq3 ⊢
      exact k _ l' _ ((e2.trans (Evl.Ex.new hq')).trans (Evl.Ex.new hq3)) TupV.new pl
def spJoined (K : PySem.W.Frag) : Sp := fun vs H Q _ => ∃ (x y : V) (a b : List Nat), vs = [x, y] ∧ TupV K H x (nV a) ∧ TupV K H y (nV b) ∧ a.length < 1000 ∧ b.length < 1000 ∧ ∀ v l' H', Ex H H' → TupV K H' v (nV l') → l'.Perm (a ++ b.filter fun i => !decide (i ∈ a)) → l'.Pairwise (· ≤ ·) → Q v H'
theorem sc_joined : FnScope ["one", "other"] ["one", "other"] (C8.fnScope (top 30)) := C8.fnScope_by (by decide +kernel)
theorem cal_joined (B : Bt mg) (D : DD K mg "joined" 30) (c_without : C8.Cal P w K mg base 1 "without" (spWithout K) []) : C8.Cal P w K mg base 2 "joined" (spJoined K) [] := by
  refine cal_mk D sc_joined (fun _ _ _ _ _ _ us hl => match us, hl with | [_, _], _ => rfl) (fun vs H Q E h => ?_) (fun f cdv A outer s H vs Q E hr h => ?_)
  · obtain ⟨x, y, a, b, rfl, _⟩ := h; rfl
  · obtain ⟨x, y, a, b, rfl, ⟨p, rfl, hp⟩, hq, hla, hlb, k⟩ := h
    have nd := sc_joined.nd
    refine ⟨_, (pss_one (ps_ret (pe_callTy (call_tupK K) (by rfl) B.tuple PyProof.Rows.boot_tuple (pa_cons (pe_callB (cr_sortK K) (by rfl) B.sorted PyProof.Rows.boot_sorted (pa_cons (pe_lst (StX.pa_star (pv 0) (StX.pa_star (C8.pe_c c_without hr (by decide) (by rfl) (pa_cons (pv 1) (pa_cons (pv 0) pa_nil))) pa_nil))) pa_nil)) pa_nil)))), ?_⟩
    refine ⟨_, rfl, p, _, rfl, .inl hp, _, rfl, _, rfl, _, _, b, a, rfl, hq, ⟨p, rfl, hp⟩, by omega, fun v l' H' e hv pl => ?_⟩
    obtain ⟨r, rfl, hr'⟩ := hv
    have hlen : l'.length ≤ b.length := by rw [pl.length_eq]; exact List.length_filter_le _ _
    refine ⟨r, _, rfl, .inl hr', by show _ ≤ sizeLine; rw [List.append_nil, List.length_append, nV_len, nV_len]; exact le_sz (by omega), fun p1 hp1 => ?_⟩
    have e1 := e.trans (Evl.Ex.new (o := .lst (nV a ++ (nV l' ++ []))) hp1)
    refine ⟨p1, (a ++ l').map fun i : Nat => (i : Int), rfl, .inl (by rw [← nV_ints]; refine SqL.of ?_; rw [upd_same]; simp [nV]), fun ns' q2 hpm hso hq' => ?_⟩
    obtain ⟨l2, pl2, el, sl⟩ := perm_nat hpm
    refine ⟨q2, _, rfl, .inl ⟨SqL.of upd_same, fun q3 hq3 => ?_⟩⟩
    rw [el] at hq3 ⊢
    exact k _ l2 _ ((e1.trans (Evl.Ex.new hq')).trans (Evl.Ex.new hq3)) TupV.new (pl2.trans (List.Perm.append_left _ pl)) (sl hso)
end
end K18
end
section
set_option Elab.async false
set_option linter.all false
set_option maxRecDepth 100000
set_option maxHeartbeats 4000000
namespace K18
open PySem PySem.Spec PyProof.Rows L2
/-! ### tables -/
def NumV (K : PySem.W.Frag) (f : Nat → Rat) : Nat → V → Hp → Prop := fun i v H => Num K H v (f i)
/-- a row as given: a list or a tuple of numbers -/
def RawRow (K : PySem.W.Frag) (f : Nat → Rat) (n : Nat) (v : V) (H : Hp) : Prop := ∃ p es, v = .ref p ∧ (SqL K H p es ∨ SqT K H p es) ∧ es.length = n ∧ At (NumV K f) es H
def RawRows (K : PySem.W.Frag) (H : Hp) (v : V) (n : Nat) (k : Nat → Nat → Rat) : Prop := ∃ p rs, v = .ref p ∧ (SqL K H p rs ∨ SqT K H p rs) ∧ rs.length = n ∧ At (fun i => RawRow K (k i) n) rs H
/-- a row of fractions -/
def TRow (K : PySem.W.Frag) (f : Nat → Rat) (n : Nat) (v : V) (H : Hp) : Prop := ∃ es, TupV K H v es ∧ es.length = n ∧ At (FracR K f) es H
def TRows (K : PySem.W.Frag) (H : Hp) (v : V) (n : Nat) (k : Nat → Nat → Rat) : Prop := ∃ rs, TupV K H v rs ∧ rs.length = n ∧ At (fun i => TRow K (k i) n) rs H
/-- the instance -/
def Tab (K : PySem.W.Frag) (C : Addr) (H : Hp) (v : V) (n : Nat) (k : Nat → Nat → Rat) : Prop := ∃ p dx rv, v = .ref p ∧ H p = some (.ins C dx [("rows", rv), ("size", .int n)]) ∧ TRows K H rv n k
section
variable {K : PySem.W.Frag} {C : Addr} {H H' : Hp} {v : V} {n : Nat} {f : Nat → Rat} {k k' : Nat → Nat → Rat} {D : Addr}
theorem mono_numV : Mono (NumV K f) := fun _ _ _ _ h e => Num.ex h e
theorem monoD_numV : MonoD D (NumV K f) := fun _ _ _ _ _ hD e h => Num.exD hD e h
theorem MonoD.at_ {P : Nat → V → Hp → Prop} (m : MonoD D P) {vs ys : List V} (hD : H D = some (.lst ys)) (e : ∀ b o, b ≠ D → H b = some o → H' b = some o) (h : At P vs H) : At P vs H' := fun i v q => m i v _ _ ys hD e (h i v q)
theorem RawRow.ex (h : RawRow K f n v H) (e : Ex H H') : RawRow K f n v H' := by
  obtain ⟨p, es, rfl, hq, hl, ha⟩ := h
  exact ⟨p, es, rfl, hq.imp (Evl.ex_l e) (Evl.ex_t e), hl, ha.ex mono_numV e⟩
theorem RawRow.exD {ys : List V} (hD : H D = some (.lst ys)) (e : ∀ b o, b ≠ D → H b = some o → H' b = some o) (hn : v ≠ .ref D) (h : RawRow K f n v H) : RawRow K f n v H' := by
  obtain ⟨p, es, rfl, hq, hl, ha⟩ := h
  exact ⟨p, es, rfl, hq.imp (SqL.exD (fun z => hn (by rw [z])) e) (SqT.exD hD e), hl, monoD_numV.at_ hD e ha⟩
theorem TRow.ex (h : TRow K f n v H) (e : Ex H H') : TRow K f n v H' := by
  obtain ⟨es, ht, hl, ha⟩ := h
  exact ⟨es, ht.ex e, hl, ha.ex mono_frac e⟩
theorem TRow.exD {ys : List V} (hD : H D = some (.lst ys)) (e : ∀ b o, b ≠ D → H b = some o → H' b = some o) (h : TRow K f n v H) : TRow K f n v H' := by
  obtain ⟨es, ht, hl, ha⟩ := h
  exact ⟨es, ht.exD hD e, hl, monoD_frac.at_ hD e ha⟩
theorem mono_trow : Mono (fun i => TRow K (k i) n) := fun _ _ _ _ h e => TRow.ex h e
theorem monoD_trow : MonoD D (fun i => TRow K (k i) n) := fun _ _ _ _ _ hD e h => TRow.exD hD e h
theorem mono_raw : Mono (fun i => RawRow K (k i) n) := fun _ _ _ _ h e => RawRow.ex h e
theorem TRows.ex (h : TRows K H v n k) (e : Ex H H') : TRows K H' v n k := by
  obtain ⟨rs, ht, hl, ha⟩ := h
  exact ⟨rs, ht.ex e, hl, ha.ex mono_trow e⟩
theorem Tab.ex (h : Tab K C H v n k) (e : Ex H H') : Tab K C H' v n k := by
  obtain ⟨p, dx, rv, rfl, hp, hr⟩ := h
  exact ⟨p, dx, rv, rfl, e _ _ hp, hr.ex e⟩
theorem RawRows.ex (h : RawRows K H v n k) (e : Ex H H') : RawRows K H' v n k := by
  obtain ⟨p, rs, rfl, hq, hl, ha⟩ := h
  exact ⟨p, rs, rfl, hq.imp (Evl.ex_l e) (Evl.ex_t e), hl, ha.ex mono_raw e⟩
theorem RawRows.congr (h : RawRows K H v n k) (e : ∀ i j, i < n → j < n → k i j = k' i j) : RawRows K H v n k' := by
  obtain ⟨p, rs, rfl, hq, hl, ha⟩ := h
  refine ⟨p, rs, rfl, hq, hl, ha.imp fun i v hi hv => ?_⟩
  obtain ⟨q, es, rfl, hq', hl', ha'⟩ := hv
  exact ⟨q, es, rfl, hq', hl', ha'.imp fun j w hj hw => by show Num K H w _; rw [← e i j (by omega) (by omega)]; exact hw⟩
theorem TRows.congr (h : TRows K H v n k) (e : ∀ i j, i < n → j < n → k i j = k' i j) : TRows K H v n k' := by
  obtain ⟨rs, hq, hl, ha⟩ := h
  refine ⟨rs, hq, hl, ha.imp fun i v hi hv => ?_⟩
  obtain ⟨es, hq', hl', ha'⟩ := hv
  exact ⟨es, hq', hl', ha'.imp fun j w hj hw => by show Frac K H w _; rw [← e i j (by omega) (by omega)]; exact hw⟩
theorem Tab.congr (h : Tab K C H v n k) (e : ∀ i j, i < n → j < n → k i j = k' i j) : Tab K C H v n k' := by
  obtain ⟨p, dx, rv, rfl, hp, hr⟩ := h
  exact ⟨p, dx, rv, rfl, hp, hr.congr e⟩
/-- the entry -/
theorem TRows.get (h : TRows K H v n k) : ∃ p rs, v = .ref p ∧ SqT K H p rs ∧ rs.length = n ∧ ∀ i, i < n → ∃ q es, rs[i]? = some (.ref q) ∧ SqT K H q es ∧ es.length = n ∧ ∀ j, j < n → ∃ x, es[j]? = some x ∧ Frac K H x (k i j) := by
  obtain ⟨rs, ⟨p, rfl, ht⟩, hl, ha⟩ := h
  refine ⟨p, rs, rfl, ht, hl, fun i hi => ?_⟩
  obtain ⟨v, e, es, ⟨q, rfl, hq⟩, hl', ha'⟩ := ha.get (i := i) (by omega)
  exact ⟨q, es, e, hq, hl', fun j hj => ha'.get (by omega)⟩
end
/-! ### data -/
def dFr (r : Rat) : PyData := .tuple [.int r.num, .int r.den]
def dRow (f : Nat → Rat) (n : Nat) : PyData := .tuple ((List.range n).map fun j => dFr (f j))
def dRows (k : Nat → Nat → Rat) (n : Nat) : PyData := .tuple ((List.range n).map fun i => dRow (k i) n)
section
variable {K : PySem.W.Frag} {H : Hp}
theorem dp_at {g : Nat → PyData} : ∀ {vs : List V} {n : Nat} (_ : At (fun i v H => Dp K H v (g i)) vs H) (_ : vs.length = n), DpAll K H vs ((List.range n).map g) := by
  intro vs
  induction vs generalizing g with
  | nil => intro n h hl; subst hl; exact .nil
  | cons x xs ih =>
    intro n h hl
    subst hl
    rw [List.length_cons, List.range_succ_eq_map, List.map_cons, List.map_map]
    exact .cons (h 0 x rfl) (ih (g := fun i => g (i + 1)) (fun i v q => h (i + 1) v (by simpa using q)) rfl)
theorem Frac.dp {v : V} {r : Rat} (h : Frac K H v r) : Dp K H v (dFr r) := by
  obtain ⟨p, rfl, ht⟩ := h
  exact .tup ht (.cons (.int _) (.cons (.int _) .nil))
theorem TRow.dp {v : V} {f : Nat → Rat} {n : Nat} (h : TRow K f n v H) : Dp K H v (dRow f n) := by
  obtain ⟨es, ⟨p, rfl, ht⟩, hl, ha⟩ := h
  exact .tup ht (dp_at (ha.imp fun _ _ _ h => Frac.dp h) hl)
theorem TRows.dp {v : V} {k : Nat → Nat → Rat} {n : Nat} (h : TRows K H v n k) : Dp K H v (dRows k n) := by
  obtain ⟨es, ⟨p, rfl, ht⟩, hl, ha⟩ := h
  exact .tup ht (dp_at (ha.imp fun _ _ _ h => TRow.dp h) hl)
end
theorem lay_all {xs : List PyData} (h : ∀ x ∈ xs, x.canLay0 = true) : PyData.canLayAll0 xs = true := by
  induction xs with
  | nil => rfl
  | cons x xs ih => rw [PyData.canLayAll0, h x (by simp), ih fun y hy => h y (by simp [hy])]; rfl
theorem depth_all {xs : List PyData} {m : Nat} (h : ∀ x ∈ xs, x.depth ≤ m) : PyData.depthAll xs ≤ m := by
  induction xs with
  | nil => exact Nat.zero_le _
  | cons x xs ih =>
    rw [PyData.depthAll]
    have := h x (by simp)
    have := ih fun y hy => h y (by simp [hy])
    omega
theorem lay_tup {xs : List PyData} {m : Nat} (h : ∀ x ∈ xs, x.canLay0 = true ∧ x.depth ≤ m) : (PyData.tuple xs).canLay0 = true ∧ (PyData.tuple xs).depth ≤ m + 1 := by
  refine ⟨by rw [PyData.canLay0]; exact lay_all fun x hx => (h x hx).1, ?_⟩
  rw [PyData.depth]
  have := depth_all (m := m) fun x hx => (h x hx).2
  omega
theorem lay_fr (r : Rat) : (dFr r).canLay0 = true ∧ (dFr r).depth ≤ 1 := lay_tup fun x hx => by
  rcases List.mem_cons.mp hx with rfl | hx
  · exact ⟨rfl, Nat.zero_le _⟩
  · rcases List.mem_cons.mp hx with rfl | hx
    · exact ⟨rfl, Nat.zero_le _⟩
    · cases hx
theorem lay_row (f : Nat → Rat) (n : Nat) : (dRow f n).canLay0 = true ∧ (dRow f n).depth ≤ 2 := lay_tup fun x hx => by
  obtain ⟨j, _, rfl⟩ := List.mem_map.mp hx
  exact lay_fr _
theorem lay_rows (k : Nat → Nat → Rat) (n : Nat) : (dRows k n).canLay0 = true ∧ (dRows k n).depth ≤ 3 := lay_tup fun x hx => by
  obtain ⟨j, _, rfl⟩ := List.mem_map.mp hx
  exact lay_row _ _
theorem shaped_of {d : PyData} {m : Nat} (h : d.canLay0 = true ∧ d.depth ≤ m) (hm : m ≤ 64) : SeqAt.shaped d = true := by
  unfold SeqAt.shaped
  rw [h.1, decide_eq_true (by omega)]
  rfl
theorem shaped_fr (r : Rat) : SeqAt.shaped (dFr r) = true := shaped_of (lay_fr r) (by omega)
theorem shaped_row (f : Nat → Rat) (n : Nat) : SeqAt.shaped (dRow f n) = true := shaped_of (lay_row f n) (by omega)
theorem shaped_rows (k : Nat → Nat → Rat) (n : Nat) : SeqAt.shaped (dRows k n) = true := shaped_of (lay_rows k n) (by omega)
theorem dRows_congr {k k' : Nat → Nat → Rat} {n : Nat} (e : ∀ i j, i < n → j < n → k i j = k' i j) : dRows k n = dRows k' n := by
  unfold dRows dRow
  congr 1
  refine List.map_congr_left fun i hi => ?_
  congr 1
  refine List.map_congr_left fun j hj => ?_
  rw [e i j (List.mem_range.mp hi) (List.mem_range.mp hj)]
/-- no fraction is None -/
theorem none_in {xs : List PyData} (h : ∀ x ∈ xs, ∃ ys, x = .tuple ys) : (xs.any fun z => PyData.eqv z .none) = false := by
  rw [List.any_eq_false]
  intro x hx
  obtain ⟨ys, rfl⟩ := h x hx
  rw [PyData.eqv]
  exact Bool.false_ne_true
section
variable {K : PySem.W.Frag} {H H' : Hp} {D : Addr}
/-- a list of told things -/
def LRow (K : PySem.W.Frag) (E : Nat → V → Hp → Prop) (n : Nat) (v : V) (H : Hp) : Prop := ∃ p es, v = .ref p ∧ SqL K H p es ∧ es.length = n ∧ At E es H
theorem LRow.ex {E : Nat → V → Hp → Prop} {n : Nat} {v : V} (m : Mono E) (h : LRow K E n v H) (e : Ex H H') : LRow K E n v H' := by
  obtain ⟨p, es, rfl, hq, hl, ha⟩ := h
  exact ⟨p, es, rfl, Evl.ex_l e hq, hl, ha.ex m e⟩
theorem LRow.exD {E : Nat → V → Hp → Prop} {n : Nat} {v : V} {ys : List V} (m : MonoD D E) (hD : H D = some (.lst ys)) (e : ∀ b o, b ≠ D → H b = some o → H' b = some o) (hn : v ≠ .ref D) (h : LRow K E n v H) : LRow K E n v H' := by
  obtain ⟨p, es, rfl, hq, hl, ha⟩ := h
  exact ⟨p, es, rfl, SqL.exD (fun z => hn (by rw [z])) e hq, hl, m.at_ hD e ha⟩
/-- rows that are lists, none of them at D -/
def NRow (K : PySem.W.Frag) (D : Addr) (E : Nat → Nat → V → Hp → Prop) (n : Nat) : Nat → V → Hp → Prop := fun i v H => v ≠ .ref D ∧ LRow K (E i) n v H
theorem mono_nrow {E : Nat → Nat → V → Hp → Prop} {n : Nat} (m : ∀ i, Mono (E i)) : Mono (NRow K D E n) := fun i _ _ _ h e => ⟨h.1, h.2.ex (m i) e⟩
theorem monoD_nrow {E : Nat → Nat → V → Hp → Prop} {n : Nat} (m : ∀ i, MonoD D (E i)) : MonoD D (NRow K D E n) := fun i _ _ _ _ hD e h => ⟨h.1, h.2.exD (m i) hD e h.1⟩
theorem nrow_new {E : Nat → Nat → V → Hp → Prop} {n i : Nat} {H1 H2 H3 : Hp} {D2 : Addr} {ys es : List V} (hD : H1 D = some (.lst ys)) (e : Ex H1 H2) (h2 : H2 D2 = none) (h3 : H3 D2 = some (.lst es)) (hl : es.length = n) (ha : At (E i) es H3) : NRow K D E n i (.ref D2) H3 := by
  refine ⟨fun z => ?_, D2, es, rfl, SqL.of h3, hl, ha⟩
  cases z
  have := e _ _ hD
  rw [h2] at this
  cases this
theorem raw_of {k : Nat → Nat → Rat} {n : Nat} {rs : List V} (h : H D = some (.lst rs)) (hl : rs.length = n) (ha : At (NRow K D (fun i => NumV K (k i)) n) rs H) : RawRows K H (.ref D) n k := by
  refine ⟨D, rs, rfl, .inl (SqL.of h), hl, ha.imp fun i v _ hv => ?_⟩
  obtain ⟨_, p, es, rfl, hq, hl, ha⟩ := hv
  exact ⟨p, es, rfl, .inl hq, hl, ha⟩
end
end K18
end
section
set_option Elab.async false
set_option linter.all false
set_option maxRecDepth 100000
set_option maxHeartbeats 4000000
namespace K18
open PySem PySem.Spec PyProof.Rows L2
theorem pe_fldK {X : Cx} (K : PySem.W.Frag) {e : Expr} {f : Str} {pos : Pos} {ta : TE} (he : PE X e ta) (hb : attributeBase e f X.env (eval e X.env) = eval e X.env) (h : X.K = K := by rfl) : PE X (.Attribute e f pos) (tFld K ta f) := h ▸ pe_fld he hb
theorem int_of_eq {i j : Int} : (if decide (V.int i = V.int j) = true then (1 : Int) else 0) = if i = j then 1 else 0 := by simp
theorem room65 {k : Nat} {A : Around} (r : Room k A) : A.units + 65 < cLine := by have := r.un; omega
section
variable {P : Program} {w : World} {K : PySem.W.Frag} {mg : Str → Option Value} {base : Heap}
/-- what is told of ZERO -/
structure ZeroC (K : PySem.W.Frag) (mg : Str → Option Value) (z : Addr) : Prop where
  glob : ∃ u, mg "ZERO" = some u ∧ RelV (.ref z) u
  at_ : ∀ H : Hp, SqT K H z [.int 0, .int 1]
theorem ZeroC.num {z : Addr} (Z : ZeroC K mg z) (H : Hp) : Num K H (.ref z) 0 := .inr ⟨0, 1, ⟨z, rfl, Z.at_ H⟩, by decide, Nat.one_lt_two_pow (by decide), by decide +kernel⟩
def spTabRows (K : PySem.W.Frag) : Sp := fun vs H Q _ => ∃ (v : V) (n : Nat) (k : Nat → Nat → Rat), vs = [v] ∧ n ≤ 12 ∧ RawRows K H v n k ∧ ∀ w H', Ex H H' → TRows K H' w n k → Q w H'
theorem sc_tabRows : FnScope ["rows", "made", "at", "row", "numbers", "number"] ["rows"] (C8.fnScope (top 38)) := C8.fnScope_by (by decide +kernel)
theorem cal_tabRows (B : Bt mg) (D : DD K mg "table_rows" 38) (g_MOST_PLACES : ∃ u, mg "MOST_PLACES" = some u ∧ RelV (.int 12) u) (c_frac_or_none : C8.Cal P w K mg base 2 "frac_or_none" (spFrn K) []) : C8.Cal P w K mg base 3 "table_rows" (spTabRows K) [] := by
  refine cal_mk D sc_tabRows (fun _ _ _ _ _ _ us hl => match us, hl with | [_], _ => rfl) (fun vs H Q E h => ?_) (fun f cdv A outer s H vs Q E hr h => ?_)
  · obtain ⟨v, n, k, rfl, _⟩ := h; rfl
  · obtain ⟨v, n, k, rfl, hn, ⟨p, rs, rfl, hq, hl, hx⟩, kk⟩ := h
    have nd := sc_tabRows.nd
    refine ⟨_, (pss_cons (ps_if (PW.pt (pw_or (pt_not (pt_val (pe_callB (call_isiTK K) (by rfl) B.isinstance PyProof.Rows.boot_isinstance (pa_cons (pv 0) (pa_cons (pe_tup (pa_cons (pe_bltn (v := .ty "list") (by rfl) B.list PyProof.Rows.boot_list rfl) (pa_cons (pe_bltn (v := .ty "tuple") (by rfl) B.tuple PyProof.Rows.boot_tuple rfl) pa_nil))) pa_nil))))) (pw_or1 (pt_cmpR op_gt (pe_callB (call_lenK K) (by rfl) B.len PySem.boot_len (pa_cons (pv 0) pa_nil)) (C8.pe_gc (by rfl) g_MOST_PLACES) (nomark _))))) (pss_one ps_never) pss_nil)
    (pss_cons (pset 1 nd (pe_lst pa_nil))
    (pss_cons (ps_for PassesOwn.never rfl (pi_enumK K (by rfl) B.enumerate (pa_cons (pv 0) pa_nil)) (pg_tup rfl (pgs_cons (pgn 2 nd) (pgs_cons (pgn 3 nd) pgs_nil)))
      (pss_cons (ps_if (PW.pt (pw_or (pt_not (pt_val (pe_callB (call_isiTK K) (by rfl) B.isinstance PyProof.Rows.boot_isinstance (pa_cons (pv 3) (pa_cons (pe_tup (pa_cons (pe_bltn (v := .ty "list") (by rfl) B.list PyProof.Rows.boot_list rfl) (pa_cons (pe_bltn (v := .ty "tuple") (by rfl) B.tuple PyProof.Rows.boot_tuple rfl) pa_nil))) pa_nil))))) (pw_or1 (pt_cmpR op_ne (pe_callB (call_lenK K) (by rfl) B.len PySem.boot_len (pa_cons (pv 3) pa_nil)) (pe_callB (call_lenK K) (by rfl) B.len PySem.boot_len (pa_cons (pv 0) pa_nil)) (nomark _))))) (pss_one ps_never) pss_nil)
      (pss_cons (pset 4 nd (pe_callTy (call_tupK K) (by rfl) B.tuple PyProof.Rows.boot_tuple (pa_cons (pe_lc (own := [("number", 5)]) rfl nd (pi_seqK K (pv 3)) (blkOk_by (own := [("number", 5)]) (N := ["rows", "made", "at", "row", "numbers", "number"]) (by kernel_rfl)) (fun _ _ _ _ _ => (pgn 5 nd)) (fun _ _ _ _ _ => pts_nil) (fun _ _ _ _ _ => (C8.pe_c c_frac_or_none hr (by decide) (by rfl) (pa_cons (pv 5) pa_nil)))) pa_nil)))
      (pss_cons (ps_if (pt_cmpR (op_inDT (room65 hr)) pe_non (pv 4) rfl) (pss_one ps_never) pss_nil)
      (pss_one (ps_expr (pe_bm PySem.F.plainAttrs_list PySem.F.slot_list_append PySem.F.type_list_append mt_append (pv 1) (pa_cons (pv 4) pa_nil))))))))
    (pss_one (ps_ret (pe_callTy (call_tupK K) (by rfl) B.tuple PyProof.Rows.boot_tuple (pa_cons (pv 1) pa_nil))))))), ?_⟩
    refine ⟨_, rfl, (by show 2 ≤ sizeLine; decide), fun p0 hp0 => ?_⟩
    have e0 := Evl.Ex.new (o := .tup [.ty "list", .ty "tuple"]) hp0
    obtain ⟨ty0, hty0, kt0⟩ := isi_ty hq hp0
    refine ⟨_, p0, _, ty0, [.type "list", .type "tuple"], true, rfl, upd_same, cls_lt, hty0, kt0, true, rfl, ?_⟩
    refine iteF ⟨_, rfl, p, rs, rfl, (hq.imp (Evl.ex_l e0) (Evl.ex_t e0)), _, _, rfl, rfl, _, rfl, ?_⟩
    rw [decide_eq_false (by omega : ¬ (rs.length : Int) > 12)]
    refine iteF ⟨by decide, fun p1 hp1 => ?_⟩
    have e1 := e0.trans (Evl.Ex.new (o := .lst []) hp1)
    refine ⟨_, rfl, p, rs, _, rfl, hq, e1, fun J G wk gm g0 => ?_⟩
    refine for_it wk (Pv := fun i σ' H' => ∃ a2 a3 a4 ys, σ' = [some (.ref p), some (.ref p1), a2, a3, a4, none] ∧ Ex H H' ∧ H' p1 = some (.lst ys) ∧ ys.length = i ∧ At (fun i => TRow K (k i) n) ys H') ⟨_, _, _, [], rfl, e1, upd_same, rfl, At.nil⟩ (fun i σ' H' hi h => gm _ _ g0 h.choose_spec.choose_spec.choose_spec.choose_spec.2.1) ?_ ?_
    · rintro i v σ' H' H2 hi ⟨a2, a3, a4, ys, rfl, e2, h2, h3, h4⟩ ⟨T, x, y, rfl, hT, rfl, ex1, ey⟩
      cases ex1
      obtain ⟨q, es, rfl, hes, hle, hae⟩ := hx i y ey
      have eT := Evl.Ex.new (o := .tup [.int (i : Nat), .ref q]) hT
      have e3 := e2.trans eT
      refine ⟨T, _, rfl, SqT.of upd_same, rfl, _, _, rfl, _, _, rfl, rfl, ?_⟩
      refine ⟨_, rfl, (by show 2 ≤ sizeLine; decide), fun p2 hp2 => ?_⟩
      have e2n := Evl.Ex.new (o := .tup [.ty "list", .ty "tuple"]) hp2
      have hes3 := hes.imp (Evl.ex_l e3) (Evl.ex_t e3)
      obtain ⟨ty1, hty1, kt1⟩ := isi_ty hes3 hp2
      have e4 := e3.trans e2n
      refine ⟨_, p2, _, ty1, [.type "list", .type "tuple"], true, rfl, upd_same, cls_lt, hty1, kt1, true, rfl, ?_⟩
      refine iteF ⟨_, rfl, q, es, rfl, hes.imp (Evl.ex_l e4) (Evl.ex_t e4), _, rfl, p, rs, rfl, hq.imp (Evl.ex_l e4) (Evl.ex_t e4), rfl, _, rfl, ?_⟩
      have hne : (!decide (V.int (es.length : Int) = V.int (rs.length : Int))) = false := by rw [hl, hle]; simp
      rw [hne]
      refine iteF ⟨_, rfl, q, es, _, rfl, hes, e4, fun J2 G2 wk2 gm2 g2 D hD => ?_⟩
      have h24 : ∀ b o, H' b = some o → _ := fun b o z => (eT.trans e2n) b o z
      refine lcA wk2 gm2 (by rw [hle]; exact lt_sz (by omega)) (P := FracR K (k i)) mono_frac monoD_frac hD (gm2 _ _ g2 e4) ?_ ?_
      · rintro j v H3 H3' Kt hj e5 hg ⟨rfl, ev⟩ _ kt
        exact ⟨rfl, _, rfl, v, k i j, rfl, (hae j v ev).ex (e4.trans e5), fun w H4 e6 hw => kt w H4 e6 hw⟩
      · intro H5 es' e5 h5 hl5 ha5
        refine ⟨D, es', rfl, .inl ⟨SqL.of h5, fun q3 hq3 => ?_⟩⟩
        have e6 := e5.trans (Evl.Ex.new (o := .tup es') hq3)
        have row : TRow K (k i) n (.ref q3) (upd H5 q3 (.tup es')) := ⟨es', TupV.new, by rw [hl5, hle], ha5.ex mono_frac (Evl.Ex.new hq3)⟩
        refine ⟨_, rfl, .none, _, .non, TRow.dp row, rfl, shaped_row _ _, false, ?_, ?_⟩
        · rw [none_in]
          intro x hx
          obtain ⟨j, _, rfl⟩ := List.mem_map.mp hx
          exact ⟨_, rfl⟩
        · have eall : Ex H' (upd H5 q3 (.tup es')) := fun b o z => e6 _ _ (h24 _ _ z)
          have hp1' := eall _ _ h2
          refine iteF ⟨_, rfl, lst_ty hp1', _, rfl, p1, ys, _, rfl, rfl, hp1', lt_sz (by omega), ?_⟩
          have up : ∀ b o, b ≠ p1 → (upd H5 q3 (.tup es')) b = some o → (upd (upd H5 q3 (.tup es')) p1 (.lst (ys ++ [.ref q3]))) b = some o := fun b o hb q => by rw [upd_ne hb]; exact q
          refine ⟨_, _, _, ys ++ [.ref q3], rfl, (e2.trans eall).mut (Evl.fresh_back e0 hp1), upd_same, by rw [List.length_append, h3]; rfl, ?_⟩
          exact At.snoc (monoD_trow.at_ hp1' up (h4.ex mono_trow eall)) (by rw [h3]; exact TRow.exD hp1' up row)
    · rintro σ' H' ⟨a2, a3, a4, ys, rfl, e2, h2, h3, h4⟩
      exact ⟨_, rfl, p1, ys, rfl, .inl ⟨SqL.of h2, fun q hq => kk _ _ (e2.trans (Evl.Ex.new hq)) ⟨ys, TupV.new, by rw [h3, hl], h4.ex mono_trow (Evl.Ex.new hq)⟩⟩⟩
end
end K18
end
section
set_option Elab.async false
set_option linter.all false
set_option maxRecDepth 100000
set_option maxHeartbeats 4000000
namespace K18
open PySem PySem.Spec PyProof.Rows L2
theorem walk_rng {n : Nat} : Walk (Itr 0 n) n (fun _ => True) (YFn fun i => .int (i : Nat)) := walk_range.mono (fun _ _ => True.intro) fun i H x H' _ _ y => by
  obtain ⟨e, y⟩ := y
  exact ⟨e, by rw [y]; show V.int (0 + (i : Int)) = V.int i; rw [Int.zero_add]⟩
theorem gm_true : ∀ H H' : Hp, (fun _ => True) H → Ex H H' → (fun _ => True) H' := fun _ _ _ _ => True.intro
theorem at_some {xs : List V} {i : Nat} {v : V} (h : xs[i]? = some v) : atI xs (i : Int) = some v := by
  have hi := (List.getElem?_eq_some_iff.mp h).1
  unfold atI
  rw [Evl.ixN_nat hi]
  exact h
section
variable {P : Program} {w : World} {K : PySem.W.Frag} {mg : Str → Option Value} {base : Heap}
def spCoins (K : PySem.W.Frag) : Sp := fun vs H Q _ => ∃ (v : V) (n : Nat) (f : Nat → Rat), vs = [v] ∧ n ≤ 12 ∧ TRow K f n v H ∧ (∀ i, i < n → Mth.Sz 8000 (f i)) ∧ ∀ w H', Ex H H' → RawRows K H' w n (fun i j => if i = j then f i else 0) → Q w H'
theorem sc_coins : FnScope ["numbers", "size", "i", "j"] ["numbers"] (C8.fnScope (top 39)) := C8.fnScope_by (by decide +kernel)
theorem cal_coins (B : Bt mg) (D : DD K mg "coin_rows" 39) {z : Addr} (Z : ZeroC K mg z) : C8.Cal P w K mg base 1 "coin_rows" (spCoins K) [] := by
  refine cal_mk D sc_coins (fun _ _ _ _ _ _ us hl => match us, hl with | [_], _ => rfl) (fun vs H Q E h => ?_) (fun f cdv A outer s H vs Q E hr h => ?_)
  · obtain ⟨v, n, f, rfl, _⟩ := h; rfl
  · obtain ⟨v, n, f, rfl, hn, ⟨es, ⟨p, rfl, hq⟩, hl, ha⟩, hz, kk⟩ := h
    have nd := sc_coins.nd
    refine ⟨_, (pss_cons (pset 1 nd (pe_callB (call_lenK K) (by rfl) B.len PySem.boot_len (pa_cons (pv 0) pa_nil)))
    (pss_one (ps_ret (pe_lc (own := [("i", 2)]) rfl nd (pi_range1 (by rfl) B.range (pa_cons (pv 1) pa_nil)) (blkOk_by (own := [("i", 2)]) (N := ["numbers", "size", "i", "j"]) (by kernel_rfl)) (fun _ _ _ _ _ => (pgn 2 nd)) (fun _ _ _ _ _ => pts_nil) (fun _ _ _ _ _ => (pe_lc (own := [("j", 3)]) rfl nd (pi_range1 (by rfl) B.range (pa_cons (pv 1) pa_nil)) (blkOk_by (own := [("j", 3)]) (N := ["numbers", "size", "i", "j"]) (by kernel_rfl)) (fun _ _ _ _ _ => (pgn 3 nd)) (fun _ _ _ _ _ => pts_nil) (fun _ _ _ _ _ => (pe_ifExp (pt_cmpR op_eq (pv 2) (pv 3) (nomark _)) (pe_ix (ix_tupK K) (pv 0) (pv 2) (fun _ _ => rfl)) (C8.pe_gc (by rfl) Z.glob))))))))), ?_⟩
    refine ⟨_, rfl, p, es, rfl, .inr hq, _, rfl, _, rfl, by omega, by omega, fun D hD => ?_⟩
    subst hl
    refine lcA walk_rng gm_true (lt_sz (by omega)) (P := NRow K D (fun i => NumV K fun j => if i = j then f i else 0) es.length) (mono_nrow fun _ => mono_numV) (monoD_nrow fun _ => monoD_numV) hD True.intro ?_ ?_
    · rintro i x H2 H2' Kt hi e2 _ ⟨rfl, rfl⟩ ⟨ys, hys⟩ kt
      refine ⟨rfl, _, rfl, _, rfl, by omega, by omega, fun D2 hD2 => ?_⟩
      refine lcA walk_rng gm_true (lt_sz (by omega)) (P := NumV K fun j => if i = j then f i else 0) mono_numV monoD_numV hD2 True.intro ?_ ?_
      · rintro j x H3 H3' Kt' hj e3 _ ⟨rfl, rfl⟩ _ kt'
        refine ⟨rfl, _, rfl, _, rfl, rfl, _, rfl, ?_⟩
        by_cases e : i = j
        · subst e
          rw [show decide (V.int (i : Nat) = V.int (i : Nat)) = true from decide_eq_true rfl]
          obtain ⟨y, ey, hy⟩ := ha.get (i := i) (by omega)
          refine iteT ⟨_, rfl, _, rfl, p, es, _, y, rfl, rfl, Evl.ex_t (e2.trans e3) hq, at_some ey, kt' y _ (Evl.Ex.refl _) ?_⟩
          show Num K _ _ (if i = i then f i else 0)
          rw [if_pos rfl]
          exact (Frac.ex hy (e2.trans e3)).num (hz i hi) (by decide)
        · rw [show decide (V.int (i : Nat) = V.int (j : Nat)) = false from decide_eq_false (fun z => e (by cases z; rfl))]
          refine iteF (kt' _ _ (Evl.Ex.refl _) ?_)
          show Num K _ _ (if i = j then f i else 0)
          rw [if_neg e]
          exact Z.num _
      · intro H5 es' e5 h5 hl5 ha5
        exact kt _ H5 ((Evl.Ex.refl _).trans e5) (nrow_new hys (Evl.Ex.refl _) hD2 h5 hl5 ha5)
    · intro H5 es' e5 h5 hl5 ha5
      exact kk _ H5 e5 (raw_of h5 hl5 ha5)
def spPicked (K : PySem.W.Frag) : Sp := fun vs H Q _ => ∃ (v w : V) (n : Nat) (k : Nat → Nat → Rat) (l : List Nat), vs = [v, w] ∧ TRows K H v n k ∧ SeqV K H w (nV l) ∧ l.length ≤ 12 ∧ (∀ x ∈ l, x < n) ∧ (∀ i j, i < n → j < n → Mth.Sz 8000 (k i j)) ∧
  ∀ w H', Ex H H' → RawRows K H' w l.length (fun i j => k (l.getD i 0) (l.getD j 0)) → Q w H'
theorem getD_at {l : List Nat} {i : Nat} (h : i < l.length) : l.getD i 0 = l[i] := by rw [List.getD_eq_getElem?_getD, List.getElem?_eq_getElem h]; rfl
theorem sc_picked : FnScope ["rows", "places", "i", "j"] ["rows", "places"] (C8.fnScope (top 40)) := C8.fnScope_by (by decide +kernel)
theorem cal_picked (D : DD K mg "picked" 40) : C8.Cal P w K mg base 1 "picked" (spPicked K) [] := by
  refine cal_mk D sc_picked (fun _ _ _ _ _ _ us hl => match us, hl with | [_, _], _ => rfl) (fun vs H Q E h => ?_) (fun f cdv A outer s H vs Q E hr h => ?_)
  · obtain ⟨v, w, n, k, l, rfl, _⟩ := h; rfl
  · obtain ⟨v, w, n, k, l, rfl, hr, ⟨p, rfl, hp⟩, hl, hlt, hz, kk⟩ := h
    have nd := sc_picked.nd
    refine ⟨_, (pss_one (ps_ret (pe_lc (own := [("i", 2)]) rfl nd (pi_seqK K (pv 1)) (blkOk_by (own := [("i", 2)]) (N := ["rows", "places", "i", "j"]) (by kernel_rfl)) (fun _ _ _ _ _ => (pgn 2 nd)) (fun _ _ _ _ _ => pts_nil) (fun _ _ _ _ _ => (pe_lc (own := [("j", 3)]) rfl nd (pi_seqK K (pv 1)) (blkOk_by (own := [("j", 3)]) (N := ["rows", "places", "i", "j"]) (by kernel_rfl)) (fun _ _ _ _ _ => (pgn 3 nd)) (fun _ _ _ _ _ => pts_nil) (fun _ _ _ _ _ => (pe_ix (ix_tupK K) (pe_ix (ix_tupK K) (pv 0) (pv 2) (fun _ _ => rfl)) (pv 3) (fun _ _ => rfl)))))))), ?_⟩
    obtain ⟨pr, rs, rfl, hpr, hlr, hg⟩ := hr.get
    refine ⟨_, rfl, p, _, _, rfl, hp, Evl.Ex.refl _, fun J G wk gm g0 D hD => ?_⟩
    refine lcA wk gm (by rw [nV_len]; exact lt_sz (by omega)) (P := NRow K D (fun i => NumV K fun j => k (l.getD i 0) (l.getD j 0)) l.length) (mono_nrow fun _ => mono_numV) (monoD_nrow fun _ => monoD_numV) hD g0 ?_ ?_
    · rintro i x H2 H2' Kt hi e2 _ ⟨rfl, ex⟩ ⟨ys, hys⟩ kt
      obtain ⟨hil, rfl⟩ := nV_at ex
      obtain ⟨q, es, e1, hq1, hl1, hg1⟩ := hg l[i] (hlt _ (List.getElem_mem hil))
      refine ⟨rfl, _, rfl, p, _, _, rfl, hp, e2, fun J' G' wk' gm' g0' D2 hD2 => ?_⟩
      refine lcA wk' gm' (by rw [nV_len]; exact lt_sz (by omega)) (P := NumV K fun j => k (l.getD i 0) (l.getD j 0)) mono_numV monoD_numV hD2 (gm' _ _ g0' e2) ?_ ?_
      · rintro j x H3 H3' Kt' hj e3 _ ⟨rfl, ex'⟩ _ kt'
        obtain ⟨hjl, rfl⟩ := nV_at ex'
        obtain ⟨y, e4, hy⟩ := hg1 l[j] (hlt _ (List.getElem_mem hjl))
        refine ⟨rfl, _, rfl, _, rfl, pr, rs, _, _, rfl, rfl, Evl.ex_t (e2.trans e3) hpr, at_some e1, _, rfl, q, es, _, _, rfl, rfl, Evl.ex_t (e2.trans e3) hq1, at_some e4, kt' y _ (Evl.Ex.refl _) ?_⟩
        show Num K _ _ (k (l.getD i 0) (l.getD j 0))
        rw [getD_at hil, getD_at hjl]
        exact (Frac.ex hy (e2.trans e3)).num (hz _ _ (hlt _ (List.getElem_mem hil)) (hlt _ (List.getElem_mem hjl))) (by decide)
      · intro H5 es' e5 h5 hl5 ha5
        exact kt _ H5 e5 (nrow_new hys (Evl.Ex.refl _) hD2 h5 (by rw [hl5, nV_len]) ha5)
    · intro H5 es' e5 h5 hl5 ha5
      exact kk _ H5 e5 (raw_of h5 (by rw [hl5, nV_len]) ha5)
theorem rat_num (r : Rat) : (r.num : Rat) = r * ((r.den : Int) : Rat) := by
  have h := Mth.rat_of r
  have h0 := Mth.den0 r
  grind
def spTurnR (K : PySem.W.Frag) : Sp := fun vs H Q _ => ∃ (v : V) (n : Nat) (k : Nat → Nat → Rat), vs = [v] ∧ n ≤ 12 ∧ TRows K H v n k ∧ (∀ i j, i < n → j < n → Mth.Sz 8000 (k i j)) ∧
  ∀ w H', Ex H H' → RawRows K H' w n (fun i j => (if i = j then 1 else 0) - k i j) → Q w H'
theorem sc_turnR : FnScope ["rows", "size", "i", "j"] ["rows"] (C8.fnScope (top 41)) := C8.fnScope_by (by decide +kernel)
theorem cal_turnR (B : Bt mg) (D : DD K mg "turned_rows" 41) : C8.Cal P w K mg base 1 "turned_rows" (spTurnR K) [] := by
  refine cal_mk D sc_turnR (fun _ _ _ _ _ _ us hl => match us, hl with | [_], _ => rfl) (fun vs H Q E h => ?_) (fun f cdv A outer s H vs Q E hr h => ?_)
  · obtain ⟨v, n, k, rfl, _⟩ := h; rfl
  · obtain ⟨v, n, k, rfl, hn, hr, hz, kk⟩ := h
    have nd := sc_turnR.nd
    refine ⟨_, (pss_cons (pset 1 nd (pe_callB (call_lenK K) (by rfl) B.len PySem.boot_len (pa_cons (pv 0) pa_nil)))
    (pss_one (ps_ret (pe_lc (own := [("i", 2)]) rfl nd (pi_range1 (by rfl) B.range (pa_cons (pv 1) pa_nil)) (blkOk_by (own := [("i", 2)]) (N := ["rows", "size", "i", "j"]) (by kernel_rfl)) (fun _ _ _ _ _ => (pgn 2 nd)) (fun _ _ _ _ _ => pts_nil) (fun _ _ _ _ _ => (pe_lc (own := [("j", 3)]) rfl nd (pi_range1 (by rfl) B.range (pa_cons (pv 1) pa_nil)) (blkOk_by (own := [("j", 3)]) (N := ["rows", "size", "i", "j"]) (by kernel_rfl)) (fun _ _ _ _ _ => (pgn 3 nd)) (fun _ _ _ _ _ => pts_nil) (fun _ _ _ _ _ => (pe_tup (pa_cons (pe_op op_sub (pe_op op_mulW (pe_callTy call_int1 (by rfl) B.int PyProof.Rows.boot_int (pa_cons (pe_cmpR op_eq (pv 2) (pv 3) (nomark _)) pa_nil)) (pe_ix (ix_tupK K) (pe_ix (ix_tupK K) (pe_ix (ix_tupK K) (pv 0) (pv 2) (fun _ _ => rfl)) (pv 3) (fun _ _ => rfl)) pe_int (fun _ _ => rfl))) (pe_ix (ix_tupK K) (pe_ix (ix_tupK K) (pe_ix (ix_tupK K) (pv 0) (pv 2) (fun _ _ => rfl)) (pv 3) (fun _ _ => rfl)) pe_int (fun _ _ => rfl))) (pa_cons (pe_ix (ix_tupK K) (pe_ix (ix_tupK K) (pe_ix (ix_tupK K) (pv 0) (pv 2) (fun _ _ => rfl)) (pv 3) (fun _ _ => rfl)) pe_int (fun _ _ => rfl)) pa_nil)))))))))), ?_⟩
    obtain ⟨pr, rs, rfl, hpr, hlr, hg⟩ := hr.get
    subst hlr
    refine ⟨_, rfl, pr, rs, rfl, .inr hpr, _, rfl, _, rfl, by omega, by omega, fun D hD => ?_⟩
    refine lcA walk_rng gm_true (lt_sz (by omega)) (P := NRow K D (fun i => NumV K fun j => (if i = j then 1 else 0) - k i j) rs.length) (mono_nrow fun _ => mono_numV) (monoD_nrow fun _ => monoD_numV) hD True.intro ?_ ?_
    · rintro i x H2 H2' Kt hi e2 _ ⟨rfl, rfl⟩ ⟨ys, hys⟩ kt
      obtain ⟨q, es, e1, hq1, hl1, hg1⟩ := hg i hi
      refine ⟨rfl, _, rfl, _, rfl, by omega, by omega, fun D2 hD2 => ?_⟩
      refine lcA walk_rng gm_true (lt_sz (by omega)) (P := NumV K fun j => (if i = j then 1 else 0) - k i j) mono_numV monoD_numV hD2 True.intro ?_ ?_
      · rintro j x H3 H3' Kt' hj e3 _ ⟨rfl, rfl⟩ _ kt'
        obtain ⟨y, e4, py, rfl, hy⟩ := hg1 j hj
        have e23 := e2.trans e3
        have ha := Evl.ex_t e23 hpr
        have hb := Evl.ex_t e23 hq1
        have hc := Evl.ex_t e23 hy
        have hz' := hz i j hi hj
        have one : ((if decide (V.int (i : Nat) = V.int (j : Nat)) = true then (1 : Int) else 0)).natAbs < 2 ^ 1 := by split <;> decide
        refine ⟨rfl, _, rfl, _, rfl, rfl, .inr ⟨_, rfl, ?_⟩⟩
        refine ⟨_, rfl, _, rfl, pr, rs, _, _, rfl, rfl, ha, at_some e1, _, rfl, q, es, _, _, rfl, rfl, hb, at_some e4, py, _, 1, _, rfl, rfl, hc, rfl, _, _, rfl, rfl, wmul one hz'.den (by decide) (by decide) (by decide), ?_⟩
        refine ⟨_, rfl, _, rfl, pr, rs, _, _, rfl, rfl, ha, at_some e1, _, rfl, q, es, _, _, rfl, rfl, hb, at_some e4, py, _, 0, _, rfl, rfl, hc, rfl, _, _, rfl, rfl, ?_⟩
        refine ⟨_, rfl, _, rfl, pr, rs, _, _, rfl, rfl, ha, at_some e1, _, rfl, q, es, _, _, rfl, rfl, hb, at_some e4, py, _, 1, _, rfl, rfl, hc, rfl, ?_⟩
        refine ⟨by show 2 ≤ sizeLine; decide, fun pn hpn => kt' _ _ (Evl.Ex.new hpn) (.inr ⟨_, _, TupV.new, Mth.den_pos _, Mth.lt_mono hz'.den (by decide), ?_⟩)⟩
        symm
        refine Mth.fr_eq (by have := Mth.den_pos (k i j); omega) ?_
        have h0 := rat_num (k i j)
        show _ = ((if i = j then (1 : Rat) else 0) - k i j) * _
        by_cases e : i = j
        · subst e
          rw [decide_eq_true rfl, if_pos rfl, if_pos rfl, Rat.intCast_sub, Rat.intCast_mul, h0]
          grind
        · rw [decide_eq_false (fun z => e (by cases z; rfl)), if_neg Bool.false_ne_true, if_neg e, Rat.intCast_sub, Rat.intCast_mul, h0]
          grind
      · intro H5 es' e5 h5 hl5 ha5
        exact kt _ H5 e5 (nrow_new hys (Evl.Ex.refl _) hD2 h5 hl5 ha5)
    · intro H5 es' e5 h5 hl5 ha5
      exact kk _ H5 e5 (raw_of h5 hl5 ha5)
theorem at_app {P : Nat → V → Hp → Prop} {xs ys : List V} {H : Hp} (hx : At P xs H) (hy : At (fun i => P (xs.length + i)) ys H) : At P (xs ++ ys) H := fun i v q => by
  by_cases hi : i < xs.length
  · rw [List.getElem?_append_left hi] at q
    exact hx i v q
  · rw [List.getElem?_append_right (by omega)] at q
    have : P (xs.length + (i - xs.length)) v H := hy _ v q
    rw [show xs.length + (i - xs.length) = i by omega] at this
    exact this
theorem at_rep {P : Nat → V → Hp → Prop} {n : Nat} {x : V} {H : Hp} (h : ∀ i, i < n → P i x H) : At P (List.replicate n [x]).flatten H := fun i v q => by
  have e : ∀ n, (List.replicate n [x]).flatten = List.replicate n x := fun n => by
    induction n with
    | zero => rfl
    | succ n ih => rw [List.replicate_succ, List.flatten_cons, ih, List.replicate_succ]; rfl
  rw [e] at q
  obtain ⟨hi, ev⟩ := List.getElem?_eq_some_iff.mp q
  rw [List.getElem_replicate] at ev
  subst ev
  exact h i (by simpa using hi)
def beside (n : Nat) (k k' : Nat → Nat → Rat) : Nat → Nat → Rat := fun i j => if i < n then (if j < n then k i j else 0) else (if j < n then 0 else k' (i - n) (j - n))
def spBeside (K : PySem.W.Frag) : Sp := fun vs H Q _ => ∃ (v v' : V) (n n' : Nat) (k k' : Nat → Nat → Rat), vs = [v, v'] ∧ n + n' ≤ 12 ∧ TRows K H v n k ∧ TRows K H v' n' k' ∧ (∀ i j, i < n → j < n → Mth.Sz 8000 (k i j)) ∧ (∀ i j, i < n' → j < n' → Mth.Sz 8000 (k' i j)) ∧
  ∀ w H', Ex H H' → RawRows K H' w (n + n') (beside n k k') → Q w H'
theorem sc_beside : FnScope ["one", "other", "size", "first", "row"] ["one", "other"] (C8.fnScope (top 42)) := C8.fnScope_by (by decide +kernel)
theorem cal_beside (B : Bt mg) (D : DD K mg "beside_rows" 42) (g_MOST_PLACES : ∃ u, mg "MOST_PLACES" = some u ∧ RelV (.int 12) u) {z : Addr} (Z : ZeroC K mg z) : C8.Cal P w K mg base 1 "beside_rows" (spBeside K) [] := by
  refine cal_mk D sc_beside (fun _ _ _ _ _ _ us hl => match us, hl with | [_, _], _ => rfl) (fun vs H Q E h => ?_) (fun f cdv A outer s H vs Q E hr h => ?_)
  · obtain ⟨v, v', n, n', k, k', rfl, _⟩ := h; rfl
  · obtain ⟨v, v', n, n', k, k', rfl, hn, hr, hr', hz, hz', kk⟩ := h
    have nd := sc_beside.nd
    refine ⟨_, (pss_cons (pset 2 nd (pe_op op_add (pe_callB (call_lenK K) (by rfl) B.len PySem.boot_len (pa_cons (pv 0) pa_nil)) (pe_callB (call_lenK K) (by rfl) B.len PySem.boot_len (pa_cons (pv 1) pa_nil))))
    (pss_cons (ps_if (pt_cmpR op_gt (pv 2) (C8.pe_gc (by rfl) g_MOST_PLACES) (nomark _)) (pss_one ps_never) pss_nil)
    (pss_cons (ps_setLc (i := 3) (own := [("row", 4)]) rfl nd rfl rfl (sw_true rfl rfl rfl (by decide +kernel)) (pi_tupK K (pv 0)) (blkOk_by (own := [("row", 4)]) (N := ["one", "other", "size", "first", "row"]) (by kernel_rfl)) (fun _ _ _ _ _ => (pgn 4 nd)) (fun _ _ _ _ _ => pts_nil) (fun _ _ _ _ _ => (pe_op op_cat (pe_callTy (call_lstK K) (by rfl) B.list PyProof.Rows.boot_list (pa_cons (pv 4) pa_nil)) (pe_op op_rep (pe_lst (pa_cons (C8.pe_gc (by rfl) Z.glob) pa_nil)) (pe_callB (call_lenK K) (by rfl) B.len PySem.boot_len (pa_cons (pv 1) pa_nil))))))
    (pss_one (ps_ret (pe_op op_cat (pv 3) (pe_lc (own := [("row", 4)]) rfl nd (pi_tupK K (pv 1)) (blkOk_by (own := [("row", 4)]) (N := ["one", "other", "size", "first", "row"]) (by kernel_rfl)) (fun _ _ _ _ _ => (pgn 4 nd)) (fun _ _ _ _ _ => pts_nil) (fun _ _ _ _ _ => (pe_op op_cat (pe_op op_rep (pe_lst (pa_cons (C8.pe_gc (by rfl) Z.glob) pa_nil)) (pe_callB (call_lenK K) (by rfl) B.len PySem.boot_len (pa_cons (pv 0) pa_nil))) (pe_callTy (call_lstK K) (by rfl) B.list PyProof.Rows.boot_list (pa_cons (pv 4) pa_nil))))))))))), ?_⟩
    obtain ⟨pr, rs, rfl, hpr, hlr, hg⟩ := hr.get
    obtain ⟨pr', rs', rfl, hpr', hlr', hg'⟩ := hr'.get
    subst hlr hlr'
    refine ⟨_, rfl, pr, rs, rfl, .inr hpr, _, rfl, pr', rs', rfl, .inr hpr', _, _, rfl, rfl, _, rfl, _, _, rfl, rfl, _, rfl, ?_⟩
    rw [decide_eq_false (by omega : ¬ ((rs.length : Int) + (rs'.length : Int)) > 12)]
    refine iteF ⟨_, rfl, pr, rfl, ⟨_, hpr⟩, fun D hD => ?_⟩
    refine lcA walk_tup (fun _ _ g e => Evl.ex_t e g) (lt_sz (by omega)) (P := NRow K D (fun i => NumV K (beside rs.length k k' i)) (rs.length + rs'.length)) (mono_nrow fun _ => mono_numV) (monoD_nrow fun _ => monoD_numV) hD hpr ?_ ?_
    · rintro i x H2 H2' Kt hi e2 _ ⟨rfl, ex⟩ ⟨ys, hys⟩ kt
      obtain ⟨q, es, e1, hq1, hl1, hg1⟩ := hg i hi
      rw [e1] at ex
      cases ex
      refine ⟨rfl, _, rfl, q, es, rfl, .inr (Evl.ex_t e2 hq1), fun l1 hl1' => ?_⟩
      have x1 := Evl.Ex.new (o := .lst es) hl1'
      refine ⟨by show 1 ≤ sizeLine; decide, fun l2 hl2 => ?_⟩
      have x2 := Evl.Ex.new (o := .lst [.ref z]) hl2
      refine ⟨_, rfl, pr', rs', rfl, .inr (Evl.ex_t (e2.trans (x1.trans x2)) hpr'), l2, _, _, rfl, rfl, upd_same, by omega, by omega, le_sz (by simp; omega), fun l3 hl3 => ?_⟩
      have x3 := Evl.Ex.new (o := .lst (List.replicate ((rs'.length : Int).toNat) [V.ref z]).flatten) hl3
      have hs3 : (List.replicate ((rs'.length : Int).toNat) [V.ref z]).flatten.length = rs'.length := by simp
      refine ⟨l1, l3, _, _, rfl, rfl, x3 _ _ (x2 _ _ upd_same), upd_same, le_sz (by rw [hs3]; omega), fun l4 hl4 => ?_⟩
      have x4 := Evl.Ex.new (o := .lst (es ++ (List.replicate ((rs'.length : Int).toNat) [V.ref z]).flatten)) hl4
      have xall := ((x1.trans x2).trans x3).trans x4
      refine kt _ _ xall (nrow_new hys ((x1.trans x2).trans x3) hl4 upd_same (by rw [List.length_append, hs3, hl1]) (at_app (fun j v q => ?_) (at_rep fun j hj => ?_)))
      · have hj := (List.getElem?_eq_some_iff.mp q).1
        obtain ⟨y, e4, hy⟩ := hg1 j (by omega)
        rw [e4] at q
        cases q
        show Num K _ _ (beside _ _ _ _ _)
        unfold beside
        rw [if_pos hi, if_pos (by omega)]
        exact (Frac.ex hy (e2.trans xall)).num (hz i j hi (by omega)) (by decide)
      · show Num K _ _ (beside _ _ _ _ _)
        unfold beside
        rw [if_pos hi, if_neg (by omega)]
        exact Z.num _
    · intro H5 es1 e5 h5 hl5 ha5
      refine ⟨_, rfl, _, rfl, pr', rfl, ⟨_, Evl.ex_t e5 hpr'⟩, fun D' hD' => ?_⟩
      refine lcA walk_tup (fun _ _ g e => Evl.ex_t e g) (lt_sz (by omega)) (P := NRow K D' (fun i => NumV K (beside rs.length k k' (rs.length + i))) (rs.length + rs'.length)) (mono_nrow fun _ => mono_numV) (monoD_nrow fun _ => monoD_numV) hD' (Evl.ex_t e5 hpr') ?_ ?_
      · rintro i x H2 H2' Kt hi e2' _ ⟨rfl, ex⟩ ⟨ys, hys⟩ kt
        have e2 := e5.trans e2'
        obtain ⟨q, es, e1, hq1, hl1, hg1⟩ := hg' i hi
        rw [e1] at ex
        cases ex
        refine ⟨rfl, by show 1 ≤ sizeLine; decide, fun l2 hl2 => ?_⟩
        have x2 := Evl.Ex.new (o := .lst [.ref z]) hl2
        refine ⟨_, rfl, pr, rs, rfl, .inr (Evl.ex_t (e2.trans x2) hpr), l2, _, _, rfl, rfl, upd_same, by omega, by omega, le_sz (by simp; omega), fun l3 hl3 => ?_⟩
        have x3 := Evl.Ex.new (o := .lst (List.replicate ((rs.length : Int).toNat) [V.ref z]).flatten) hl3
        have hs3 : (List.replicate ((rs.length : Int).toNat) [V.ref z]).flatten.length = rs.length := by simp
        refine ⟨_, rfl, q, es, rfl, .inr (Evl.ex_t (e2.trans (x2.trans x3)) hq1), fun l1 hl1' => ?_⟩
        have x1 := Evl.Ex.new (o := .lst es) hl1'
        refine ⟨l3, l1, _, _, rfl, rfl, x1 _ _ upd_same, upd_same, le_sz (by rw [hs3]; omega), fun l4 hl4 => ?_⟩
        have x4 := Evl.Ex.new (o := .lst ((List.replicate ((rs.length : Int).toNat) [V.ref z]).flatten ++ es)) hl4
        have xall := ((x2.trans x3).trans x1).trans x4
        refine kt _ _ xall (nrow_new hys ((x2.trans x3).trans x1) hl4 upd_same (by rw [List.length_append, hs3, hl1]) (at_app (at_rep fun j hj => ?_) (fun j v q => ?_)))
        · show Num K _ _ (beside _ _ _ _ _)
          unfold beside
          rw [if_neg (by omega), if_pos (by omega)]
          exact Z.num _
        · have hj := (List.getElem?_eq_some_iff.mp q).1
          obtain ⟨y, e4, hy⟩ := hg1 j (by omega)
          rw [e4] at q
          cases q
          show Num K _ _ (beside _ _ _ _ _)
          unfold beside
          rw [hs3, if_neg (by omega), if_neg (by omega), Nat.add_sub_cancel_left, Nat.add_sub_cancel_left]
          exact (Frac.ex hy (e2.trans xall)).num (hz' i j hi (by omega)) (by decide)
      · intro H6 es2 e6 h6 hl6 ha6
        refine ⟨D, D', _, _, rfl, rfl, e6 _ _ h5, h6, le_sz (by omega), fun l5 hl5' => ?_⟩
        have x5 := Evl.Ex.new (o := .lst (es1 ++ es2)) hl5'
        refine kk _ _ ((e5.trans e6).trans x5) ⟨l5, _, rfl, .inl (SqL.of upd_same), by rw [List.length_append, hl5, hl6], at_app (fun i v q => ?_) (fun i v q => ?_)⟩
        · obtain ⟨_, r⟩ := mono_nrow (fun _ => mono_numV) _ _ _ _ (ha5 i v q) (e6.trans x5)
          obtain ⟨p3, es3, rfl, h1, h2, h3⟩ := r
          exact ⟨p3, es3, rfl, .inl h1, h2, h3⟩
        · obtain ⟨_, r⟩ := mono_nrow (fun _ => mono_numV) _ _ _ _ (ha6 i v q) x5
          obtain ⟨p3, es3, rfl, h1, h2, h3⟩ := r
          rw [hl5]
          exact ⟨p3, es3, rfl, .inl h1, h2, h3⟩
end
end K18
end
section
set_option Elab.async false
set_option linter.all false
set_option maxRecDepth 100000
set_option maxHeartbeats 4000000
namespace K18
open PySem PySem.Spec PyProof.Rows L2
structure TabW (K : PySem.W.Frag) (C : Addr) : Prop where
  tc : TabC K C
  nr : NoAttr K C "rows"
  ns : NoAttr K C "size"
theorem TabW.cl {K : PySem.W.Frag} {C : Addr} (W : TabW K C) : Cls K C := W.tc.isi.cl
def MD (K : PySem.W.Frag) (C : Addr) (m qual : Str) (j : Nat) : Prop := ∃ f fd, Cls K C ∧ Meth K C m f ∧ C8.Fun K m qual (mS j) f fd ∧ fd.defaults = .none
def MkD (K : PySem.W.Frag) (mg : Str → Option Value) (C : Addr) : Prop := ∃ f fd, Mk K C f ∧ mg "Table" = some (.ref C) ∧ C8.Fun K "__init__" "Table.__init__" (mS 0) f fd ∧ fd.defaults = .none
def ClsD (K : PySem.W.Frag) (C : Addr) (m qual : Str) (j : Nat) (mc : Value) (p g : Addr) : Prop := ∃ fd, C8.Fun K m qual (mS j) g fd ∧ fd.defaults = .none
section
variable {P : Program} {w : World} {K : PySem.W.Frag} {mg : Str → Option Value} {base : Heap}
theorem met_mk {C : Addr} {m qual : Str} {j k : Nat} {N ps : List Str} {sp : Sp} (D : MD K C m qual j) (S : FnScope N ps (C8.fnScope (mS j)))
    (hb : ∀ (kV doc pm : Value) (an : Option Addr) (cdv ct : Value) (us : List Value), us.length = ps.length → bindArgs (PySem.W.fnOf m qual (C8.fnArgs (mS j)) (C8.fnBody (mS j)) (C8.fnScope (mS j)) .none kV doc pm an cdv ct) ⟨us, []⟩ = pure (ps.zip us))
    (len : ∀ vs H Q E, sp vs H Q E → vs.length = ps.length)
    (hbody : ∀ (f : Addr) (cdv : Value) (A : Around) (outer : List Env) (s : Shared) (H : Hp) (vs : List V) (Q : VK) (E : XK), Room k (A.deeper (envOfC qual (C8.fnScope (mS j)) s.heap.objs.size f cdv)) → sp vs H Q E →
      ∃ t, PSs (cxOf C8.CX0 P w K mg base N qual (C8.fnScope (mS j)) f cdv A outer s H E).nox (C8.fnBody (mS j)) t ∧ t { nx := fun _ H' => Q .non H', rt := Q } (start N vs) H) : C8.Met P w K mg base (k + 1) C m sp [] := by
  obtain ⟨f, fd, c, me, F, df⟩ := D
  exact C8.met0 c me F (F.binds df hb) S len fun cdv A outer s H vs Q E hr h => hbody f cdv A outer s H vs Q E hr h
theorem mak_mk {C : Addr} {k : Nat} {N ps : List Str} {sp : Sp} (D : MkD K mg C) (S : FnScope N ps (C8.fnScope (mS 0)))
    (hb : ∀ (kV doc pm : Value) (an : Option Addr) (cdv ct : Value) (us : List Value), us.length = ps.length → bindArgs (PySem.W.fnOf "__init__" "Table.__init__" (C8.fnArgs (mS 0)) (C8.fnBody (mS 0)) (C8.fnScope (mS 0)) .none kV doc pm an cdv ct) ⟨us, []⟩ = pure (ps.zip us))
    (len : ∀ vs H Q E, sp vs H Q E → vs.length = ps.length)
    (hbody : ∀ (f : Addr) (cdv : Value) (A : Around) (outer : List Env) (s : Shared) (H : Hp) (vs : List V) (Q : VK) (E : XK), Room k (A.deeper (envOfC "Table.__init__" (C8.fnScope (mS 0)) s.heap.objs.size f cdv)) → sp vs H Q E →
      ∃ t, PSs (cxOf C8.CX0 P w K mg base N "Table.__init__" (C8.fnScope (mS 0)) f cdv A outer s H E).nox (C8.fnBody (mS 0)) t ∧ t { nx := fun _ H' => Q .non H', rt := Q } (start N vs) H) : C8.Mak P w K mg base (k + 1) "Table" C sp [] := by
  obtain ⟨f, fd, M, hm, F, df⟩ := D
  exact C8.mak0 M hm F (F.binds df hb) .nil S len fun cdv A outer s H vs Q E hr h => hbody f cdv A outer s H vs Q E hr h
theorem cls_mk {C : Addr} {m qual : Str} {j k : Nat} {mc : Value} {p g : Addr} {N ps : List Str} {sp : Sp} (D : ClsD K C m qual j mc p g) (S : FnScope N ps (C8.fnScope (mS j)))
    (hb : ∀ (kV doc pm : Value) (an : Option Addr) (cdv ct : Value) (us : List Value), us.length = ps.length → bindArgs (PySem.W.fnOf m qual (C8.fnArgs (mS j)) (C8.fnBody (mS j)) (C8.fnScope (mS j)) .none kV doc pm an cdv ct) ⟨us, []⟩ = pure (ps.zip us))
    (len : ∀ vs H Q E, sp vs H Q E → vs.length = ps.length)
    (hbody : ∀ (f : Addr) (cdv : Value) (A : Around) (outer : List Env) (s : Shared) (H : Hp) (vs : List V) (Q : VK) (E : XK), Room k (A.deeper (envOfC qual (C8.fnScope (mS j)) s.heap.objs.size f cdv)) → sp vs H Q E →
      ∃ t, PSs (cxOf C8.CX0 P w K mg base N qual (C8.fnScope (mS j)) f cdv A outer s H E).nox (C8.fnBody (mS j)) t ∧ t { nx := fun _ H' => Q .non H', rt := Q } (start N vs) H) : FnR P w K mg base C8.CX0 (k + 1) g sp := by
  obtain ⟨fd, F, df⟩ := D
  have := (C8.fn0 (k := k) (sp := sp) F S len fun cdv A outer s H vs Q E hr h => hbody g cdv A outer s H vs Q E hr h : FnOk P w K mg base C8.CX0 (k + 1) g fd ps sp).raw (F.binds df hb) .nil
  exact this.imp fun vs H Q E h => by rw [List.append_nil]; exact h
/-! ### row_of -/
def spRowOf (K : PySem.W.Frag) : Sp := fun vs H Q _ => ∃ (row : V) (n : Nat) (xs : List V) (f : Nat → Rat), vs = [row, .int n] ∧ SeqV K H row xs ∧ xs.length = n ∧ n ≤ 12 ∧ At (NumR K f) xs H ∧
  ∀ v ys H', Ex H H' → TupV K H' v ys → ys.length = n → At (FracR K f) ys H' → Q v H'
theorem sc_rowOf : FnScope ["row", "size"] ["row", "size"] (C8.fnScope (top 19)) := C8.fnScope_by (by decide +kernel)
theorem cal_rowOf (D : DD K mg "row_of" 19) (c_row_where : C8.Cal P w K mg base 5 "row_where" (spRowW K) []) : C8.Cal P w K mg base 6 "row_of" (spRowOf K) [] := by
  refine cal_mk D sc_rowOf (fun _ _ _ _ _ _ us hl => match us, hl with | [_, _], _ => rfl) (fun vs H Q E h => ?_) (fun f cdv A outer s H vs Q E hr h => ?_)
  · obtain ⟨row, n, xs, f, rfl, _⟩ := h; rfl
  · obtain ⟨row, n, xs, f, rfl, hq, hl, hn, hx, k⟩ := h
    have nd := sc_rowOf.nd
    refine ⟨_, (pss_one (ps_ret (C8.pe_c c_row_where hr (by decide) (by rfl) (pa_cons (pv 0) (pa_cons (pv 1) (pa_cons (pe_tup (pa_cons (pe_un un_neg pe_int) (pa_cons pe_int (pa_cons pe_int pa_nil)))) pa_nil)))))), ?_⟩
    refine ⟨_, rfl, _, rfl, _, rfl, (by show 3 ≤ sizeLine; decide), fun p0 hp0 => ?_⟩
    have e0 := Evl.Ex.new (o := .tup [.int (-1), .int 0, .int 1]) hp0
    exact ⟨row, n, _, xs, f, rfl, hq.ex e0, hl, hn, TupV.new, hx.ex mono_num e0, fun v ys H' e h1 h2 h3 => k v ys H' (e0.trans e) h1 h2 h3⟩
/-! ### Table -/
def spInit (K : PySem.W.Frag) : Sp := fun vs H Q _ => ∃ (a C dx : Addr) (v : V) (n : Nat) (k : Nat → Nat → Rat), vs = [.ref a, v] ∧ H a = some (.ins C dx []) ∧ TabW K C ∧ n ≤ 12 ∧ RawRows K H v n k ∧
  ∀ rv H', Ex H H' → TRows K H' rv n k → Q .non (upd H' a (.ins C dx [("rows", rv), ("size", .int n)]))
theorem TRows.exI {H H' : Hp} {a C dx : Addr} {fs : List (Str × V)} {v : V} {n : Nat} {k : Nat → Nat → Rat} (ha : H a = some (.ins C dx fs)) (e : ∀ b o, b ≠ a → H b = some o → H' b = some o) (h : TRows K H v n k) : TRows K H' v n k := by
  have tt : ∀ {p : Addr} {xs : List V}, SqT K H p xs → SqT K H' p xs := fun {p xs} h => by
    rcases h with (h | ⟨o, h⟩) | h
    · exact .inl (.inl (e _ _ (fun z => by rw [z, ha] at h; cases h) h))
    · exact .inl (.inr ⟨o, e _ _ (fun z => by rw [z, ha] at h; cases h) h⟩)
    · exact .inr h
  obtain ⟨rs, ⟨p, rfl, ht⟩, hl, hx⟩ := h
  refine ⟨rs, ⟨p, rfl, tt ht⟩, hl, fun i v q => ?_⟩
  obtain ⟨es, ⟨p', rfl, ht'⟩, hl', hx'⟩ := hx i v q
  refine ⟨es, ⟨p', rfl, tt ht'⟩, hl', fun j w q => ?_⟩
  obtain ⟨p2, rfl, h2⟩ := hx' j w q
  exact ⟨p2, rfl, tt h2⟩
theorem sc_init : FnScope ["self", "rows"] ["self", "rows"] (C8.fnScope (mS 0)) := C8.fnScope_by (by decide +kernel)
theorem mak_init {C : Addr} (W : TabW K C) (B : Bt mg) (D : MkD K mg C) (c_table_rows : C8.Cal P w K mg base 3 "table_rows" (spTabRows K) []) : C8.Mak P w K mg base 4 "Table" C (spInit K) [] := by
  refine mak_mk D sc_init (fun _ _ _ _ _ _ us hl => match us, hl with | [_, _], _ => rfl) (fun vs H Q E h => ?_) (fun f cdv A outer s H vs Q E hr h => ?_)
  · obtain ⟨a, C, dx, v, n, k, rfl, _⟩ := h; rfl
  · obtain ⟨a, C', dx, v, n, k, rfl, ha, W', hn, hw, kk⟩ := h
    have nd := sc_init.nd
    refine ⟨_, (pss_cons (ps_fld (pv 0) (C8.pe_c c_table_rows hr (by decide) (by rfl) (pa_cons (pv 1) pa_nil)) (by rfl))
    (pss_one (ps_fld (pv 0) (pe_callB (call_lenK K) (by rfl) B.len PySem.boot_len (pa_cons (pe_fldK K (pv 0) (by rfl)) pa_nil)) (by rfl)))), ?_⟩
    refine ⟨_, rfl, v, n, k, rfl, hn, hw, fun rv H1 e1 hrv => ⟨_, rfl, a, C', dx, [], rfl, e1 _ _ ha, W'.cl, W'.nr, by decide, ?_⟩⟩
    obtain ⟨rs, ⟨p, rfl, ht⟩, hl, hx⟩ := id hrv
    have up : ∀ b o, b ≠ a → H1 b = some o → (upd H1 a (.ins C' dx (putF "rows" (.ref p) []))) b = some o := fun b o hb q => by rw [upd_ne hb]; exact q
    have h2 := TRows.exI (e1 _ _ ha) up hrv
    obtain ⟨rs2, ⟨p2, e2, ht2⟩, hl2, _⟩ := id h2
    cases e2
    refine ⟨_, rfl, a, C', dx, [("rows", .ref p)], .ref p, rfl, upd_same, W'.cl, W'.nr, rfl, p, rs2, rfl, .inr ht2, ?_⟩
    refine ⟨_, rfl, a, C', dx, [("rows", .ref p)], rfl, upd_same, W'.cl, W'.ns, by show 1 < 1000; decide, ?_⟩
    rw [hl2]
    have := kk (.ref p) H1 e1 hrv
    have ee : upd (upd H1 a (.ins C' dx (putF "rows" (.ref p) []))) a (.ins C' dx (putF "size" (.int (n : Nat)) [("rows", .ref p)])) = upd H1 a (.ins C' dx [("rows", .ref p), ("size", .int n)]) := by
      funext b
      by_cases hb : b = a
      · rw [hb, upd_same, upd_same]; rfl
      · rw [upd_ne hb, upd_ne hb, upd_ne hb]
    rw [ee]
    exact this
end
end K18
end
section
set_option Elab.async false
set_option linter.all false
set_option maxRecDepth 100000
set_option maxHeartbeats 4000000
namespace K18
open PySem PySem.Spec PyProof.Rows L2
section
variable {P : Program} {w : World} {K : PySem.W.Frag} {mg : Str → Option Value} {base : Heap}
/-- Table(rows), as it is answered -/
theorem mk_tab {C : Addr} (W : TabW K C) {H1 : Hp} {v : V} {n : Nat} {k : Nat → Nat → Rat} {Q : VK} (hn : n ≤ 12) (hr : RawRows K H1 v n k) (kont : ∀ t H', Ex H1 H' → Tab K C H' t n k → Q t H') :
    ∀ x dx, H1 x = none → H1 dx = none → dx ≠ x → spInit K (.ref x :: ([v] ++ [])) (upd (upd H1 dx (.own x)) x (.ins C dx [])) (fun v H3 => v = .non ∧ Q (.ref x) H3) C8.E0 := by
  intro x dx hx hdx hne
  have e : Ex H1 (upd (upd H1 dx (.own x)) x (.ins C dx [])) := (Evl.Ex.new hdx).mut hx
  refine ⟨x, C, dx, v, n, k, rfl, upd_same, W, hn, hr.ex e, fun rv H' e' hrv => ⟨rfl, kont _ _ ((e.trans e').mut hx) ?_⟩⟩
  exact ⟨x, dx, rv, rfl, upd_same, TRows.exI (e' _ _ upd_same) (fun b o hb q => by rw [upd_ne hb]; exact q) hrv⟩
def spMoved (K : PySem.W.Frag) (C : Addr) : Sp := fun vs H Q _ => ∃ (v w : V) (n : Nat) (k : Nat → Nat → Rat) (l : List Nat), vs = [v, w] ∧ Tab K C H v n k ∧ n ≤ 12 ∧ SeqV K H w (nV l) ∧ LotOk l n ∧ l.length = n ∧ (∀ i j, i < n → j < n → Mth.Sz 8000 (k i j)) ∧
  ∀ w H', Ex H H' → Tab K C H' w n (fun i j => k (l.getD i 0) (l.getD j 0)) → Q w H'
theorem sc_moved : FnScope ["self", "order"] ["self", "order"] (C8.fnScope (mS 5)) := C8.fnScope_by (by decide +kernel)
theorem met_moved {C : Addr} (W : TabW K C) (B : Bt mg) (D : MD K C "moved" "Table.moved" 5) (c_lot_of : C8.Cal P w K mg base 4 "lot_of" (spLot K) []) (c_t___init : C8.Mak P w K mg base 4 "Table" C (spInit K) []) (c_picked : C8.Cal P w K mg base 1 "picked" (spPicked K) []) : C8.Met P w K mg base 6 C "moved" (spMoved K C) [] := by
  refine met_mk D sc_moved (fun _ _ _ _ _ _ us hl => match us, hl with | [_, _], _ => rfl) (fun vs H Q E h => ?_) (fun f cdv A outer s H vs Q E hr h => ?_)
  · obtain ⟨v, w, n, k, l, rfl, _⟩ := h; rfl
  · obtain ⟨v, w, n, k, l, rfl, ⟨p, dx, rv, rfl, hp, hrv⟩, hn, ⟨q, rfl, hq⟩, ok, hl, hz, kk⟩ := h
    have nd := sc_moved.nd
    refine ⟨_, (pss_cons (ps_if (PW.pt (pw_or (pt_not (pt_val (pe_callB (call_isiTK K) (by rfl) B.isinstance PyProof.Rows.boot_isinstance (pa_cons (pv 1) (pa_cons (pe_tup (pa_cons (pe_bltn (v := .ty "list") (by rfl) B.list PyProof.Rows.boot_list rfl) (pa_cons (pe_bltn (v := .ty "tuple") (by rfl) B.tuple PyProof.Rows.boot_tuple rfl) pa_nil))) pa_nil))))) (pw_or1 (pt_cmpR op_ne (pe_callB (call_lenK K) (by rfl) B.len PySem.boot_len (pa_cons (pv 1) pa_nil)) (pe_fldK K (pv 0) (by rfl)) (nomark _))))) (pss_one ps_never) pss_nil)
    (pss_cons (ps_expr (C8.pe_c c_lot_of hr (by decide) (by rfl) (pa_cons (pv 1) (pa_cons (pe_fldK K (pv 0) (by rfl)) pa_nil))))
    (pss_one (ps_ret (C8.pe_mk c_t___init hr (by decide) (by rfl) (pa_cons (C8.pe_c c_picked hr (by decide) (by rfl) (pa_cons (pe_fldK K (pv 0) (by rfl)) (pa_cons (pv 1) pa_nil))) pa_nil)))))), ?_⟩
    refine ⟨_, rfl, (by show 2 ≤ sizeLine; decide), fun p0 hp0 => ?_⟩
    have e0 := Evl.Ex.new (o := .tup [.ty "list", .ty "tuple"]) hp0
    obtain ⟨ty0, hty0, kt0⟩ := isi_ty hq hp0
    refine ⟨_, p0, _, ty0, [.type "list", .type "tuple"], true, rfl, upd_same, cls_lt, hty0, kt0, true, rfl, ?_⟩
    refine iteF ⟨_, rfl, q, _, rfl, (hq.imp (Evl.ex_l e0) (Evl.ex_t e0)), _, rfl, p, C, dx, _, _, rfl, e0 _ _ hp, W.cl, W.ns, rfl, rfl, _, rfl, ?_⟩
    have hne : (!decide (V.int ((nV l).length : Int) = V.int (n : Nat))) = false := by rw [nV_len, hl]; simp
    rw [hne]
    refine iteF ⟨_, rfl, _, rfl, p, C, dx, _, _, rfl, e0 _ _ hp, W.cl, W.ns, rfl, _, n, l, rfl, hn, ⟨q, rfl, hq.imp (Evl.ex_l e0) (Evl.ex_t e0)⟩, ok, fun _ l' H1 e1 _ _ _ => ?_⟩
    have e01 := e0.trans e1
    refine ⟨_, rfl, p, C, dx, _, _, rfl, e01 _ _ hp, W.cl, W.nr, rfl, _, rfl, _, _, n, k, l, rfl, hrv.ex e01, ⟨q, rfl, hq.imp (Evl.ex_l e01) (Evl.ex_t e01)⟩, by omega, ok.lt, hz, fun w2 H2 e2 hw2 => ?_⟩
    rw [hl] at hw2
    exact mk_tab W hn hw2 fun t H' e ht => kk t H' (e01.trans (e2.trans e)) ht
def spTrans (K : PySem.W.Frag) (C : Addr) : Sp := fun vs H Q _ => ∃ (v : V) (n : Nat) (k : Nat → Nat → Rat), vs = [v] ∧ Tab K C H v n k ∧ n ≤ 12 ∧ (∀ i j, i < n → j < n → Mth.Sz 8000 (k i j)) ∧
  ∀ w H', Ex H H' → Tab K C H' w n (fun i j => k j i) → Q w H'
theorem sc_trans : FnScope ["self", "i", "j"] ["self"] (C8.fnScope (mS 6)) := C8.fnScope_by (by decide +kernel)
theorem met_trans {C : Addr} (W : TabW K C) (B : Bt mg) (D : MD K C "transposed" "Table.transposed" 6) (c_t___init : C8.Mak P w K mg base 4 "Table" C (spInit K) []) : C8.Met P w K mg base 6 C "transposed" (spTrans K C) [] := by
  refine met_mk D sc_trans (fun _ _ _ _ _ _ us hl => match us, hl with | [_], _ => rfl) (fun vs H Q E h => ?_) (fun f cdv A outer s H vs Q E hr h => ?_)
  · obtain ⟨v, n, k, rfl, _⟩ := h; rfl
  · obtain ⟨v, n, k, rfl, ⟨p, dx, rv, rfl, hp, hrv⟩, hn, hz, kk⟩ := h
    have nd := sc_trans.nd
    refine ⟨_, (pss_one (ps_ret (C8.pe_mk c_t___init hr (by decide) (by rfl) (pa_cons (pe_lc (own := [("i", 1)]) rfl nd (pi_range1 (by rfl) B.range (pa_cons (pe_fldK K (pv 0) (by rfl)) pa_nil)) (blkOk_by (own := [("i", 1)]) (N := ["self", "i", "j"]) (by kernel_rfl)) (fun _ _ _ _ _ => (pgn 1 nd)) (fun _ _ _ _ _ => pts_nil) (fun _ _ _ _ _ => (pe_lc (own := [("j", 2)]) rfl nd (pi_range1 (by rfl) B.range (pa_cons (pe_fldK K (pv 0) (by rfl)) pa_nil)) (blkOk_by (own := [("j", 2)]) (N := ["self", "i", "j"]) (by kernel_rfl)) (fun _ _ _ _ _ => (pgn 2 nd)) (fun _ _ _ _ _ => pts_nil) (fun _ _ _ _ _ => (pe_ix (ix_tupK K) (pe_ix (ix_tupK K) (pe_fldK K (pv 0) (by rfl)) (pv 2) (fun _ _ => rfl)) (pv 1) (fun _ _ => rfl)))))) pa_nil)))), ?_⟩
    obtain ⟨pr, rs, rfl, hpr, hlr, hg⟩ := hrv.get
    refine ⟨_, rfl, p, C, dx, _, _, rfl, hp, W.cl, W.ns, rfl, _, rfl, by omega, by omega, fun D hD => ?_⟩
    refine lcA walk_rng gm_true (lt_sz (by omega)) (P := NRow K D (fun i => NumV K fun j => k j i) n) (mono_nrow fun _ => mono_numV) (monoD_nrow fun _ => monoD_numV) hD True.intro ?_ ?_
    · rintro i x H2 H2' Kt hi e2 _ ⟨rfl, rfl⟩ ⟨ys, hys⟩ kt
      refine ⟨rfl, _, rfl, p, C, dx, _, _, rfl, e2 _ _ hp, W.cl, W.ns, rfl, _, rfl, by omega, by omega, fun D2 hD2 => ?_⟩
      refine lcA walk_rng gm_true (lt_sz (by omega)) (P := NumV K fun j => k j i) mono_numV monoD_numV hD2 True.intro ?_ ?_
      · rintro j x H3 H3' Kt' hj e3 _ ⟨rfl, rfl⟩ _ kt'
        obtain ⟨q, es, e1, hq1, hl1, hg1⟩ := hg j (by omega)
        obtain ⟨y, e4, hy⟩ := hg1 i (by omega)
        have e23 := e2.trans e3
        refine ⟨rfl, _, rfl, p, C, dx, _, _, rfl, e23 _ _ hp, W.cl, W.nr, rfl, _, rfl, pr, rs, _, _, rfl, rfl, Evl.ex_t e23 hpr, at_some e1, _, rfl, q, es, _, _, rfl, rfl, Evl.ex_t e23 hq1, at_some e4, kt' y _ (Evl.Ex.refl _) ?_⟩
        exact (Frac.ex hy e23).num (hz j i (by omega) (by omega)) (by decide)
      · intro H5 es' e5 h5 hl5 ha5
        exact kt _ H5 e5 (nrow_new hys (Evl.Ex.refl _) hD2 h5 (by rw [hl5]; rfl) ha5)
    · intro H5 es' e5 h5 hl5 ha5
      exact mk_tab W hn (raw_of h5 (by rw [hl5]; rfl) ha5) fun t H' e ht => kk t H' (e5.trans e) ht
def spInv (K : PySem.W.Frag) (C : Addr) : Sp := fun vs H Q _ => ∃ (v : V) (n : Nat) (k : Nat → Nat → Rat), vs = [v] ∧ Tab K C H v n k ∧ n ≤ 12 ∧ (∀ i j, i < n → j < n → Mth.Sz 8000 (k i j)) ∧
  ∀ w H', Ex H H' → Tab K C H' w n (fun i j => (if i = j then 1 else 0) - k i j) → Q w H'
theorem sc_inv : FnScope ["self"] ["self"] (C8.fnScope (mS 8)) := C8.fnScope_by (by decide +kernel)
theorem met_inv {C : Addr} (W : TabW K C) (D : MD K C "__invert__" "Table.__invert__" 8) (c_t___init : C8.Mak P w K mg base 4 "Table" C (spInit K) []) (c_turned_rows : C8.Cal P w K mg base 1 "turned_rows" (spTurnR K) []) : C8.Met P w K mg base 6 C "__invert__" (spInv K C) [] := by
  refine met_mk D sc_inv (fun _ _ _ _ _ _ us hl => match us, hl with | [_], _ => rfl) (fun vs H Q E h => ?_) (fun f cdv A outer s H vs Q E hr h => ?_)
  · obtain ⟨v, n, k, rfl, _⟩ := h; rfl
  · obtain ⟨v, n, k, rfl, ⟨p, dx, rv, rfl, hp, hrv⟩, hn, hz, kk⟩ := h
    have nd := sc_inv.nd
    refine ⟨_, (pss_one (ps_ret (C8.pe_mk c_t___init hr (by decide) (by rfl) (pa_cons (C8.pe_c c_turned_rows hr (by decide) (by rfl) (pa_cons (pe_fldK K (pv 0) (by rfl)) pa_nil)) pa_nil)))), ?_⟩
    refine ⟨_, rfl, p, C, dx, _, _, rfl, hp, W.cl, W.nr, rfl, rv, n, k, rfl, hn, hrv, hz, fun w H1 e1 hw => ?_⟩
    exact mk_tab W hn hw fun t H' e ht => kk t H' (e1.trans e) ht
def spAdd (K : PySem.W.Frag) (C : Addr) : Sp := fun vs H Q _ => ∃ (v v' : V) (n n' : Nat) (k k' : Nat → Nat → Rat), vs = [v, v'] ∧ Tab K C H v n k ∧ Tab K C H v' n' k' ∧ n + n' ≤ 12 ∧ (∀ i j, i < n → j < n → Mth.Sz 8000 (k i j)) ∧ (∀ i j, i < n' → j < n' → Mth.Sz 8000 (k' i j)) ∧
  ∀ w H', Ex H H' → Tab K C H' w (n + n') (beside n k k') → Q w H'
theorem sc_add : FnScope ["self", "other"] ["self", "other"] (C8.fnScope (mS 9)) := C8.fnScope_by (by decide +kernel)
theorem met_add {C : Addr} (W : TabW K C) (D : MD K C "__add__" "Table.__add__" 9) (c_t___init : C8.Mak P w K mg base 4 "Table" C (spInit K) []) (c_beside_rows : C8.Cal P w K mg base 1 "beside_rows" (spBeside K) []) : C8.Met P w K mg base 6 C "__add__" (spAdd K C) [] := by
  refine met_mk D sc_add (fun _ _ _ _ _ _ us hl => match us, hl with | [_, _], _ => rfl) (fun vs H Q E h => ?_) (fun f cdv A outer s H vs Q E hr h => ?_)
  · obtain ⟨v, v', n, n', k, k', rfl, _⟩ := h; rfl
  · obtain ⟨v, v', n, n', k, k', rfl, ⟨p, dx, rv, rfl, hp, hrv⟩, ⟨p', dx', rv', rfl, hp', hrv'⟩, hn, hz, hz', kk⟩ := h
    have nd := sc_add.nd
    refine ⟨_, (pss_one (ps_ret (C8.pe_mk c_t___init hr (by decide) (by rfl) (pa_cons (C8.pe_c c_beside_rows hr (by decide) (by rfl) (pa_cons (pe_fldK K (pv 0) (by rfl)) (pa_cons (pe_fldK K (pv 1) (by rfl)) pa_nil))) pa_nil)))), ?_⟩
    refine ⟨_, rfl, p, C, dx, _, _, rfl, hp, W.cl, W.nr, rfl, _, rfl, p', C, dx', _, _, rfl, hp', W.cl, W.nr, rfl, rv, rv', n, n', k, k', rfl, hn, hrv, hrv', hz, hz', fun w H1 e1 hw => ?_⟩
    exact mk_tab W hn hw fun t H' e ht => kk t H' (e1.trans e) ht
/-- two tables that are the same -/
def spEq (K : PySem.W.Frag) (C : Addr) : Sp := fun vs H Q _ => ∃ (v v' : V) (n : Nat) (k : Nat → Nat → Rat), vs = [v, v'] ∧ Tab K C H v n k ∧ Tab K C H v' n k ∧ Q (.bl true) H
theorem sc_eq : FnScope ["self", "other"] ["self", "other"] (C8.fnScope (mS 11)) := C8.fnScope_by (by decide +kernel)
theorem met_eq {C : Addr} (W : TabW K C) (B : Bt mg) (D : MD K C "__eq__" "Table.__eq__" 11) (gT : mg "Table" = some (.ref C)) : C8.Met P w K mg base 1 C "__eq__" (spEq K C) [] := by
  refine met_mk D sc_eq (fun _ _ _ _ _ _ us hl => match us, hl with | [_, _], _ => rfl) (fun vs H Q E h => ?_) (fun f cdv A outer s H vs Q E hr h => ?_)
  · obtain ⟨v, v', n, k, rfl, _⟩ := h; rfl
  · obtain ⟨v, v', n, k, rfl, ⟨p, dx, rv, rfl, hp, hrv⟩, ⟨p', dx', rv', rfl, hp', hrv'⟩, kk⟩ := h
    have nd := sc_eq.nd
    refine ⟨_, (pss_one (ps_ret (pe_and (pe_callB (C8.call_isC W.tc.isi) (by rfl) B.isinstance PyProof.Rows.boot_isinstance (pa_cons (pv 1) (pa_cons (C8.pe_gc (v := .ref C) (by rfl) ⟨_, gT, rfl⟩) pa_nil))) (pe_one (pe_cmpR (op_eqDK K hr.units) (pe_fldK K (pv 0) (by rfl)) (pe_fldK K (pv 1) (by rfl)) (nomark _)))))), ?_⟩
    refine ⟨_, rfl, p', dx', _, rfl, hp', true, rfl, iteT ?_⟩
    refine ⟨_, rfl, p, C, dx, _, _, rfl, hp, W.cl, W.nr, rfl, _, rfl, p', C, dx', _, _, rfl, hp', W.cl, W.nr, rfl, dRows k n, dRows k n, hrv.dp, hrv'.dp, shaped_rows _ _, shaped_rows _ _, ?_⟩
    rw [SeqAt.eqv_refl _ (lay_rows k n).1]
    exact kk
def spGet (K : PySem.W.Frag) (C : Addr) : Sp := fun vs H Q _ => ∃ (v w : V) (n i j : Nat) (k : Nat → Nat → Rat), vs = [v, w] ∧ Tab K C H v n k ∧ TupV K H w [.int i, .int j] ∧ i < n ∧ j < n ∧ ∀ x, Frac K H x (k i j) → Q x H
theorem sc_get : FnScope ["self", "at", "i", "j"] ["self", "at"] (C8.fnScope (mS 12)) := C8.fnScope_by (by decide +kernel)
theorem met_get {C : Addr} (W : TabW K C) (D : MD K C "__getitem__" "Table.__getitem__" 12) (c_check_place : C8.Cal P w K mg base 3 "check_place" (spChkPl) []) : C8.Met P w K mg base 4 C "__getitem__" (spGet K C) [] := by
  refine met_mk D sc_get (fun _ _ _ _ _ _ us hl => match us, hl with | [_, _], _ => rfl) (fun vs H Q E h => ?_) (fun f cdv A outer s H vs Q E hr h => ?_)
  · obtain ⟨v, w, n, i, j, k, rfl, _⟩ := h; rfl
  · obtain ⟨v, w, n, i, j, k, rfl, ⟨p, dx, rv, rfl, hp, hrv⟩, ⟨q, rfl, hq⟩, hi, hj, kk⟩ := h
    have nd := sc_get.nd
    refine ⟨_, (pss_cons (ps_asg (pv 1) (pg_tup rfl (pgs_cons (pgn 2 nd) (pgs_cons (pgn 3 nd) pgs_nil))))
    (pss_cons (ps_expr (C8.pe_c c_check_place hr (by decide) (by rfl) (pa_cons (pv 2) (pa_cons (pe_fldK K (pv 0) (by rfl)) (pa_cons pe_str pa_nil)))))
    (pss_cons (ps_expr (C8.pe_c c_check_place hr (by decide) (by rfl) (pa_cons (pv 3) (pa_cons (pe_fldK K (pv 0) (by rfl)) (pa_cons pe_str pa_nil)))))
    (pss_one (ps_ret (pe_ix (ix_tupK K) (pe_ix (ix_tupK K) (pe_fldK K (pv 0) (by rfl)) (pv 2) (fun _ _ => rfl)) (pv 3) (fun _ _ => rfl))))))), ?_⟩
    obtain ⟨pr, rs, rfl, hpr, hlr, hg⟩ := hrv.get
    obtain ⟨q1, es, e1, hq1, hl1, hg1⟩ := hg i hi
    obtain ⟨y, e4, hy⟩ := hg1 j hj
    refine ⟨_, rfl, q, _, rfl, hq, rfl, _, _, rfl, _, _, rfl, rfl, ?_⟩
    refine ⟨_, rfl, _, rfl, p, C, dx, _, _, rfl, hp, W.cl, W.ns, rfl, i, n, _, rfl, hi, ?_⟩
    refine ⟨_, rfl, _, rfl, p, C, dx, _, _, rfl, hp, W.cl, W.ns, rfl, j, n, _, rfl, hj, ?_⟩
    exact ⟨_, rfl, p, C, dx, _, _, rfl, hp, W.cl, W.nr, rfl, _, rfl, pr, rs, _, _, rfl, rfl, hpr, at_some e1, _, rfl, q1, es, _, _, rfl, rfl, hq1, at_some e4, kk y hy⟩
def spClsCoins (K : PySem.W.Frag) (C : Addr) : Sp := fun vs H Q _ => ∃ (w : V) (n : Nat) (xs : List V) (f : Nat → Rat), vs = [.ref C, w] ∧ SeqV K H w xs ∧ xs.length = n ∧ n ≤ 12 ∧ At (NumR K f) xs H ∧ (∀ i, i < n → Mth.Sz 8000 (f i)) ∧
  ∀ w H', Ex H H' → Tab K C H' w n (fun i j => if i = j then f i else 0) → Q w H'
theorem sc_clsCoins : FnScope ["cls", "shares"] ["cls", "shares"] (C8.fnScope (mS 1)) := C8.fnScope_by (by decide +kernel)
theorem cls_clsCoins {C : Addr} (W : TabW K C) (B : Bt mg) {p g : Addr} {mc : Value} (D : ClsD K C "coins" "Table.coins" 1 mc p g) (g_MOST_PLACES : ∃ u, mg "MOST_PLACES" = some u ∧ RelV (.int 12) u) (c_coin_rows : C8.Cal P w K mg base 1 "coin_rows" (spCoins K) []) (c_row_of : C8.Cal P w K mg base 6 "row_of" (spRowOf K) []) (c_t___init : C8.Mak P w K mg base 4 "Table" C (spInit K) []) : FnR P w K mg base C8.CX0 7 g (spClsCoins K C) := by
  refine cls_mk D sc_clsCoins (fun _ _ _ _ _ _ us hl => match us, hl with | [_, _], _ => rfl) (fun vs H Q E h => ?_) (fun f cdv A outer s H vs Q E hr h => ?_)
  · obtain ⟨w, n, xs, f, rfl, _⟩ := h; rfl
  · obtain ⟨w, n, xs, f, rfl, ⟨q, rfl, hq⟩, hl, hn, hx, hz, kk⟩ := h
    have nd := sc_clsCoins.nd
    refine ⟨_, (pss_cons (ps_if (PW.pt (pw_or (pt_not (pt_val (pe_callB (call_isiTK K) (by rfl) B.isinstance PyProof.Rows.boot_isinstance (pa_cons (pv 1) (pa_cons (pe_tup (pa_cons (pe_bltn (v := .ty "list") (by rfl) B.list PyProof.Rows.boot_list rfl) (pa_cons (pe_bltn (v := .ty "tuple") (by rfl) B.tuple PyProof.Rows.boot_tuple rfl) pa_nil))) pa_nil))))) (pw_or1 (pt_cmpR op_gt (pe_callB (call_lenK K) (by rfl) B.len PySem.boot_len (pa_cons (pv 1) pa_nil)) (C8.pe_gc (by rfl) g_MOST_PLACES) (nomark _))))) (pss_one ps_never) pss_nil)
    (pss_one (ps_ret (pe_mkL (i := 0) c_t___init hr (by decide) (by rfl) (.inl rfl) (pa_cons (C8.pe_c c_coin_rows hr (by decide) (by rfl) (pa_cons (C8.pe_c c_row_of hr (by decide) (by rfl) (pa_cons (pv 1) (pa_cons (pe_callB (call_lenK K) (by rfl) B.len PySem.boot_len (pa_cons (pv 1) pa_nil)) pa_nil))) pa_nil)) pa_nil))))), ?_⟩
    refine ⟨_, rfl, (by show 2 ≤ sizeLine; decide), fun p0 hp0 => ?_⟩
    have e0 := Evl.Ex.new (o := .tup [.ty "list", .ty "tuple"]) hp0
    obtain ⟨ty0, hty0, kt0⟩ := isi_ty hq hp0
    refine ⟨_, p0, _, ty0, [.type "list", .type "tuple"], true, rfl, upd_same, cls_lt, hty0, kt0, true, rfl, ?_⟩
    refine iteF ⟨_, rfl, q, xs, rfl, (hq.imp (Evl.ex_l e0) (Evl.ex_t e0)), _, _, rfl, rfl, _, rfl, ?_⟩
    rw [decide_eq_false (by omega : ¬ (xs.length : Int) > 12)]
    refine iteF ⟨rfl, _, rfl, _, rfl, q, xs, rfl, (hq.imp (Evl.ex_l e0) (Evl.ex_t e0)), _, xs.length, xs, f, rfl, ⟨q, rfl, hq.imp (Evl.ex_l e0) (Evl.ex_t e0)⟩, rfl, by omega, hx.ex mono_num e0, fun v2 ys H1 e1 hv2 hly hy => ?_⟩
    have e01 := e0.trans e1
    refine ⟨v2, n, f, rfl, hn, ⟨ys, hv2, by omega, hy⟩, hz, fun w2 H2 e2 hw2 => ?_⟩
    exact mk_tab W hn hw2 fun t H' e ht => kk t H' (e01.trans (e2.trans e)) ht
end
end K18
end
section
set_option Elab.async false
set_option linter.all false
set_option maxRecDepth 100000
set_option maxHeartbeats 4000000
namespace K18
open PySem PySem.Spec PyProof.Rows L2
theorem rs_perm {α : Type} (f : α → Rat) {l l' : List α} (h : l.Perm l') : Mth.rs f l = Mth.rs f l' := by
  induction h with
  | nil => rfl
  | cons x _ ih => show f x + _ = f x + _; rw [ih]
  | swap x y l => show f y + (f x + _) = f x + (f y + _); grind
  | trans _ _ a b => exact a.trans b
theorem cov_perm {k : Nat → Nat → Rat} {S S' T T' : List Nat} (h : S'.Perm S) (g : T'.Perm T) : Mth.cov k S' T' = Mth.cov k S T := by
  unfold Mth.cov
  rw [rs_perm _ h]
  exact Mth.rs_congr fun a _ => rs_perm _ g
/-- what one pair brings -/
def prK (k : Nat → Nat → Rat) (a b : Nat) : Rat := (if a = b then k a a else 0) - k a b * k b a
theorem cov_pr (k : Nat → Nat → Rat) (S T : List Nat) : Mth.cov k S T = Mth.rs (fun a => Mth.rs (prK k a) T) S := rfl
theorem rs_snoc {α : Type} (f : α → Rat) {l : List α} {i : Nat} (h : i < l.length) : Mth.rs f (l.take (i + 1)) = Mth.rs f (l.take i) + f l[i] := by
  rw [List.take_succ_eq_append_getElem h, Mth.rs_app]
  show _ + (f l[i] + 0) = _
  grind
section
variable {K : PySem.W.Frag} {C : Addr} {H : Hp} {v : V} {n i j a b c : Nat} {k : Nat → Nat → Rat} {σ : L2.St} {Q : VK}
theorem rd_ent (W : TabW K C) (h : Tab K C H v n k) (h0 : σ[a]? = some (some v)) (h1 : σ[b]? = some (some (.int (i : Nat)))) (h2 : σ[c]? = some (some (.int (j : Nat)))) (hi : i < n) (hj : j < n) (q : ∀ x, Frac K H x (k i j) → Q x H) :
    tOp (rIxT K) (tOp (rIxT K) (tFld K (tVar a) "rows") (tVar b)) (tVar c) σ H Q := by
  obtain ⟨p, dx, rv, rfl, hp, hrv⟩ := h
  obtain ⟨pr, rs, rfl, hpr, hlr, hg⟩ := hrv.get
  obtain ⟨q1, es, e1, hq1, hl1, hg1⟩ := hg i hi
  obtain ⟨y, e4, hy⟩ := hg1 j hj
  exact ⟨_, h0, p, C, dx, _, _, rfl, hp, W.cl, W.nr, rfl, _, h1, pr, rs, _, _, rfl, rfl, hpr, at_some e1, _, h2, q1, es, _, _, rfl, rfl, hq1, at_some e4, q y hy⟩
theorem rd_size (W : TabW K C) (h : Tab K C H v n k) (h0 : σ[a]? = some (some v)) (q : Q (.int (n : Nat)) H) : tFld K (tVar a) "size" σ H Q := by
  obtain ⟨p, dx, rv, rfl, hp, hrv⟩ := h
  exact ⟨_, h0, p, C, dx, _, _, rfl, hp, W.cl, W.ns, rfl, q⟩
theorem rd_rows (W : TabW K C) (h : Tab K C H v n k) (h0 : σ[a]? = some (some v)) (q : ∀ w, TRows K H w n k → Q w H) : tFld K (tVar a) "rows" σ H Q := by
  obtain ⟨p, dx, rv, rfl, hp, hrv⟩ := h
  exact ⟨_, h0, p, C, dx, _, _, rfl, hp, W.cl, W.nr, rfl, q _ hrv⟩
end
section
variable {P : Program} {w : World} {K : PySem.W.Frag} {mg : Str → Option Value} {base : Heap}
def SzT (b n : Nat) (k : Nat → Nat → Rat) : Prop := ∀ i j, i < n → j < n → Mth.Sz b (k i j)
def spCov (K : PySem.W.Frag) (C : Addr) : Sp := fun vs H Q _ => ∃ (t x y : V) (n : Nat) (k : Nat → Nat → Rat) (S T : List Nat), vs = [t, x, y] ∧ Tab K C H t n k ∧ n ≤ 12 ∧ SzT 30 n k ∧ SeqV K H x (nV S) ∧ SeqV K H y (nV T) ∧ LotOk S n ∧ LotOk T n ∧ S.length * T.length ≤ 125 ∧
  ∀ v H', Ex H H' → Frac K H' v (Mth.cov k S T) → Mth.Sz (1 + S.length * (61 * T.length + 31)) (Mth.cov k S T) → Q v H'
theorem sc_cov : FnScope ["table", "one", "other", "first", "second", "answer", "i", "j"] ["table", "one", "other"] (C8.fnScope (top 34)) := C8.fnScope_by (by decide +kernel)
theorem cal_cov (D : DD K mg "covariance" 34) (c_lot_of : C8.Cal P w K mg base 4 "lot_of" (spLot K) []) (c_minus : C8.Cal P w K mg base 4 "minus" (spBin (· - ·) K) []) (c_times : C8.Cal P w K mg base 4 "times" (spBin (· * ·) K) []) (c_plus : C8.Cal P w K mg base 4 "plus" (spBin (· + ·) K) []) {C : Addr} (W : TabW K C) : C8.Cal P w K mg base 5 "covariance" (spCov K C) [] := by
  refine cal_mk D sc_cov (fun _ _ _ _ _ _ us hl => match us, hl with | [_, _, _], _ => rfl) (fun vs H Q E h => ?_) (fun f cdv A outer s H vs Q E hr h => ?_)
  · obtain ⟨t, x, y, n, k, S, T, rfl, _⟩ := h; rfl
  · obtain ⟨t, x, y, n, k, S, T, rfl, ht, hn, hz, hx, hy, okS, okT, hST, kk⟩ := h
    have nd := sc_cov.nd
    refine ⟨_, (pss_cons (ps_par (i := 3) (j := 4) (by rfl) nd rfl rfl (by decide) rfl rfl (pa_cons (C8.pe_c c_lot_of hr (by decide) (by rfl) (pa_cons (pv 1) (pa_cons (pe_fldK K (pv 0) (by rfl)) pa_nil))) (pa_cons (C8.pe_c c_lot_of hr (by decide) (by rfl) (pa_cons (pv 2) (pa_cons (pe_fldK K (pv 0) (by rfl)) pa_nil))) pa_nil)) (by rfl))
    (pss_cons (pset 5 nd (pe_tup (pa_cons pe_int (pa_cons pe_int pa_nil))))
    (pss_cons (ps_for PassesOwn.never rfl (pi_tupK K (pv 3)) (pgn 6 nd)
      (pss_one (ps_for PassesOwn.never rfl (pi_tupK K (pv 4)) (pgn 7 nd)
        (pss_cons (pset 5 nd (C8.pe_c c_minus hr (by decide) (by rfl) (pa_cons (pv 5) (pa_cons (C8.pe_c c_times hr (by decide) (by rfl) (pa_cons (pe_ix (ix_tupK K) (pe_ix (ix_tupK K) (pe_fldK K (pv 0) (by rfl)) (pv 6) (fun _ _ => rfl)) (pv 7) (fun _ _ => rfl)) (pa_cons (pe_ix (ix_tupK K) (pe_ix (ix_tupK K) (pe_fldK K (pv 0) (by rfl)) (pv 7) (fun _ _ => rfl)) (pv 6) (fun _ _ => rfl)) pa_nil))) pa_nil))))
        (pss_one (ps_if (pt_cmpR op_eq (pv 6) (pv 7) (nomark _)) (pss_one (pset 5 nd (C8.pe_c c_plus hr (by decide) (by rfl) (pa_cons (pv 5) (pa_cons (pe_ix (ix_tupK K) (pe_ix (ix_tupK K) (pe_fldK K (pv 0) (by rfl)) (pv 6) (fun _ _ => rfl)) (pv 6) (fun _ _ => rfl)) pa_nil))))) pss_nil))))))
    (pss_one (ps_ret (pv 5)))))), ?_⟩
    refine ⟨_, rfl, rd_size W ht rfl ⟨_, n, S, rfl, hn, hx, okS, fun v1 S' H1 e1 hv1 pS _ => ?_⟩⟩
    refine ⟨_, rfl, rd_size W (ht.ex e1) rfl ⟨_, n, T, rfl, hn, hy.ex e1, okT, fun v2 T' H2 e2 hv2 pT _ => ?_⟩⟩
    obtain ⟨p3, rfl, h3⟩ := hv1
    obtain ⟨p4, rfl, h4⟩ := hv2
    have e12 := e1.trans e2
    have hlS : S'.length = S.length := pS.length_eq
    have hlT : T'.length = T.length := pT.length_eq
    have ltS : ∀ a ∈ S', a < n := fun a ha => okS.lt a (pS.mem_iff.mp ha)
    have ltT : ∀ a ∈ T', a < n := fun a ha => okT.lt a (pT.mem_iff.mp ha)
    have ndT : T'.Nodup := pT.nodup_iff.mpr okT.nd
    have hSl := okS.len
    have hTl := okT.len
    refine ⟨_, _, rfl, by show 2 ≤ sizeLine; decide, fun p5 hp5 => ?_⟩
    have e5 := e12.trans (Evl.Ex.new (o := .tup [.int 0, .int 1]) hp5)
    have h35 := Evl.ex_t (e2.trans (Evl.Ex.new (o := .tup [.int 0, .int 1]) hp5)) h3
    have h45 := Evl.ex_t (Evl.Ex.new (o := .tup [.int 0, .int 1]) hp5) h4
    refine ⟨_, rfl, p3, rfl, ⟨_, h35⟩, ?_⟩
    have bnd : ∀ i, i ≤ S.length → 1 + i * (61 * T.length + 31) ≤ 8000 := fun i hi => by
      have q1 : i * (61 * T.length + 31) ≤ S.length * (61 * T.length + 31) := Nat.mul_le_mul_right _ hi
      have q2 : S.length * (61 * T.length + 31) = 61 * (S.length * T.length) + 31 * S.length := by
        rw [Nat.mul_add, Nat.mul_comm S.length 31, ← Nat.mul_assoc, Nat.mul_comm S.length 61, Nat.mul_assoc]
      omega
    refine for_it walk_tup (Pv := fun i σ' H' => ∃ a6 a7 v5, σ' = [some t, some x, some y, some (.ref p3), some (.ref p4), some v5, a6, a7] ∧ Ex (upd H2 p5 (.tup [.int 0, .int 1])) H' ∧ Frac K H' v5 (Mth.rs (fun a => Mth.rs (prK k a) T') (S'.take i)) ∧ Mth.Sz (1 + i * (61 * T.length + 31)) (Mth.rs (fun a => Mth.rs (prK k a) T') (S'.take i)))
      ⟨_, _, _, rfl, Evl.Ex.refl _, ?_, ?_⟩ (fun i σ' H' hi h => Evl.ex_t h.choose_spec.choose_spec.choose_spec.2.1 h35) ?_ ?_
    · exact TupV.new
    · exact ⟨by show (0 : Rat).num.natAbs < _; exact Nat.lt_of_lt_of_le (by decide) (Nat.pow_le_pow_right (by decide) (Nat.le_add_right 1 _)), by show (1 : Nat) < _; exact Nat.lt_of_lt_of_le (by decide : 1 < 2 ^ 1) (Nat.pow_le_pow_right (by decide) (Nat.le_add_right 1 _))⟩
    · rintro i w σ' H3 H3' hi ⟨a6, a7, v5, rfl, e3, hv5, sz5⟩ ⟨rfl, ex⟩
      obtain ⟨hil, rfl⟩ := nV_at ex
      have him : S'[i] < n := ltS _ (List.getElem_mem hil)
      have hb := bnd (i + 1) (by omega)
      have hb' : 1 + (i + 1) * (61 * T.length + 31) = 1 + i * (61 * T.length + 31) + 61 * T.length + 31 := by rw [Nat.add_mul]; omega
      refine ⟨_, rfl, p4, rfl, ⟨_, Evl.ex_t e3 h45⟩, ?_⟩
      refine for_it walk_tup (Pv := fun j σ' H' => ∃ a7 v5, σ' = [some t, some x, some y, some (.ref p3), some (.ref p4), some v5, some (.int (S'[i] : Nat)), a7] ∧ Ex H3' H' ∧ Frac K H' v5 (Mth.rs (fun a => Mth.rs (prK k a) T') (S'.take i) + Mth.rs (prK k S'[i]) (T'.take j)) ∧
        Mth.Sz (1 + i * (61 * T.length + 31) + 61 * j + if S'[i] ∈ T'.take j then 31 else 0) (Mth.rs (fun a => Mth.rs (prK k a) T') (S'.take i) + Mth.rs (prK k S'[i]) (T'.take j)))
        ⟨a7, v5, rfl, Evl.Ex.refl _, ?_, ?_⟩ (fun j σ' H' hj h => Evl.ex_t (e3.trans h.choose_spec.choose_spec.2.1) h45) ?_ ?_
      · show Frac K _ _ (_ + 0)
        rw [Rat.add_zero]; exact hv5
      · show Mth.Sz _ (_ + 0)
        rw [Rat.add_zero]; exact sz5.mono (by omega)
      · rintro j w σ' H4 H4' hj ⟨a7, v5, rfl, e4, hv5, sz5⟩ ⟨rfl, ex⟩
        obtain ⟨hjl, rfl⟩ := nV_at ex
        have hjm : T'[j] < n := ltT _ (List.getElem_mem hjl)
        have eall := e5.trans (e3.trans e4)
        have htab := ht.ex eall
        have hc : (if S'[i] ∈ T'.take j then 31 else 0) ≤ 31 := by split <;> omega
        have ha : 1 + i * (61 * T.length + 31) + 61 * j + (if S'[i] ∈ T'.take j then 31 else 0) ≤ 8031 := by omega
        refine ⟨_, rfl, rd_ent W htab rfl rfl rfl him hjm fun x1 hx1 => rd_ent W htab rfl rfl rfl hjm him fun x2 hx2 => ?_⟩
        refine ⟨x1, x2, _, _, 30, 30, rfl, hx1, hx2, hz _ _ him hjm, hz _ _ hjm him, by decide, by decide, by decide, fun v6 H5 e6 hv6 => ?_⟩
        have zt := (hz _ _ him hjm).mul (hz _ _ hjm him)
        refine ⟨_, _, _, _, _, 60, rfl, hv5.ex e6, hv6, sz5, zt, by omega, by decide, by show _ ≤ 8999; omega, fun v7 H6 e7 hv7 => ?_⟩
        have zm := sz5.sub zt
        have e67 := e6.trans e7
        refine ⟨_, rfl, _, rfl, rfl, _, rfl, ?_⟩
        have step := rs_snoc (prK k S'[i]) hjl
        by_cases e : S'[i] = T'[j]
        · have hnm : S'[i] ∉ T'.take j := fun hm => by
            obtain ⟨m, hm1, hm2⟩ := List.mem_iff_getElem.mp hm
            rw [List.getElem_take] at hm2
            rw [List.length_take] at hm1
            have := List.pairwise_iff_getElem.mp ndT m j (by omega) hjl (by omega)
            exact this (hm2.trans e)
          rw [if_neg hnm] at zm
          have hd : decide (V.int (S'[i] : Nat) = V.int (T'[j] : Nat)) = true := by rw [e]; exact decide_eq_true rfl
          rw [hd]
          refine iteT ⟨_, rfl, rd_ent W (htab.ex e67) rfl rfl rfl him him fun x3 hx3 => ?_⟩
          refine ⟨_, _, _, _, _, 30, rfl, hv7, hx3, zm, hz _ _ him him, by omega, by decide, by show _ ≤ 8999; omega, fun v8 H7 e8 hv8 => ?_⟩
          have zp := zm.add (hz _ _ him him)
          have ev : Mth.rs (fun a => Mth.rs (prK k a) T') (S'.take i) + Mth.rs (prK k S'[i]) (T'.take j) - k S'[i] T'[j] * k T'[j] S'[i] + k S'[i] S'[i] = Mth.rs (fun a => Mth.rs (prK k a) T') (S'.take i) + Mth.rs (prK k S'[i]) (T'.take (j + 1)) := by
            rw [step]
            unfold prK
            rw [if_pos e]
            grind
          have hm2 : S'[i] ∈ T'.take (j + 1) := by rw [List.take_succ_eq_append_getElem hjl]; exact List.mem_append_right _ (by rw [e]; exact List.mem_singleton_self _)
          refine ⟨_, _, rfl, e4.trans (e67.trans e8), ?_, ?_⟩
          · rw [← ev]; exact hv8
          · rw [← ev, if_pos hm2]; exact zp.mono (by omega)
        · have hd : decide (V.int (S'[i] : Nat) = V.int (T'[j] : Nat)) = false := decide_eq_false fun z => e (by injection z with z; omega)
          rw [hd]
          have ev : Mth.rs (fun a => Mth.rs (prK k a) T') (S'.take i) + Mth.rs (prK k S'[i]) (T'.take j) - k S'[i] T'[j] * k T'[j] S'[i] = Mth.rs (fun a => Mth.rs (prK k a) T') (S'.take i) + Mth.rs (prK k S'[i]) (T'.take (j + 1)) := by
            rw [step]
            unfold prK
            rw [if_neg e]
            grind
          have hmm : S'[i] ∈ T'.take j → S'[i] ∈ T'.take (j + 1) := fun h => by rw [List.take_succ_eq_append_getElem hjl]; exact List.mem_append_left _ h
          have hcc : (if S'[i] ∈ T'.take j then 31 else 0) ≤ (if S'[i] ∈ T'.take (j + 1) then 31 else 0) := by
            by_cases q : S'[i] ∈ T'.take j
            · rw [if_pos q, if_pos (hmm q)]; omega
            · rw [if_neg q]; omega
          refine iteF ⟨_, _, rfl, e4.trans e67, ?_, ?_⟩
          · rw [← ev]; exact hv7
          · rw [← ev]; exact zm.mono (by omega)
      · rintro σ' H4 ⟨a7, v5, rfl, e4, hv5, sz5⟩
        have step := rs_snoc (fun a => Mth.rs (prK k a) T') hil
        have hlt : T'.take (nV T').length = T' := by rw [nV_len, List.take_length]
        rw [hlt] at hv5 sz5
        have hc : (if S'[i] ∈ T' then 31 else 0) ≤ 31 := by split <;> omega
        refine ⟨_, _, _, rfl, e3.trans e4, ?_, ?_⟩
        · rw [step]; exact hv5
        · rw [step]; exact sz5.mono (by rw [nV_len]; omega)
    · rintro σ' H3 ⟨a6, a7, v5, rfl, e3, hv5, sz5⟩
      have hlt : S'.take (nV S').length = S' := by rw [nV_len, List.take_length]
      rw [hlt, ← cov_pr, cov_perm pS pT] at hv5 sz5
      rw [nV_len, hlS] at sz5
      exact ⟨_, rfl, kk _ _ (e5.trans e3) hv5 sz5⟩
def spVar (K : PySem.W.Frag) (C : Addr) : Sp := fun vs H Q _ => ∃ (t x : V) (n : Nat) (k : Nat → Nat → Rat) (S : List Nat), vs = [t, x] ∧ Tab K C H t n k ∧ n ≤ 12 ∧ SzT 30 n k ∧ SeqV K H x (nV S) ∧ LotOk S n ∧ S.length * S.length ≤ 125 ∧
  ∀ v H', Ex H H' → Frac K H' v (Mth.cov k S S) → Mth.Sz (1 + S.length * (61 * S.length + 31)) (Mth.cov k S S) → Q v H'
theorem sc_var : FnScope ["table", "lot"] ["table", "lot"] (C8.fnScope (top 35)) := C8.fnScope_by (by decide +kernel)
theorem cal_var (D : DD K mg "variance" 35) {C : Addr} (c_covariance : C8.Cal P w K mg base 5 "covariance" (spCov K C) []) : C8.Cal P w K mg base 6 "variance" (spVar K C) [] := by
  refine cal_mk D sc_var (fun _ _ _ _ _ _ us hl => match us, hl with | [_, _], _ => rfl) (fun vs H Q E h => ?_) (fun f cdv A outer s H vs Q E hr h => ?_)
  · obtain ⟨t, x, n, k, S, rfl, _⟩ := h; rfl
  · obtain ⟨t, x, n, k, S, rfl, ht, hn, hz, hx, okS, hST, kk⟩ := h
    have nd := sc_var.nd
    refine ⟨_, (pss_one (ps_ret (C8.pe_c c_covariance hr (by decide) (by rfl) (pa_cons (pv 0) (pa_cons (pv 1) (pa_cons (pv 1) pa_nil)))))), ?_⟩
    exact ⟨_, rfl, _, rfl, _, rfl, t, x, x, n, k, S, S, rfl, ht, hn, hz, hx, hx, okS, okS, hST, kk⟩
end
end K18
end
section
set_option Elab.async false
set_option linter.all false
set_option maxRecDepth 100000
set_option maxHeartbeats 4000000
/-! a run does not see how a sleeping generator would go on, unless it wakes it -/
namespace K18
open PySem
def deadK : Resume → Sem PySem.Fin := fun _ => .unsupported "asleep"
def IsP (b : GenState) : Prop := ∃ l c p fs cl, b = .suspended deadK l c p fs cl
def Po (a b : GenState) : Prop := (a = b ∧ ∀ k l c p fs cl, b = .suspended k l c p fs cl → splitAtGen fs = none) ∨ ∃ k l c p fs cl, a = .suspended k l c p fs cl ∧ b = .suspended deadK l c p fs cl
def PoA (A B : Array GenState) : Prop := A.size = B.size ∧ ∀ (i : Nat) a b, A[i]? = some a → B[i]? = some b → Po a b
def KeptP (A B A' B' : Array GenState) : Prop := ∀ (i : Nat) b, B[i]? = some b → IsP b → B'[i]? = some b ∧ A'[i]? = A[i]?
def NG : End → Prop
  | .ret _ => True
  | .susp _ _ _ _ _ _ fs => splitAtGen fs = none
theorem KeptP.rfl' {A B : Array GenState} : KeptP A B A B := fun _ _ h _ => ⟨h, rfl⟩
theorem KeptP.trans {A B A1 B1 A2 B2 : Array GenState} (h : KeptP A B A1 B1) (h' : KeptP A1 B1 A2 B2) : KeptP A B A2 B2 := fun i b e p => by
  obtain ⟨e1, a1⟩ := h i b e p
  obtain ⟨e2, a2⟩ := h' i b e1 p
  exact ⟨e2, a2.trans a1⟩
theorem PoA.get {A B : Array GenState} (h : PoA A B) {i : Nat} {b : GenState} (e : B[i]? = some b) : ∃ a, A[i]? = some a ∧ Po a b := by
  have hi : i < B.size := (Array.getElem?_eq_some_iff.mp e).1
  have hA : A[i]? = some (A[i]'(by rw [h.1]; exact hi)) := Array.getElem?_eq_getElem _
  exact ⟨_, hA, h.2 i _ b hA e⟩
theorem PoA.push {A B : Array GenState} (h : PoA A B) (c : Code) : PoA (A.push (.fresh c)) (B.push (.fresh c)) := by
  refine ⟨by simp [h.1], fun i a b ha hb => ?_⟩
  rw [Array.getElem?_push] at ha hb
  rw [h.1] at ha
  by_cases e : i = B.size
  · rw [if_pos e] at ha hb
    cases ha; cases hb
    exact .inl ⟨rfl, fun _ _ _ _ _ _ z => nomatch z⟩
  · rw [if_neg e] at ha hb
    exact h.2 i a b ha hb
theorem KeptP.push {A B : Array GenState} (h : PoA A B) (c : Code) : KeptP A B (A.push (.fresh c)) (B.push (.fresh c)) := fun i b e _ => by
  have hi : i < B.size := (Array.getElem?_eq_some_iff.mp e).1
  refine ⟨?_, ?_⟩
  · rw [Array.getElem?_push, if_neg (Nat.ne_of_lt hi)]; exact e
  · rw [Array.getElem?_push, if_neg (by rw [h.1]; exact Nat.ne_of_lt hi)]
theorem PoA.set {A B : Array GenState} (h : PoA A B) (g : Nat) {x : GenState} (hx : ∀ k l c p fs cl, x = .suspended k l c p fs cl → splitAtGen fs = none) : PoA (A.setIfInBounds g x) (B.setIfInBounds g x) := by
  refine ⟨by simp [h.1], fun i a b ha hb => ?_⟩
  by_cases e : g = i
  · subst e
    rw [Array.getElem?_setIfInBounds_self] at ha hb
    split at ha
    · split at hb
      · cases ha; cases hb
        exact .inl ⟨rfl, hx⟩
      · cases hb
    · cases ha
  · rw [Array.getElem?_setIfInBounds_ne e] at ha hb
    exact h.2 i a b ha hb
theorem KeptP.set {A B : Array GenState} (g : Nat) {x y : GenState} (hy : B[g]? = some y) (hn : ¬ IsP y) : KeptP A B (A.setIfInBounds g x) (B.setIfInBounds g x) := fun i b e p => by
  have hne : g ≠ i := fun z => by
    subst z
    rw [hy] at e
    cases e
    exact hn p
  exact ⟨by rw [Array.getElem?_setIfInBounds_ne hne]; exact e, by rw [Array.getElem?_setIfInBounds_ne hne]⟩
theorem no_dead {M : Model} {Γ : Ctx} {p : Pos} {t : Sem PySem.Fin} {fs : List Frame} {s s' : Shared} {e : End} (h : Runs M Γ p t fs s e s') : ∀ w, t = .unsupported w → False := by
  induction h with
  | segRet _ _ ih _ => exact ih
  | segGen _ _ ih _ => exact ih
  | segSuspOut _ _ ih => exact ih
  | segSuspGen _ _ _ _ ih _ => exact ih
  | _ => exact fun w z => nomatch z
theorem split_app {a b : List Frame} (h1 : splitAtGen a = none) (h2 : splitAtGen b = none) : splitAtGen (a ++ b) = none := by
  induction a with
  | nil => exact h2
  | cons x a ih =>
    cases x with
    | gen g k l c p => cases h1
    | ret k h g l c p kp =>
      have h1' : (splitAtGen a).map _ = none := h1
      have h3 : splitAtGen a = none := by simpa using h1'
      show (splitAtGen (a ++ b)).map _ = none
      rw [ih h3]
      rfl
theorem split_tail {k h g l c p kp} {fs : List Frame} (h1 : splitAtGen (.ret k h g l c p kp :: fs) = none) : splitAtGen fs = none := by
  have h1' : (splitAtGen fs).map _ = none := h1
  simpa using h1'
theorem ng_state {e : End} (h : NG e) : ∀ k l c p fs cl, e.genState = .suspended k l c p fs cl → splitAtGen fs = none := by
  cases e with
  | ret r => intro k l c p fs cl z; cases z
  | susp v g l k c p fs =>
    intro k' l' c' p' fs' cl' z
    cases z
    exact h
abbrev wg (s : Shared) (A : Array GenState) : Shared := { s with gens := A }
theorem transfer {M : Model} {Γ : Ctx} {p : Pos} {t : Sem PySem.Fin} {fs : List Frame} {s s' : Shared} {e : End} (h : Runs M Γ p t fs s e s') :
    splitAtGen fs = none → ∀ A, PoA A s.gens → ∃ A', Runs M Γ p t fs (wg s A) e (wg s' A') ∧ PoA A' s'.gens ∧ KeptP A s.gens A' s'.gens ∧ NG e := by
  induction h with
  | done => exact fun _ A h => ⟨A, .done, h, .rfl', trivial⟩
  | raise => exact fun _ A h => ⟨A, .raise, h, .rfl', trivial⟩
  | again hq _ ih => exact fun hf A h => let ⟨A', r, q⟩ := ih hf A h; ⟨A', .again hq r, q⟩
  | rule _ ih => exact fun hf A h => let ⟨A', r, q⟩ := ih hf A h; ⟨A', .rule r, q⟩
  | «at» _ ih => exact fun hf A h => let ⟨A', r, q⟩ := ih hf A h; ⟨A', .at r, q⟩
  | load ho _ ih => exact fun hf A h => let ⟨A', r, q⟩ := ih hf A h; ⟨A', .load ho r, q⟩
  | update ho _ ih => exact fun hf A h => let ⟨A', r, q⟩ := ih hf A h; ⟨A', .update ho r, q⟩
  | loadIfAlive _ ih => exact fun hf A h => let ⟨A', r, q⟩ := ih hf A h; ⟨A', .loadIfAlive r, q⟩
  | point _ ih => exact fun hf A h => let ⟨A', r, q⟩ := ih hf A h; ⟨A', .point r, q⟩
  | alloc _ ih => exact fun hf A h => let ⟨A', r, q⟩ := ih hf A h; ⟨A', .alloc r, q⟩
  | fresh _ ih => exact fun hf A h => let ⟨A', r, q⟩ := ih hf A h; ⟨A', .fresh r, q⟩
  | ask _ ih => exact fun hf A h => let ⟨A', r, q⟩ := ih hf A h; ⟨A', .ask r, q⟩
  | choose hn _ ih => exact fun hf A h => let ⟨A', r, q⟩ := ih hf A h; ⟨A', .choose hn r, q⟩
  | os _ ih => exact fun hf A h => let ⟨A', r, q⟩ := ih hf A h; ⟨A', .os r, q⟩
  | handled _ ih => exact fun hf A h => let ⟨A', r, q⟩ := ih hf A h; ⟨A', .handled r, q⟩
  | genState hg _ ih =>
    intro hf A h
    obtain ⟨a, ha, po⟩ := h.get hg
    obtain ⟨A', r, q⟩ := ih hf A h
    refine ⟨A', .genState (st := a) ha ?_, q⟩
    rcases po with ⟨rfl, _⟩ | ⟨k, l, c, p, fs, cl, rfl, rfl⟩
    · exact r
    · exact r
  | stack _ ih => exact fun hf A h => let ⟨A', r, q⟩ := ih hf A h; ⟨A', .stack r, q⟩
  | thread _ ih => exact fun hf A h => let ⟨A', r, q⟩ := ih hf A h; ⟨A', .thread r, q⟩
  | @newGen Γ p k s e s' c _ ih =>
    intro hf A h
    obtain ⟨A', r, q1, q2, q3⟩ := ih hf (A.push (.fresh c)) (h.push c)
    refine ⟨A', .newGen ?_, q1, (KeptP.push h c).trans q2, q3⟩
    have r' : Runs M Γ p (k A.size) [] { wg s A with gens := A.push (.fresh c) } e (wg s' A') := by
      rw [h.1]
      exact r
    exact r'
  | call _ _ ih1 ih2 =>
    intro hf A h
    obtain ⟨A1, r1, q1, q2, q3⟩ := ih1 rfl A h
    obtain ⟨A2, r2, p1, p2, p3⟩ := ih2 hf A1 q1
    exact ⟨A2, .call r1 r2, p1, q2.trans p2, p3⟩
  | callSusp _ ih =>
    intro hf A h
    obtain ⟨A1, r1, q1, q2, q3⟩ := ih rfl A h
    exact ⟨A1, .callSusp r1, q1, q2, split_app q3 rfl⟩
  | yield => exact fun _ A h => ⟨A, .yield, h, .rfl', rfl⟩
  | @resumeFresh Γ p g l k s c e₁ s₁ e s' hg _ hq _ ih1 ih2 =>
    intro hf A h
    obtain ⟨a, ha, po⟩ := h.get hg
    have ea : a = .fresh c := by
      rcases po with ⟨rfl, _⟩ | ⟨k, l, c, p, fs, cl, rfl, z⟩
      · rfl
      · cases z
    subst ea
    have np : ¬ IsP (.fresh c) := fun ⟨_, _, _, _, _, z⟩ => nomatch z
    have h1 := h.set g (x := .running) (fun _ _ _ _ _ _ z => nomatch z)
    obtain ⟨A1, r1, q1, q2, q3⟩ := ih1 rfl (A.setIfInBounds g .running) h1
    have h2 := q1.set g (x := e₁.genState) (ng_state q3)
    obtain ⟨A2, r2, p1, p2, p3⟩ := ih2 hf (A1.setIfInBounds g e₁.genState) h2
    have k1 : KeptP A s.gens (A.setIfInBounds g .running) (s.setGen g .running).gens := KeptP.set g hg np
    refine ⟨A2, .resumeFresh ha r1 hq r2, p1, ?_, p3⟩
    intro i b eb pb
    obtain ⟨e1, a1⟩ := (k1.trans q2) i b eb pb
    have hne : g ≠ i := fun z => by
      subst z
      rw [hg] at eb
      cases eb
      exact np pb
    have k2 : (s₁.setGen g e₁.genState).gens[i]? = some b := by
      show (s₁.gens.setIfInBounds g _)[i]? = _
      rw [Array.getElem?_setIfInBounds_ne hne]; exact e1
    obtain ⟨e2, a2⟩ := p2 i b k2 pb
    refine ⟨e2, a2.trans ?_⟩
    rw [Array.getElem?_setIfInBounds_ne hne]
    exact a1
  | @resumeSuspended Γ p g r l k s k₀ l₀ c₀ p₀ fs cl e₁ s₁ e s' hg hr hq _ ih1 ih2 =>
    intro hf A h
    obtain ⟨a, ha, po⟩ := h.get hg
    have np : ¬ IsP (.suspended k₀ l₀ c₀ p₀ fs cl) := fun ⟨_, _, _, _, _, z⟩ => by
      cases z
      exact no_dead hr "asleep" rfl
    have ea : a = .suspended k₀ l₀ c₀ p₀ fs cl ∧ splitAtGen fs = none := by
      rcases po with ⟨rfl, hs⟩ | ⟨k, l, c, p, fs, cl, rfl, z⟩
      · exact ⟨rfl, hs _ _ _ _ _ _ rfl⟩
      · exact absurd ⟨_, _, _, _, _, z⟩ np
    obtain ⟨rfl, hsp⟩ := ea
    have h1 := h.set g (x := .running) (fun _ _ _ _ _ _ z => nomatch z)
    obtain ⟨A1, r1, q1, q2, q3⟩ := ih1 hsp (A.setIfInBounds g .running) h1
    have h2 := q1.set g (x := e₁.genState) (ng_state q3)
    obtain ⟨A2, r2, p1, p2, p3⟩ := ih2 hf (A1.setIfInBounds g e₁.genState) h2
    have k1 : KeptP A s.gens (A.setIfInBounds g .running) (s.setGen g .running).gens := KeptP.set g hg np
    refine ⟨A2, .resumeSuspended ha r1 hq r2, p1, ?_, p3⟩
    intro i b eb pb
    obtain ⟨e1, a1⟩ := (k1.trans q2) i b eb pb
    have hne : g ≠ i := fun z => by
      subst z
      rw [hg] at eb
      cases eb
      exact np pb
    have k2 : (s₁.setGen g e₁.genState).gens[i]? = some b := by
      show (s₁.gens.setIfInBounds g _)[i]? = _
      rw [Array.getElem?_setIfInBounds_ne hne]; exact e1
    obtain ⟨e2, a2⟩ := p2 i b k2 pb
    refine ⟨e2, a2.trans ?_⟩
    rw [Array.getElem?_setIfInBounds_ne hne]
    exact a1
  | resumeJustStarted hg hv _ ih =>
    intro hf A h
    obtain ⟨a, ha, po⟩ := h.get hg
    obtain ⟨A', r, q⟩ := ih hf A h
    rcases po with ⟨rfl, _⟩ | ⟨_, _, _, _, _, _, _, z⟩
    · exact ⟨A', .resumeJustStarted ha hv r, q⟩
    · cases z
  | @resumeThrowFresh g Γ p k e s' x l s c hg _ ih =>
    intro hf A h
    obtain ⟨a, ha, po⟩ := h.get hg
    have np : ¬ IsP (.fresh c) := fun ⟨_, _, _, _, _, z⟩ => nomatch z
    have h1 := h.set g (x := .finished) (fun _ _ _ _ _ _ z => nomatch z)
    obtain ⟨A', r, q1, q2, q3⟩ := ih hf (A.setIfInBounds g .finished) h1
    have k1 : KeptP A s.gens (A.setIfInBounds g .finished) (s.setGen g .finished).gens := KeptP.set g hg np
    rcases po with ⟨rfl, _⟩ | ⟨_, _, _, _, _, _, _, z⟩
    · exact ⟨A', .resumeThrowFresh ha r, q1, k1.trans q2, q3⟩
    · cases z
  | resumeRunning hg _ ih =>
    intro hf A h
    obtain ⟨a, ha, po⟩ := h.get hg
    obtain ⟨A', r, q⟩ := ih hf A h
    rcases po with ⟨rfl, _⟩ | ⟨_, _, _, _, _, _, _, z⟩
    · exact ⟨A', .resumeRunning ha r, q⟩
    · cases z
  | resumeFinished hg _ ih =>
    intro hf A h
    obtain ⟨a, ha, po⟩ := h.get hg
    obtain ⟨A', r, q⟩ := ih hf A h
    rcases po with ⟨rfl, _⟩ | ⟨_, _, _, _, _, _, _, z⟩
    · exact ⟨A', .resumeFinished ha r, q⟩
    · cases z
  | segRet _ _ ih1 ih2 =>
    intro hf A h
    obtain ⟨A1, r1, q1, q2, q3⟩ := ih1 rfl A h
    obtain ⟨A2, r2, p1, p2, p3⟩ := ih2 (split_tail hf) A1 q1
    exact ⟨A2, .segRet r1 r2, p1, q2.trans p2, p3⟩
  | segGen _ _ _ _ => exact fun hf => nomatch hf
  | segSuspOut hs _ ih =>
    intro hf A h
    obtain ⟨A1, r1, q1, q2, q3⟩ := ih rfl A h
    exact ⟨A1, .segSuspOut hs r1, q1, q2, split_app q3 hf⟩
  | segSuspGen hs _ _ _ _ _ =>
    intro hf
    rw [hf] at hs
    cases hs

/-! ### the same of wp -/
theorem wp_transfer {α : Type} {M : Model} {Γ : Ctx} (t : Sem α) : ∀ {Q : α → Pos → Shared → Prop} {E : Value → Pos → Shared → Prop} {p : Pos} {s : Shared} {A : Array GenState}, PoA A s.gens → Sem.wp M Γ t Q E p s →
    Sem.wp M Γ t (fun a p' s' => ∃ B', Q a p' (wg s' B') ∧ PoA s'.gens B' ∧ KeptP A s.gens s'.gens B') (fun e p' s' => ∃ B', E e p' (wg s' B') ∧ PoA s'.gens B' ∧ KeptP A s.gens s'.gens B') p (wg s A) := by
  induction t with
  | pure a => exact fun {Q E p s A} h q => ⟨s.gens, q, h, .rfl'⟩
  | raise e => exact fun {Q E p s A} h q => ⟨s.gens, q, h, .rfl'⟩
  | unsupported w => exact fun _ q => q.elim
  | finish e => exact fun _ q => q.elim
  | rule _ k ih => exact fun h q => ih () h q
  | «at» _ k ih => exact fun h q => ih () h q
  | load a _ k ih => exact fun h ⟨o, ho, q⟩ => ⟨o, ho, ih o h q⟩
  | update a _ f k ih => exact fun {Q E p s A} h ⟨ho, q⟩ => ⟨ho, ih () (s := { s with heap := s.heap.update a f }) h q⟩
  | loadIfAlive a k ih => exact fun h q => ih _ h q
  | point _ k ih => exact fun h q => ih () h q
  | register _ _ _ => exact fun _ q => q.elim
  | alloc o k ih => exact fun {Q E p s A} h q => ih _ (s := { s with heap := s.heap.push o }) h q
  | fresh k ih => exact fun {Q E p s A} h q => ih _ (s := { s with toks := s.toks + 1 }) h q
  | ask k ih => exact fun h q => ih _ h q
  | choose src n k ih => exact fun {Q E p s A} h ⟨hn, q⟩ => ⟨hn, ih _ (s := { s with drawn := s.drawn.bump src }) h q⟩
  | os q l k ih => exact fun {Q E p s A} h q' => ih _ (s := { s with os := (Os.step s.os q).1 }) h q'
  | call c hd g l k ih =>
    intro Q E p s A h q
    obtain ⟨r, s1, hr, q⟩ := q
    obtain ⟨A1, r1, q1, q2, _⟩ := transfer hr rfl A h
    refine ⟨r, wg s1 A1, r1, ?_⟩
    refine Sem.wp_mono M Γ _ (fun a p' s' z => ?_) (fun e p' s' z => ?_) _ _ (ih r q1 q)
    · obtain ⟨B', z1, z2, z3⟩ := z
      exact ⟨B', z1, z2, q2.trans z3⟩
    · obtain ⟨B', z1, z2, z3⟩ := z
      exact ⟨B', z1, z2, q2.trans z3⟩
  | handled o k ih => exact fun h q => ih _ h q
  | newGen c k ih =>
    intro Q E p s A h q
    have z := ih s.gens.size (s := { s with gens := s.gens.push (.fresh c) }) (A := A.push (.fresh c)) (h.push c) q
    show Sem.wp M Γ (k A.size) _ _ p (wg s (A.push (.fresh c)))
    rw [h.1]
    refine Sem.wp_mono M Γ _ (fun a p' s' z => ?_) (fun e p' s' z => ?_) _ _ z
    · obtain ⟨B', z1, z2, z3⟩ := z
      exact ⟨B', z1, z2, (KeptP.push h c).trans z3⟩
    · obtain ⟨B', z1, z2, z3⟩ := z
      exact ⟨B', z1, z2, (KeptP.push h c).trans z3⟩
  | genState g k ih =>
    intro Q E p s A h q
    obtain ⟨st, hg, q⟩ := q
    obtain ⟨a, ha, po⟩ := h.get hg
    refine ⟨a, ha, ?_⟩
    have es : a.seen = st.seen := by
      rcases po with ⟨rfl, _⟩ | ⟨k, l, c, p, fs, cl, rfl, rfl⟩ <;> rfl
    rw [es]
    exact ih _ h q
  | resume g r l k ih =>
    intro Q E p s A h q
    obtain ⟨res, s1, hw, q⟩ := q
    obtain ⟨A1, hr, q1, q2⟩ : ∃ A1, Wakes M Γ p g r (wg s A) res (wg s1 A1) ∧ PoA A1 s1.gens ∧ KeptP A s.gens A1 s1.gens := by
      unfold Wakes at hw ⊢
      split at hw
      · exact hw.elim
      · rename_i c hg
        obtain ⟨a, ha, po⟩ := h.get hg
        have np : ¬ IsP (.fresh c) := fun ⟨_, _, _, _, _, z⟩ => nomatch z
        have ea : a = .fresh c := by
          rcases po with ⟨rfl, _⟩ | ⟨_, _, _, _, _, _, _, z⟩
          · rfl
          · cases z
        subst ea
        rw [show (wg s A).gens[g]? = some (.fresh c) from ha]
        split at hw
        · obtain ⟨e1, s2, hr, hq, rfl, rfl⟩ := hw
          have h1 := h.set g (x := .running) (fun _ _ _ _ _ _ z => nomatch z)
          obtain ⟨A1, r1, q1, q2, q3⟩ := transfer hr rfl (A.setIfInBounds g .running) h1
          refine ⟨A1.setIfInBounds g e1.genState, ⟨e1, _, r1, hq, rfl, rfl⟩, q1.set g (ng_state q3), fun i b eb pb => ?_⟩
          have k1 : KeptP A s.gens (A.setIfInBounds g .running) (s.setGen g .running).gens := KeptP.set g hg np
          obtain ⟨e2, a2⟩ := (k1.trans q2) i b eb pb
          have hne : g ≠ i := fun z => by
            subst z
            rw [hg] at eb
            cases eb
            exact np pb
          refine ⟨?_, ?_⟩
          · show (s2.gens.setIfInBounds g _)[i]? = _
            rw [Array.getElem?_setIfInBounds_ne hne]; exact e2
          · rw [Array.getElem?_setIfInBounds_ne hne]; exact a2
        · obtain ⟨rfl, rfl⟩ := hw
          exact ⟨A, ⟨rfl, rfl⟩, h, .rfl'⟩
        · obtain ⟨rfl, rfl⟩ := hw
          exact ⟨A.setIfInBounds g .finished, ⟨rfl, rfl⟩, h.set g (fun _ _ _ _ _ _ z => nomatch z), KeptP.set g hg np⟩
      · rename_i k₀ l₀ c₀ p₀ fs cl hg
        obtain ⟨e1, s2, hr, hq, rfl, rfl⟩ := hw
        obtain ⟨a, ha, po⟩ := h.get hg
        have np : ¬ IsP (.suspended k₀ l₀ c₀ p₀ fs cl) := fun ⟨_, _, _, _, _, z⟩ => by
          cases z
          exact no_dead hr "asleep" rfl
        have ea : a = .suspended k₀ l₀ c₀ p₀ fs cl ∧ splitAtGen fs = none := by
          rcases po with ⟨rfl, hs⟩ | ⟨k, l, c, p, fs, cl, rfl, z⟩
          · exact ⟨rfl, hs _ _ _ _ _ _ rfl⟩
          · exact absurd ⟨_, _, _, _, _, z⟩ np
        obtain ⟨rfl, hsp⟩ := ea
        rw [show (wg s A).gens[g]? = some (.suspended k₀ l₀ c₀ p₀ fs cl) from ha]
        have h1 := h.set g (x := .running) (fun _ _ _ _ _ _ z => nomatch z)
        obtain ⟨A1, r1, q1, q2, q3⟩ := transfer hr hsp (A.setIfInBounds g .running) h1
        refine ⟨A1.setIfInBounds g e1.genState, ⟨e1, _, r1, hq, rfl, rfl⟩, q1.set g (ng_state q3), fun i b eb pb => ?_⟩
        have k1 : KeptP A s.gens (A.setIfInBounds g .running) (s.setGen g .running).gens := KeptP.set g hg np
        obtain ⟨e2, a2⟩ := (k1.trans q2) i b eb pb
        have hne : g ≠ i := fun z => by
          subst z
          rw [hg] at eb
          cases eb
          exact np pb
        refine ⟨?_, ?_⟩
        · show (s2.gens.setIfInBounds g _)[i]? = _
          rw [Array.getElem?_setIfInBounds_ne hne]; exact e2
        · rw [Array.getElem?_setIfInBounds_ne hne]; exact a2
      · rename_i hg
        obtain ⟨a, ha, po⟩ := h.get hg
        have ea : a = .running := by
          rcases po with ⟨rfl, _⟩ | ⟨_, _, _, _, _, _, _, z⟩
          · rfl
          · cases z
        subst ea
        obtain ⟨rfl, rfl⟩ := hw
        rw [show (wg s1 A).gens[g]? = some .running from ha]
        exact ⟨A, ⟨rfl, rfl⟩, h, .rfl'⟩
      · rename_i hg
        obtain ⟨a, ha, po⟩ := h.get hg
        have ea : a = .finished := by
          rcases po with ⟨rfl, _⟩ | ⟨_, _, _, _, _, _, _, z⟩
          · rfl
          · cases z
        subst ea
        obtain ⟨rfl, rfl⟩ := hw
        rw [show (wg s1 A).gens[g]? = some .finished from ha]
        exact ⟨A, ⟨rfl, rfl⟩, h, .rfl'⟩
    refine ⟨res, wg s1 A1, hr, ?_⟩
    refine Sem.wp_mono M Γ _ (fun a p' s' z => ?_) (fun e p' s' z => ?_) _ _ (ih res q1 q)
    · obtain ⟨B', z1, z2, z3⟩ := z
      exact ⟨B', z1, z2, q2.trans z3⟩
    · obtain ⟨B', z1, z2, z3⟩ := z
      exact ⟨B', z1, z2, q2.trans z3⟩
  | yield _ _ _ _ _ => exact fun _ q => q.elim
  | stack k ih => exact fun h q => ih _ h q
  | fork _ _ _ => exact fun _ q => q.elim
  | thread k ih => exact fun h q => ih _ h q
  | await _ _ _ _ _ _ => exact fun _ q => q.elim
end K18
end
section
set_option Elab.async false
set_option linter.all false
set_option maxRecDepth 100000
set_option maxHeartbeats 4000000
/-! generators whose consumer runs between the turns: the generator's side -/
namespace K18
open PySem PySem.Spec PyProof.Rows L2
open Sem (wp)
def trunc (n : Nat) (h : Heap) : Heap := ⟨h.objs.extract 0 n, h.life⟩
theorem trunc_get {n : Nat} {h : Heap} {b : Addr} (hb : b < n) : (trunc n h).get? b = h.get? b := by
  unfold trunc Heap.get?
  have e : (h.objs.extract 0 n)[b]? = h.objs[b]? := by
    rw [Array.getElem?_extract]
    simp only [Nat.zero_add, Nat.sub_zero]
    by_cases hs : b < min n h.objs.size
    · rw [if_pos hs]
    · rw [if_neg hs]
      have hl : h.objs.size ≤ b := Nat.le_of_not_lt fun q => hs (Nat.lt_min.mpr ⟨hb, q⟩)
      rw [Array.getElem?_eq_none hl]
  dsimp only
  rw [e]
theorem trunc_size {n : Nat} {h : Heap} : (trunc n h).objs.size = min n h.objs.size := by
  unfold trunc
  simp
theorem trunc_some {n : Nat} {h : Heap} {b : Addr} {o : Obj} (e : (trunc n h).get? b = some o) : b < n ∧ h.get? b = some o := by
  have hb : b < n := by
    have := Heap.lt_size e
    rw [trunc_size] at this
    exact Nat.lt_of_lt_of_le this (Nat.min_le_left _ _)
  exact ⟨hb, by rw [← trunc_get hb]; exact e⟩
theorem funs_of {h h' base : Heap} {l : List Env} (hl : h.FunFrames base l) (k : ∀ b ∈ frs l, ∀ o, h.get? b = some o → h'.get? b = some o) : h'.FunFrames base l := by
  induction l with
  | nil => trivial
  | cons env rest ih =>
    obtain ⟨hk, ⟨L, o, hf, hn, ho, hd⟩, hr⟩ := hl
    refine ⟨hk, ⟨L, o, hf, hn, k L ?_ o ho, hd⟩, ih hr fun b hb => k b ?_⟩
    · unfold frs; rw [List.filterMap_cons, hf]; exact List.mem_cons_self
    · unfold frs; rw [List.filterMap_cons, hf]; exact List.mem_cons_of_mem _ hb
structure Gn where
  P : Program
  w : World
  K : PySem.W.Frag
  mg : Str → Option Value
  base : Heap
  N : List Str
  qual : Str
  scope : Scope
  f : Addr
  cd : Value
  A : Around
  outer : List Env
  n : Nat
  a : Addr
  g : Nat
  go : Obj
def Gn.env (G : Gn) : Env := envOfC G.qual G.scope G.n G.f G.cd
def Gn.X (G : Gn) (s0 : Shared) (H0 : Hp) : Cx where
  prog := G.P
  w := G.w
  K := G.K
  mg := G.mg
  base := G.base
  A := G.A.deeper G.env
  N := G.N
  s_0 := s0
  H_0 := H0
  env := G.env
  outer := G.outer
  stack := G.env :: G.outer
  ex := []
  calm := true
  fn := fun _ => true
  pn := [(G.a, G.go)]
  xe := fun _ _ => False
def Gn.s0 (G : Gn) (s : Shared) : Shared := { s with heap := trunc G.n s.heap }
section
variable {α : Type} (G : Gn) (It : α → V → Hp → Prop) (C : List α → Shared → Hp → Prop)
/-- what has been done since the generator was woken -/
structure Yd (s₀ : Shared) (Hw : Hp) (s : Shared) (H : Hp) : Prop where
  os : s.os = s₀.os
  bare : AllBare s.gens
  un : Un (frs G.outer) [] Hw H (trunc G.n s₀.heap) s.heap
  hok : HOk G.P G.w H s.heap
  ex : Ex Hw H
  go : s.heap.get? G.a = some G.go
  ga : H G.a = none
  sz : G.n ≤ s.heap.objs.size
/-- woken again: priv stands as it stood -/
structure Wk (priv : List (Addr × Obj)) (s : Shared) (H : Hp) (s' : Shared) (H' : Hp) : Prop where
  os : s'.os = s.os
  bare : AllBare s'.gens
  hok : HOk G.P G.w H' s'.heap
  ex : Ex H H'
  pv : ∀ p ∈ priv, s'.heap.get? p.1 = some p.2 ∧ H' p.1 = none
  bs : ∀ b o, G.base.get? b = some o → s'.heap.get? b = some o ∧ H' b = none
  funs : (trunc G.n s'.heap).FunFrames G.base G.outer
  frf : ∀ b ∈ frs G.outer, H' b = none
  sz : G.n ≤ s'.heap.objs.size
def GI (ip : List (Addr × Obj)) (rest : List α) (s₀ : Shared) (σ : L2.St) (H : Hp) (s : Shared) : Prop :=
  ∃ Hw, C rest s₀ Hw ∧ Ex Hw H ∧ G.n ≤ s₀.heap.objs.size ∧ Inv (G.X (G.s0 s₀) Hw) ip σ H s
def Priv (priv : List (Addr × Obj)) (s : Shared) (H : Hp) : Prop := ∀ p ∈ priv, s.heap.get? p.1 = some p.2 ∧ H p.1 = none ∧ G.n ≤ p.1
def GY : Protocol := fun m s₀ v s kap => ∃ r rest x Hw H priv, rest.length = m ∧ C (r :: rest) s₀ Hw ∧ RelV x v ∧ It r x H ∧ Yd G s₀ Hw s H ∧ Priv G priv s H ∧ (G.a, G.go) ∈ priv ∧
  ∀ s' H', Wk G priv s H s' H' → C rest s' H' → kap (.send .none) s'
def GF (s₀ s : Shared) : Prop := ∃ Hw H, C [] s₀ Hw ∧ Yd G s₀ Hw s H
def GR : GenEnd := fun _ s₀ r s => (r = .ok (.ret .none) ∨ r = .ok .next) ∧ GF G C s₀ s
structure GEn (α : Type) where
  nx : List α → L2.St → Hp → Prop
  bk : List α → L2.St → Hp → Prop := fun _ _ _ => False
  ct : List α → L2.St → Hp → Prop := fun _ _ _ => False
abbrev TGn (α : Type) := GEn α → List α → L2.St → Hp → Prop
def GSP (ip : List (Addr × Obj)) (D : GEn α) (rest : List α) (s₀ : Shared) (f : Flow) (s : Shared) : Prop :=
  match f with
  | .next => ∃ σ H, GI G C ip rest s₀ σ H s ∧ D.nx rest σ H
  | .brk => ∃ σ H, GI G C ip rest s₀ σ H s ∧ D.bk rest σ H
  | .cont => ∃ σ H, GI G C ip rest s₀ σ H s ∧ D.ct rest σ H
  | .ret _ => False
structure GC (ip : List (Addr × Obj)) (c : Code) (fs : List Frame) (gd : Bool → Bool) : Prop where
  ip : ∀ p ∈ ip, G.n ≤ p.1
  ga : G.n ≤ G.a
  over : G.A.over c fs = G.A.deeper G.env
  split : splitAtGen fs = none
  guard : fs.any Frame.guarded = false
  gd : gd false = false
def GK (ip : List (Addr × Obj)) (c : Code) (fs : List Frame) (Kf : Flow → Sem PySem.Fin) (D : GEn α) : Prop :=
  ∀ (rest : List α) (s₀ s : Shared) (f : Flow), GSP G C ip D rest s₀ f s → Seg (model G.P G.w) G.A (GR G C) (GY G It C) rest.length s₀ c (Kf f) fs s
structure GS (st : Stmt) (t : TGn α) : Prop where
  run : ∀ (ip : List (Addr × Obj)) (c : Code) (fs : List Frame) (rest : List α) (s₀ : Shared) (Kf : Flow → Sem PySem.Fin) (J : Value → Sem PySem.Fin) (gd : Bool → Bool) (lv : List Value → List Value) (s : Shared) (σ : L2.St) (H : Hp) (D : GEn α),
    GC G ip c fs gd → GK G It C ip c fs Kf D → GI G C ip rest s₀ σ H s → t D rest σ H → Seg (model G.P G.w) G.A (GR G C) (GY G It C) rest.length s₀ c ((exec st G.env).wrap Kf J gd lv) fs s
structure GSs (st : List Stmt) (t : TGn α) : Prop where
  run : ∀ (ip : List (Addr × Obj)) (c : Code) (fs : List Frame) (rest : List α) (s₀ : Shared) (Kf : Flow → Sem PySem.Fin) (J : Value → Sem PySem.Fin) (gd : Bool → Bool) (lv : List Value → List Value) (s : Shared) (σ : L2.St) (H : Hp) (D : GEn α),
    GC G ip c fs gd → GK G It C ip c fs Kf D → GI G C ip rest s₀ σ H s → t D rest σ H → Seg (model G.P G.w) G.A (GR G C) (GY G It C) rest.length s₀ c ((execs st G.env).wrap Kf J gd lv) fs s
end
section
variable {α : Type} {G : Gn} {It : α → V → Hp → Prop} {C : List α → Shared → Hp → Prop} {st : Stmt} {rest : List Stmt}
def tPl (t : TS) : TGn α := fun D r σ H => t { nx := fun σ' H' => Ex H H' ∧ D.nx r σ' H', rt := fun _ _ => False, bk := fun σ' H' => Ex H H' ∧ D.bk r σ' H', ct := fun σ' H' => Ex H H' ∧ D.ct r σ' H' } σ H
theorem sp_gsp {ip : List (Addr × Obj)} {s₀ s : Shared} {D : GEn α} {r : List α} {Hw H : Hp} {f : Flow} (hC : C r s₀ Hw) (e : Ex Hw H) (z : G.n ≤ s₀.heap.objs.size)
    (h : SP (G.X (G.s0 s₀) Hw) ip { nx := fun σ' H' => Ex H H' ∧ D.nx r σ' H', rt := fun _ _ => False, bk := fun σ' H' => Ex H H' ∧ D.bk r σ' H', ct := fun σ' H' => Ex H H' ∧ D.ct r σ' H' } f s) : GSP G C ip D r s₀ f s := by
  cases f with
  | next => obtain ⟨σ, H', I, e', q⟩ := h; exact ⟨σ, H', ⟨Hw, hC, e.trans e', z, I⟩, q⟩
  | brk => obtain ⟨σ, H', I, e', q⟩ := h; exact ⟨σ, H', ⟨Hw, hC, e.trans e', z, I⟩, q⟩
  | cont => obtain ⟨σ, H', I, e', q⟩ := h; exact ⟨σ, H', ⟨Hw, hC, e.trans e', z, I⟩, q⟩
  | ret u => obtain ⟨v, σ, H', I, r1, q⟩ := h; exact q.elim
theorem gs_pl {t : TS} (h : ∀ s0 H0, PS (G.X s0 H0) st t) : GS G It C st (tPl t) := by
  refine ⟨fun ip c fs r s₀ Kf J gd lv s σ H D g k hI ht => ?_⟩
  obtain ⟨Hw, hC, e, z, I⟩ := hI
  refine PySem.seg_wrap ?_
  rw [g.over]
  exact wpAny_mono ((h _ _).run ip s σ H _ I ht) (fun f s' hs => k r s₀ s' f (sp_gsp hC e z hs)) fun _ _ hx => hx.elim
theorem gss_pl {t : TS} (h : ∀ s0 H0, PSs (G.X s0 H0) rest t) : GSs G It C rest (tPl t) := by
  refine ⟨fun ip c fs r s₀ Kf J gd lv s σ H D g k hI ht => ?_⟩
  obtain ⟨Hw, hC, e, z, I⟩ := hI
  refine PySem.seg_wrap ?_
  rw [g.over]
  exact wpAny_mono ((h _ _).run ip s σ H _ I ht) (fun f s' hs => k r s₀ s' f (sp_gsp hC e z hs)) fun _ _ hx => hx.elim
def tG0 : TGn α := fun D r σ H => D.nx r σ H
theorem gss_nil : GSs G It C [] tG0 :=
  ⟨fun ip c fs r s₀ Kf J gd lv s σ H D g k hI ht => seg_execs_nil (k r s₀ s .next ⟨σ, H, hI, ht⟩)⟩
def tGThen (t u : TGn α) : TGn α := fun D r σ H => t { D with nx := fun r' σ' H' => u D r' σ' H' } r σ H
theorem gss_cons {t u : TGn α} (a : GS G It C st t) (b : GSs G It C rest u) : GSs G It C (st :: rest) (tGThen t u) := by
  refine ⟨fun ip c fs r s₀ Kf J gd lv s σ H D g k hI ht => ?_⟩
  refine seg_execs_cons ?_
  refine a.run ip c fs r s₀ _ J gd lv s σ H { D with nx := fun r' σ' H' => u D r' σ' H' } g (fun r' s₀' s' f hs => ?_) hI ht
  cases f with
  | next =>
    obtain ⟨σ', H', I', q⟩ := hs
    exact b.run ip c fs r' s₀' Kf J gd lv s' σ' H' D g k I' q
  | brk => exact k r' s₀' s' .brk hs
  | cont => exact k r' s₀' s' .cont hs
  | ret u => exact hs.elim
theorem gss_one {t : TGn α} (a : GS G It C st t) : GSs G It C [st] t := by
  refine ⟨fun ip c fs r s₀ Kf J gd lv s σ H D g k hI ht => ?_⟩
  refine seg_execs_cons ?_
  refine a.run ip c fs r s₀ _ J gd lv s σ H D g (fun r' s₀' s' f hs => ?_) hI ht
  cases f with
  | next => exact seg_execs_nil (k r' s₀' s' .next hs)
  | brk => exact k r' s₀' s' .brk hs
  | cont => exact k r' s₀' s' .cont hs
  | ret u => exact hs.elim
def tGIf (c : TT) (t u : TGn α) : TGn α := fun D r σ H => c σ H fun b H1 => Ex H H1 ∧ if b = true then t D r σ H1 else u D r σ H1
theorem gs_if {test : Expr} {body orelse : List Stmt} {pos : Pos} {tc : TT} {t u : TGn α} (hc : ∀ s0 H0, PT (G.X s0 H0) test tc) (hb : GSs G It C body t) (ho : GSs G It C orelse u) : GS G It C (.If test body orelse pos) (tGIf tc t u) := by
  refine ⟨fun ip c fs r s₀ Kf J gd lv s σ H D g k hI ht => ?_⟩
  obtain ⟨Hw, hC, e, z, I⟩ := hI
  show Seg _ _ _ _ _ s₀ c (.at pos fun _ => ((isTrue test G.env (eval test G.env)) >>= fun b => if b = true then execs body G.env else execs orelse G.env).wrap Kf J gd lv) fs s
  refine seg_at (seg_bind_wrap ?_)
  rw [g.over]
  refine wpAny_mono ((hc _ _).run ip s σ H _ I ht) (fun b s' hb' => ?_) fun _ _ hx => hx.elim
  obtain ⟨H1, I1, e1, q⟩ := hb'
  cases b with
  | true =>
    rw [if_pos rfl] at q ⊢
    exact hb.run ip c fs r s₀ Kf J gd lv s' σ H1 D g k ⟨Hw, hC, e.trans e1, z, I1⟩ q
  | false =>
    rw [if_neg Bool.false_ne_true] at q ⊢
    exact ho.run ip c fs r s₀ Kf J gd lv s' σ H1 D g k ⟨Hw, hC, e.trans e1, z, I1⟩ q
end
/-! ### sleeping and waking -/
section
variable {α : Type} {G : Gn} {It : α → V → Hp → Prop} {C : List α → Shared → Hp → Prop}
def cellsOf (env : Env) : List Addr := env.cells.filterMap fun p => env.cells.lookup p.1
theorem mem_cellsOf {env : Env} {x : Str} {c : Addr} (h : env.cells.lookup x = some c) : c ∈ cellsOf env :=
  List.mem_filterMap.mpr ⟨(x, c), PySem.mem_of_lookup h, h⟩
theorem of_cellsOf {env : Env} {c : Addr} (h : c ∈ cellsOf env) : ∃ x, env.cells.lookup x = some c := by
  obtain ⟨p, _, e⟩ := List.mem_filterMap.mp h
  exact ⟨p.1, e⟩
def privOf (G : Gn) (ip : List (Addr × Obj)) (h : Heap) : List (Addr × Obj) := pinsAt (G.n :: cellsOf G.env) h ++ ((G.a, G.go) :: ip)
theorem GI.yd {ip : List (Addr × Obj)} {s₀ s : Shared} {Hw H : Hp} {σ : L2.St} (e : Ex Hw H) (I : Inv (G.X (G.s0 s₀) Hw) ip σ H s) : Yd G s₀ Hw s H where
  os := I.os
  bare := I.bare
  un := I.base
  hok := I.hok
  ex := e
  go := (I.pin (G.a, G.go) (List.mem_append_left _ (List.mem_singleton.mpr rfl))).1
  ga := (I.pin (G.a, G.go) (List.mem_append_left _ (List.mem_singleton.mpr rfl))).2.1
  sz := Nat.le_of_lt I.lt
theorem cab_n {s₀ : Shared} {H0 : Hp} (z : G.n ≤ s₀.heap.objs.size) (ok : (G.X (G.s0 s₀) H0).Ok) {x : Str} {c : Addr} (h : G.env.cells.lookup x = some c) : G.n ≤ c := by
  have q : (trunc G.n s₀.heap).objs.size ≤ c := ok.cab x c rfl h
  rw [trunc_size, Nat.min_eq_left z] at q
  exact q
theorem GI.priv {ip : List (Addr × Obj)} {s₀ s : Shared} {Hw H : Hp} {σ : L2.St} (hip : ∀ p ∈ ip, G.n ≤ p.1) (hga : G.n ≤ G.a) (z : G.n ≤ s₀.heap.objs.size) (I : Inv (G.X (G.s0 s₀) Hw) ip σ H s) : Priv G (privOf G ip s.heap) s H := by
  intro p hp
  rcases List.mem_append.mp hp with hp | hp
  · obtain ⟨hb, e⟩ := of_pinsAt hp
    rcases List.mem_cons.mp hb with hb | hb
    · exact ⟨e, by rw [hb]; exact I.free, by rw [hb]; exact Nat.le_refl _⟩
    · obtain ⟨x, hx⟩ := of_cellsOf hb
      exact ⟨e, I.freeC x p.1 hx, cab_n z I.ok hx⟩
  · rcases List.mem_cons.mp hp with rfl | hp
    · obtain ⟨h1, h2, _⟩ := I.pin (G.a, G.go) (List.mem_append_left _ (List.mem_singleton.mpr rfl))
      exact ⟨h1, h2, hga⟩
    · obtain ⟨h1, h2, _⟩ := I.pin p (List.mem_append_right _ hp)
      exact ⟨h1, h2, hip p hp⟩
theorem GI.woken {ip : List (Addr × Obj)} {s₀ s s' : Shared} {Hw H H' : Hp} {σ : L2.St} (z : G.n ≤ s₀.heap.objs.size) (I : Inv (G.X (G.s0 s₀) Hw) ip σ H s) (w : Wk G (privOf G ip s.heap) s H s' H') :
    Inv (G.X (G.s0 s') H') ip σ H' s' := by
  have kL : ∀ o, s.heap.get? G.n = some o → s'.heap.get? G.n = some o ∧ H' G.n = none := fun o e =>
    w.pv (G.n, o) (List.mem_append_left _ (mem_pinsAt List.mem_cons_self e))
  have kc : ∀ x c o, G.env.cells.lookup x = some c → s.heap.get? c = some o → s'.heap.get? c = some o ∧ H' c = none := fun x c o h e =>
    w.pv (c, o) (List.mem_append_left _ (mem_pinsAt (List.mem_cons_of_mem _ (mem_cellsOf h)) e))
  have kp : ∀ p ∈ (G.a, G.go) :: ip, s'.heap.get? p.1 = some p.2 ∧ H' p.1 = none := fun p hp => w.pv p (List.mem_append_right _ hp)
  have kcell : ∀ x c v, G.env.cells.lookup x = some c → s.heap.IsCell c v → s'.heap.IsCell c v := fun x c v h ⟨o, ho, hd⟩ => ⟨o, (kc x c o h ho).1, hd⟩
  obtain ⟨m, ⟨oL, es, ep, hL, hr⟩, hm⟩ := I.loc
  have hn0 : G.base.objs.size ≤ G.n := by
    have q : G.base.objs.size ≤ (trunc G.n s₀.heap).objs.size := I.ok.bsz
    rw [trunc_size] at q
    exact Nat.le_trans q (Nat.min_le_left _ _)
  refine ⟨⟨I.ok.mod, I.ok.kind, I.ok.glob, I.ok.blt, ?_, I.ok.inj, I.ok.has, fun x c hx h => ?_, I.ok.hd, I.ok.frames, I.ok.stk, (fun b hb => absurd (show b ∈ ([] : List Addr) from hb) (by simp)), fun b o e => ?_, ?_, (fun b _ _ hb => absurd (show b ∈ ([] : List Addr) from hb) (by simp)), (fun b hb => absurd (show b ∈ ([] : List Addr) from hb) (by simp)), w.funs, w.frf⟩,
    rfl, w.bare, ?_, ⟨m, ⟨oL, es, ep, (kL oL hL).1, hr⟩, fun i x v h1 h2 h3 => ?_⟩, fun x c h => ?_, (kL oL hL).2, fun x c h => ?_, fun p hp => ?_, w.hok, I.len⟩
  · show (trunc G.n s'.heap).objs.size ≤ G.n
    rw [trunc_size]
    exact Nat.min_le_left _ _
  · show (trunc G.n s'.heap).objs.size ≤ c
    rw [trunc_size]
    exact Nat.le_trans (Nat.min_le_left _ _) (cab_n z I.ok h)
  · show (trunc G.n s'.heap).get? b = some o ∧ H' b = none
    rw [trunc_get (Nat.lt_of_lt_of_le (Heap.lt_size e) hn0)]
    exact w.bs b o e
  · show G.base.objs.size ≤ (trunc G.n s'.heap).objs.size
    rw [trunc_size]
    exact Nat.le_min.mpr ⟨hn0, Nat.le_trans hn0 w.sz⟩
  · refine { keep := fun b o q n _ _ => (trunc_some q).2, slot := fun b o q n _ _ => ⟨o.slots, (trunc_some q).2⟩, free := fun b o q n _ => n, there := fun b o q _ => ⟨o, (trunc_some q).2⟩, tups := fun _ _ q => q, frzs := fun _ _ _ q => q, tbls := fun b ps q => ⟨#[], ?_⟩ }
    have q' : H' b = some (.tbl ps) := q
    rw [q']; simp
  · obtain ⟨u, r, hl⟩ := hm i x v h1 h2 h3
    refine ⟨u, r, ?_⟩
    rcases hl with ⟨hk, hv⟩ | ⟨hk, c, hc, hi⟩
    · exact .inl ⟨hk, hv⟩
    · exact .inr ⟨hk, c, hc, kcell x c _ hc hi⟩
  · obtain ⟨v, hv⟩ := I.cell x c h
    exact ⟨v, kcell x c v h hv⟩
  · obtain ⟨v, o, ho, _⟩ := I.cell x c h
    exact (kc x c o h ho).2
  · obtain ⟨h1, h2, h3, h4, h5⟩ := I.pin p hp
    obtain ⟨k1, k2⟩ := kp p hp
    exact ⟨k1, k2, h3, h4, h5⟩
def tGYield (It : α → V → Hp → Prop) (te : TE) : TGn α := fun D r σ H => ∃ x r', r = x :: r' ∧ te σ H fun v H1 => Ex H H1 ∧ It x v H1 ∧ ∀ H2, Ex H1 H2 → D.nx r' σ H2
theorem gs_yield {e : Expr} {yp pos : Pos} {te : TE} (he : ∀ s0 H0, PE (G.X s0 H0) e te) (hco : G.env.scope.isCoroutine = false := by rfl) (hi : interactive G.env = false := by rfl) : GS G It C (.Expr (.Yield (some e) yp) pos) (tGYield It te) := by
  refine ⟨fun ip c fs r s₀ Kf J gd lv s σ H D g k hI ht => ?_⟩
  obtain ⟨x, r', rfl, ht⟩ := ht
  obtain ⟨Hw, hC, ex, z, I⟩ := hI
  show Seg _ _ _ _ (r'.length + 1) s₀ c _ fs s
  refine seg_Expr_Yield g.split g.gd g.guard ?_ hco hi
  rw [g.over]
  refine wpAny_mono ((he _ _).run ip s σ H _ I ht) (fun v s' hv => ?_) fun _ _ hx => hx.elim
  obtain ⟨xv, H1, I1, rv, e1, hit, hn⟩ := hv
  intro kap hk
  refine ⟨x, r', xv, Hw, H1, privOf G ip s'.heap, rfl, hC, rv, hit, GI.yd (ex.trans e1) I1, GI.priv g.ip g.ga z I1, List.mem_append_right _ List.mem_cons_self, fun s'' H'' w hC' => hk .none s'' ?_⟩
  exact k r' s'' s'' .next ⟨σ, H'', ⟨H'', hC', .refl _, w.sz, GI.woken z I1 w⟩, hn H'' w.ex⟩
end
end K18
end
section
set_option Elab.async false
set_option linter.all false
set_option maxRecDepth 100000
set_option maxHeartbeats 4000000
namespace K18
open PySem PySem.Spec PyProof.Rows L2
open Sem (wp)
section
variable {M : Model} {A : Around} {R : GenEnd} {Y : Protocol} {n : Nat} {s₀ : Shared} {c : Code} {fs : List Frame} {s : Shared} {env : Env} {Kf : Flow → Sem PySem.Fin} {J : Value → Sem PySem.Fin} {gd : Bool → Bool} {lv : List Value → List Value}
theorem seg_For {tg iter : Expr} {body : List Stmt} {pos : Pos}
    (h : wpAny M (A.over c fs) (eval iter env) (fun x s1 => wpAny M (A.over c fs) (pyIter x) (fun it s2 => ∀ p,
      Seg M A R Y n s₀ (.forLoop tg it body [] env) (M.den (.forLoop tg it body [] env))
        (.ret (fun r => ((match r with | .ok f => (.pure f : Sem Flow) | .error e => .raise e).onRaise (cameBack env)).wrap Kf J gd lv) none (gd false) (lv []) c p [] :: fs) s2) (fun _ _ => False) s1) (fun _ _ => False) s)
    (hs : ∀ x, foldedSetIterable iter env x = pure x := by intro _; rfl) :
    Seg M A R Y n s₀ c ((exec (.For tg iter body [] pos) env).wrap Kf J gd lv) fs s := by
  rw [exec_For]
  refine seg_at ?_
  refine seg_bind_wrap (wpAny_pure ?_)
  refine seg_bind_wrap (wpAny_mono h (fun x s1 h1 => ?_) fun _ _ z => z.elim)
  refine seg_bind_wrap (wpAny_of_eq (hs x) ?_)
  refine seg_at ?_
  refine seg_bind_wrap (wpAny_pure ?_)
  refine seg_bind_wrap (wpAny_holding (wpAny_mono h1 (fun it s2 h2 => ?_) fun _ _ z => z.elim))
  exact seg_call h2
end
section
variable {prog : Program} {w : World} {A : Around} {R : GenEnd} {Y : Protocol} {n : Nat} {s₀ : Shared} {fs : List Frame} {s : Shared} {env : Env}
def noteK (env : Env) : Value → Sem PySem.Fin := fun e => (do noteFrame e env; theTreesLotGoes e : Sem Unit).bind (fun _ => .raise e)
theorem seg_forLoop {tg : Expr} {it : Value} {body : List Stmt}
    (h : wpAny (model prog w) (A.over (.forLoop tg it body [] env) fs) (pyNext it) (fun r s1 => match r with
        | none => Seg (model prog w) A R Y n s₀ (.forLoop tg it body [] env) (.pure (.again (.block [] env))) fs s1
        | some v => wpAny (model prog w) (A.over (.forLoop tg it body [] env) fs) (letOwnedTupleGo tg it v) (fun _ s2 => wpAny (model prog w) (A.over (.forLoop tg it body [] env) fs) (assign tg env v) (fun _ s3 =>
            Seg (model prog w) A R Y n s₀ (.forLoop tg it body [] env) ((execs body env).wrap (fun f => match f with
              | .next | .cont => .pure (.again (.forLoop tg it body [] env))
              | .brk => .pure (.done .next)
              | .ret v => .pure (.done (.ret v))) (noteK env) id id) fs s3) (fun _ _ => False) s2) (fun _ _ => False) s1) (fun _ _ => False) s) :
    Seg (model prog w) A R Y n s₀ (.forLoop tg it body [] env) ((model prog w).den (.forLoop tg it body [] env)) fs s := by
  show Seg _ A R Y n s₀ _ ((forTurn tg it body [] env).onRaise (fun x => do noteFrame x env; theTreesLotGoes x)) fs s
  unfold forTurn
  rw [Sem.onRaise_eq_wrap]
  refine seg_at ?_
  refine seg_bind_wrap (wpAny_pure ?_)
  refine seg_bind_wrap (wpAny_onRaise (wpAny_mono h (fun r s1 h1 => ?_) fun _ _ z => z.elim))
  cases r with
  | none => exact h1
  | some v =>
    refine seg_bind_wrap (wpAny_mono h1 (fun _ s2 h2 => ?_) fun _ _ z => z.elim)
    refine seg_bind_wrap (wpAny_mono h2 (fun _ s3 h3 => ?_) fun _ _ z => z.elim)
    show Seg _ A R Y n s₀ _ (((execs body env) >>= _).wrap _ _ _ _) fs s3
    rw [Sem.bind_eq_wrap', Sem.wrap_wrap]
    rw [Sem.wrap_congr (execs body env) _ _ (K' := fun f => match f with
            | .next | .cont => .pure (.again (.forLoop tg it body [] env))
            | .brk => .pure (.done .next)
            | .ret v => .pure (.done (.ret v))) (H' := noteK env)
        (fun f => by cases f <;> rfl)
        (fun e => by rfl)]
    exact h3
theorem seg_block {c : Code} (h : Seg (model prog w) A R Y n s₀ (.block [] env) (.pure (.done .next)) fs s) : Seg (model prog w) A R Y n s₀ c (.pure (.again (.block [] env))) fs s :=
  seg_again rfl h
end
section
variable {α : Type} {G : Gn} {It : α → V → Hp → Prop} {C : List α → Shared → Hp → Prop}
def tGFor (wi : TI) (g : TG) (tb : TGn α) : TGn α := fun D r σ H => wi σ H fun J H1 => Ex H H1 ∧ ∃ W : Nat → Nat → List α → L2.St → Hp → Prop, (∃ m, W 0 m r σ H1) ∧ ∀ i m r σ H, W i m r σ H →
  (J.stop i H ∧ D.nx r σ H) ∨ (J.go i H ∧ ∃ N : List α → L2.St → Hp → Prop, (∀ r' σ' H', N r' σ' H' → ∃ m', m' < m ∧ W (i + 1) m' r' σ' H') ∧
    ∀ x H', J.yld i H x H' → Ex H H' ∧ g x σ H' fun σ2 H2 => Ex H' H2 ∧ tb { nx := N, ct := N, bk := D.nx } r σ2 H2)
theorem gc_for {ip ip' : List (Addr × Obj)} {c c' : Code} {fs : List Frame} {gd : Bool → Bool} {k : Result → Sem PySem.Fin} {l kp : List Value} {p : Pos} (g : GC G ip c fs gd) (hip : ∀ p ∈ ip', G.n ≤ p.1) (hw : c'.weight = 0) (hu : c'.cUnits = 0) :
    GC G ip' c' (.ret k none (gd false) l c p kp :: fs) id where
  ip := hip
  ga := g.ga
  over := (GenW.over_loop hw hu).trans g.over
  split := by
    show (splitAtGen fs).map _ = none
    rw [g.split]; rfl
  guard := by
    show (gd false || fs.any Frame.guarded) = false
    rw [g.gd, g.guard]; rfl
  gd := rfl
theorem gs_for {tg iter : Expr} {body : List Stmt} {wi : TI} {gt : TG} {tb : TGn α} {pos : Pos} (hi : ∀ s0 H0, PI (G.X s0 H0) tg iter wi) (hg : ∀ s0 H0, PG (G.X s0 H0) tg gt) (hb : GSs G It C body tb)
    (hs : ∀ x, foldedSetIterable iter G.env x = pure x := by intro _; rfl) : GS G It C (.For tg iter body [] pos) (tGFor wi gt tb) := by
  refine ⟨fun ip c fs r s₀ Kf J gd lv s σ H D g k hI ht => ?_⟩
  obtain ⟨Hw, hC, ex, z, I⟩ := hI
  refine seg_For ?_ hs
  rw [g.over]
  refine wpAny_mono ((hi _ _).run ip s σ H _ I ht) (fun v s1 h1 => ?_) fun _ _ hx => hx.elim
  refine wpAny_mono h1 (fun itv s2 h2 => ?_) fun _ _ hx => hx.elim
  obtain ⟨it, fp, tn, J', H2, e, I2, T, st2, f2, e2, W, ⟨m0, w0⟩, turn⟩ := h2
  subst e
  intro p
  have gl := fun (ip' : List (Addr × Obj)) (hip : ∀ p ∈ ip', G.n ≤ p.1) (kk : Result → Sem PySem.Fin) => gc_for (k := kk) (c' := .forLoop tg (.ref it) body [] G.env) (l := lv []) (kp := []) (p := p) g hip rfl rfl
  have young : ∀ b ∈ fp, G.n ≤ b := fun b hb => by
    obtain ⟨_, _, _, f3, _⟩ := f2 b hb
    rcases f3 with f3 | f3
    · exact absurd (show b ∈ ([] : List Addr) from f3) (by simp)
    · have q : (trunc G.n s₀.heap).objs.size ≤ b := f3
      rw [trunc_size, Nat.min_eq_left z] at q
      exact q
  have stat : ∀ {s₀' : Shared} {Hw' H' : Hp}, (∀ b ∈ fp, H' b = none) → ∀ b ∈ fp, FpOk (G.X (G.s0 s₀') Hw') ip H' b := fun {s₀' Hw' H'} hn b hb => by
    obtain ⟨_, f1, f2', _, f4, f5⟩ := f2 b hb
    refine ⟨hn b hb, f1, f2', .inr ?_, f4, f5⟩
    show (trunc G.n s₀'.heap).objs.size ≤ b
    rw [trunc_size]
    exact Nat.le_trans (Nat.min_le_left _ _) (young b hb)
  have loop : ∀ (m i : Nat) (r : List α) (s₀ s : Shared) (σ : L2.St) (H : Hp), W i m r σ H → GI G C ip r s₀ σ H s → tn i s.heap → (∀ b ∈ fp, H b = none) →
      Seg (model G.P G.w) G.A (GR G C) (GY G It C) r.length s₀ (.forLoop tg (.ref it) body [] G.env) ((model G.P G.w).den (.forLoop tg (.ref it) body [] G.env))
        (.ret (fun r => ((match r with | .ok f => (.pure f : Sem Flow) | .error e => .raise e).onRaise (cameBack G.env)).wrap Kf J gd lv) none (gd false) (lv []) c p [] :: fs) s := by
    intro m
    induction m using Nat.strongRecOn with
    | ind m ih =>
      intro i r s₀ s σ H w hI st fr
      obtain ⟨Hw, hC, ex, z, I⟩ := hI
      refine seg_forLoop ?_
      rw [(gl ip g.ip _).over]
      rcases turn i m r σ H w with ⟨stop, qn⟩ | ⟨go, N, hN, step⟩
      · refine wpAny_mono (T.done (G.X (G.s0 s₀) Hw) rfl rfl rfl rfl i ip s σ H (fun _ _ => False) I (stat fr) st stop) (fun rr s4 h4 => ?_) fun _ _ hx => hx.elim
        obtain ⟨hr, I4⟩ := h4
        subst hr
        exact seg_block (seg_leaf (.ok .next) (k r s₀ s4 .next ⟨σ, H, ⟨Hw, hC, ex, z, I4⟩, qn⟩))
      · refine wpAny_mono (T.item (G.X (G.s0 s₀) Hw) rfl rfl rfl rfl i ip s σ H (fun _ _ => False) I (stat fr) st go) (fun rr s4 h4 => ?_) fun _ _ hx => hx.elim
        obtain ⟨u, hr, h4⟩ := h4
        subst hr
        refine wpAny_mono h4 (fun _ s5 h5 => ?_) fun _ _ hx => hx.elim
        obtain ⟨x, H5, I5, r5, y5, st5, fr5⟩ := h5
        obtain ⟨e5, q5⟩ := step x H5 y5
        have I5' := I5.pinned (stat fr5) (T.obj _ _ st5)
        refine wpAny_mono ((hg _ _).run _ s5 σ H5 x u _ I5' r5 q5) (fun _ s6 h6 => ?_) fun _ _ hx => hx.elim
        obtain ⟨σ6, H6, I6, e6, q6⟩ := h6
        have hip' : ∀ p ∈ ip ++ pinsAt fp s5.heap, G.n ≤ p.1 := fun p hp => by
          rcases List.mem_append.mp hp with hp | hp
          · exact g.ip p hp
          · exact young p.1 (of_pinsAt hp).1
        refine hb.run (ip ++ pinsAt fp s5.heap) _ _ r s₀ _ _ id id s6 σ6 H6 { nx := N, ct := N, bk := D.nx } (gl _ hip' _) (fun r7 s₀7 s7 f hs7 => ?_) ⟨Hw, hC, (ex.trans e5).trans e6, z, I6⟩ q6
        have again : ∀ {σ7 : L2.St} {H7 : Hp}, GI G C (ip ++ pinsAt fp s5.heap) r7 s₀7 σ7 H7 s7 → N r7 σ7 H7 → Seg (model G.P G.w) G.A (GR G C) (GY G It C) r7.length s₀7 (.forLoop tg (.ref it) body [] G.env) (.pure (.again (.forLoop tg (.ref it) body [] G.env)))
            (.ret (fun r => ((match r with | .ok f => (.pure f : Sem Flow) | .error e => .raise e).onRaise (cameBack G.env)).wrap Kf J gd lv) none (gd false) (lv []) c p [] :: fs) s7 := fun {σ7 H7} hG n7 => by
          obtain ⟨m', hm, w7⟩ := hN r7 σ7 H7 n7
          obtain ⟨Hw7, hC7, ex7, z7, I7⟩ := hG
          refine seg_again rfl (ih m' hm (i + 1) r7 s₀7 s7 σ7 H7 w7 ⟨Hw7, hC7, ex7, z7, I7.unpinned⟩ (T.keep _ _ _ st5 fun b hb o e => (I7.pin (b, o) (List.mem_append_right _ (List.mem_append_right _ (mem_pinsAt hb e)))).1) fun b hb => ?_)
          obtain ⟨o, e, d⟩ := T.obj _ _ st5 b hb
          exact (I7.pin (b, o) (List.mem_append_right _ (List.mem_append_right _ (mem_pinsAt hb e)))).2.1
        cases f with
        | next => obtain ⟨σ7, H7, hG, n7⟩ := hs7; exact again hG n7
        | cont => obtain ⟨σ7, H7, hG, n7⟩ := hs7; exact again hG n7
        | brk =>
          obtain ⟨σ7, H7, ⟨Hw7, hC7, ex7, z7, I7⟩, n7⟩ := hs7
          exact seg_leaf (.ok .next) (k r7 s₀7 s7 .next ⟨σ7, H7, ⟨Hw7, hC7, ex7, z7, I7.unpinned⟩, n7⟩)
        | ret v => exact hs7.elim
  exact loop m0 0 r s₀ s2 σ H2 w0 ⟨Hw, hC, ex.trans e2, z, I2⟩ st2 fun b hb => (f2 b hb).1
end
end K18
end
section
set_option Elab.async false
set_option linter.all false
set_option maxRecDepth 100000
set_option maxHeartbeats 4000000
namespace K18
open PySem PySem.Spec PyProof.Rows L2
open Sem (wp)
/-- one fewer, if any is left -/
def nextN (f : Nat → Prop) : Nat → Prop
  | 0 => False
  | m + 1 => f m
def Susp (x : GenState) : Prop := ∃ k l c p fs cl, x = .suspended k l c p fs cl
/-- a sleeping generator is woken; where it sleeps again, that is told -/
theorem wpAny_resumeS {M : Model} {A : Around} {R : GenEnd} {Y : Protocol} {n : Nat} {E : Value → Shared → Prop} {s : Shared} {g : Nat} {gs : GenState}
    {r : Resume} {l : List Value} {α : Type} {k : GenResult → Sem α} {Q : α → Shared → Prop} (hg : s.gens[g]? = some gs)
    (hgo : gs.Goes M A R Y n r (s.setGen g .running))
    (hR : ∀ x s₁, R n (s.setGen g .running) x s₁ → wpAny M A (k (End.ret x).result) Q E (s₁.setGen g .finished))
    (hY : ∀ v s₁ gs', gs'.bare = true → Susp gs' → Y (n - 1) (s.setGen g .running) v s₁ (fun r' s'' => nextN (fun m => gs'.Goes M A R Y m r' s'') n) →
      wpAny M A (k (.yielded v)) Q E (s₁.setGen g gs')) :
    wpAny M A (.resume g r l k) Q E s := by
  intro Γ p hΓ
  rw [Sem.wp_resume]
  have hB : ∀ c, (Γ.wake c p).Woken A := fun c => hΓ.wake c p
  have fin : ∀ e₁ s₁, SegEnd R Y n (Seg.next M A R Y n) (s.setGen g .running) e₁ s₁ →
      wp M Γ (k e₁.result) (fun a _ s' => Q a s') (fun e _ s' => E e s') p (s₁.setGen g e₁.genState) := by
    intro e₁ s₁ he
    cases e₁ with
    | ret x => exact hR x s₁ he Γ p hΓ
    | susp v g₀ l₀ k₀ c₀ p₀ fs₀ =>
      refine hY v s₁ _ (End.bare_of_quiet he.1) ⟨_, _, _, _, _, _, rfl⟩ ?_ Γ p hΓ
      cases n with
      | zero => exact he.2
      | succ m => exact he.2
  have hqt : ∀ e₁ s₁, SegEnd R Y n (Seg.next M A R Y n) (s.setGen g .running) e₁ s₁ → e₁.quiet = true := by
    intro e₁ s₁ he
    cases e₁ with
    | ret x => rfl
    | susp v g₀ l₀ k₀ c₀ p₀ fs₀ => exact he.1
  cases gs with
  | fresh c =>
    obtain ⟨rfl, hs⟩ := hgo
    obtain ⟨e₁, s₁, hr, he⟩ := seg_iff.mp hs (Γ.wake c p) p rfl (hB c)
    exact ⟨_, _, by unfold Wakes; rw [hg]; exact ⟨e₁, s₁, hr, hqt e₁ s₁ he, rfl, rfl⟩, fin e₁ s₁ he⟩
  | suspended k₀ l₀ c₀ p₀ fs₀ cl =>
    obtain ⟨e₁, s₁, hr, he⟩ := seg_iff.mp hgo (Γ.wake c₀ p) p₀ rfl (hB c₀)
    exact ⟨_, _, by unfold Wakes; rw [hg]; exact ⟨e₁, s₁, hr, hqt e₁ s₁ he, rfl, rfl⟩, fin e₁ s₁ he⟩
  | running => exact hgo.elim
  | finished => exact hgo.elim
/-- next of a generator that lets no exception out -/
theorem next_gen {P : Program} {w : World} {A : Around} {E : Value → Shared → Prop} {s : Shared} {a : Addr} {g n : Nat} {gs : GenState} {F : Shared → Shared → Prop} {Y : Protocol} {Q : Option Value → Shared → Prop} (hh : A.handled = none)
    (hl : s.heap.NoLimit) (hroom : A.depth < recursionLimit) (hg : s.heap.IsGen a g) (hgs : s.gens[g]? = some gs)
    (hgo : gs.Goes (model P w) A.in1 (fun _ s₀ r s₁ => (r = .ok (.ret .none) ∨ r = .ok .next) ∧ F s₀ s₁) Y n (.send .none) (s.setGen g .running))
    (hY : ∀ v s₁ gs', gs'.bare = true → Susp gs' → Y (n - 1) (s.setGen g .running) v s₁ (fun r' s'' => nextN (fun m => gs'.Goes (model P w) A.in1 (fun _ s₀ r s₁ => (r = .ok (.ret .none) ∨ r = .ok .next) ∧ F s₀ s₁) Y m r' s'') n) → Q (some v) (s₁.setGen g gs'))
    (hP : ∀ s₁, F (s.setGen g .running) s₁ → ∀ h', (∀ b o, s₁.heap.get? b = some o → h'.get? b = some o) → Q none { s₁.setGen g .finished with heap := h' }) :
    wpAny (model P w) A (pyNext (.ref a)) Q E s := by
  unfold pyNext
  refine wpAny_bind (wpAny_attempt (wpAny_callSpecial?_slot (name := Str.ofString "__next__") hg.typeIs slot_gen_next
    (wpAny_call_entry slot_gen_next hg.typeIs entry_gen_next ?_ (args_gen_next _))))
  show wpAny _ A.in1 (Builtin.Generator.genWake (.ref a) (.send .none)) _ _ s
  unfold Builtin.Generator.genWake
  refine wpAny_bind (wpAny_holding (wpAny_genNumber hg (wpAny_bind (wpAny_genState hgs ?_))))
  cases gs with
  | running => exact hgo.elim
  | finished => exact hgo.elim
  | _ =>
    refine wpAny_bind (wpAny_roomToWake hl hroom ?_)
    show wpAny _ A.in1 (.resume g (.send .none) [] _) _ _ s
    refine wpAny_resumeS hgs hgo (fun x s₁ hx => ?_) (fun v s₁ gs' hb hsu hv => ?_)
    · obtain ⟨hr, hp⟩ := hx
      have hres : End.result (.ret x) = .returned .none := by
        rcases hr with hr | hr <;> rw [hr] <;> rfl
      first | rw [hres] | simp only [hres]
      show wpAny _ A.in1 (newExc (.type "StopIteration") [] >>= _) _ _ _
      refine wpAny_bind ?_
      simp only [newExc, newTuple]
      refine wpAny_bind (wpAny_newObj_type ?_ (by size_fits))
      refine wpAny_bind (m := firstArgMember _ _) (wpAny_of_eq (a := Value.none) (by first | rfl | (simp only [firstArgMember]; rfl)) ?_)
      refine wpAny_newObj_type ?_ (by size_fits)
      simp only [raiseNew]
      refine wpAny_bind (wpAny_bind (wpAny_handled ?_))
      first | rw [show A.in1.handled = none from hh] | rw [hh]
      refine wpAny_throw ?_
      refine wpAny_bind (wpAny_isInstance (T := "StopIteration") (b := true) ⟨_, Heap.get?_push_size _ rfl, rfl⟩ isSubtype_stop ?_)
      exact wpAny_pure (hP s₁ hp _ fun b o hb => Heap.get?_push_of_some _ (Heap.get?_push_of_some _ hb))
    · exact wpAny_pure ⟨v, rfl, wpAny_pure (hY v s₁ gs' hb hsu hv)⟩
/-! ### the consumer's code does not touch a sleeping generator -/
def asleep : GenState → GenState
  | .suspended _ l c p fs cl => .suspended deadK l c p fs cl
  | x => x
theorem po_asleep (A : Array GenState) : PoA A (A.map asleep) := by
  refine ⟨by simp, fun i a b ha hb => ?_⟩
  rw [Array.getElem?_map, ha] at hb
  cases hb
  cases a with
  | suspended k l c p fs cl => exact .inr ⟨k, l, c, p, fs, cl, rfl, rfl⟩
  | fresh c => exact .inl ⟨rfl, fun _ _ _ _ _ _ z => nomatch z⟩
  | running => exact .inl ⟨rfl, fun _ _ _ _ _ _ z => nomatch z⟩
  | finished => exact .inl ⟨rfl, fun _ _ _ _ _ _ z => nomatch z⟩
theorem bare_po {A B : Array GenState} (h : PoA A B) (hb : AllBare B) : AllBare A := fun y hy => by
  obtain ⟨i, hi, e⟩ := Array.mem_iff_getElem.mp hy
  have hA : A[i]? = some y := by rw [Array.getElem?_eq_getElem hi, e]
  have hiB : i < B.size := by rw [← h.1]; exact hi
  have hB : B[i]? = some B[i] := Array.getElem?_eq_getElem hiB
  have q := hb B[i] (Array.getElem_mem hiB)
  rcases h.2 i y B[i] hA hB with ⟨e1, _⟩ | ⟨k, l, c, p, fs, cl, e1, e2⟩
  · rw [e1]; exact q
  · rw [e2] at q
    rw [e1]
    exact q
theorem bare_asleep {A : Array GenState} (hb : AllBare A) : AllBare (A.map asleep) := fun y hy => by
  obtain ⟨x, hx, rfl⟩ := Array.mem_map.mp hy
  have q := hb x hx
  cases x <;> exact q
theorem gens_frame {α : Type} {M : Model} {A : Around} {t : Sem α} {Q : α → Shared → Prop} {E : Value → Shared → Prop} {s : Shared} {g : Nat} {gs : GenState} (hg : s.gens[g]? = some gs) (hs : Susp gs)
    (h : wpAny M A t Q E (wg s (s.gens.map asleep))) : wpAny M A t (fun a s' => ∃ B, Q a (wg s' B) ∧ (AllBare B → AllBare s'.gens) ∧ s'.gens[g]? = some gs) (fun e s' => ∃ B, E e (wg s' B) ∧ (AllBare B → AllBare s'.gens)) s := by
  intro Γ p hΓ
  have z := wp_transfer t (s := wg s (s.gens.map asleep)) (A := s.gens) (po_asleep s.gens) (h Γ p hΓ)
  refine Sem.wp_mono M Γ t (fun a p' s' y => ?_) (fun e p' s' y => ?_) _ _ z
  · obtain ⟨B, q, po, kp⟩ := y
    refine ⟨B, q, bare_po po, ?_⟩
    obtain ⟨k, l, c, p, fs, cl, rfl⟩ := hs
    have hB : (s.gens.map asleep)[g]? = some (asleep (.suspended k l c p fs cl)) := by rw [Array.getElem?_map, hg]; rfl
    exact (kp g _ hB ⟨l, c, p, fs, cl, rfl⟩).2.trans hg
  · obtain ⟨B, q, po, kp⟩ := y
    exact ⟨B, q, bare_po po⟩
theorem Inv.wg {X : Cx} {pins : List (Addr × Obj)} {σ : L2.St} {H : Hp} {s : Shared} {B : Array GenState} (I : Inv X pins σ H s) (hb : AllBare B) : Inv X pins σ H (wg s B) :=
  ⟨I.ok, I.os, hb, I.base, I.loc, I.cell, I.free, I.freeC, I.pin, I.hok, I.len⟩
end K18
end
section
set_option Elab.async false
set_option linter.all false
set_option maxRecDepth 100000
set_option maxHeartbeats 4000000
namespace K18
open PySem PySem.Spec PyProof.Rows L2
open Sem (wp)
def Gn.at (G : Gn) (A : Around) : Gn := { G with A := A }
/-- what a call of a generator def gives: r is what it will hand out -/
def Made {α : Type} (P : Program) (w : World) (base : Heap) (k : Nat) (outer : List Env) (H : Hp) (s : Shared) (It : α → V → Hp → Prop) (r : List α) (u : Value) (s' : Shared) : Prop :=
  ∃ (G : Gn) (c : Code) (priv : List (Addr × Obj)), G.P = P ∧ G.w = w ∧ G.base = base ∧ G.outer = outer ∧ G.n = s.heap.objs.size ∧ u = .ref G.a ∧ G.n ≤ G.a ∧ (∀ h : Heap, h.get? G.a = some G.go → h.IsGen G.a G.g) ∧
    s'.heap.get? G.a = some G.go ∧ s'.gens[G.g]? = some (.fresh c) ∧ s'.os = s.os ∧ AllBare s'.gens ∧ (∀ b o, s.heap.get? b = some o → s'.heap.get? b = some o) ∧ G.n ≤ s'.heap.objs.size ∧ Priv G priv s' H ∧ (G.a, G.go) ∈ priv ∧
    ∀ (A : Around) (C : List α → Shared → Hp → Prop) (s2 : Shared) (H2 : Hp), Room k A → A.frames = some outer → Wk (G.at A) priv s' H s2 H2 → C r s2 H2 →
      Seg (model P w) A (GR (G.at A) C) (GY (G.at A) It C) r.length s2 c ((model P w).den c) [] s2
structure GenOk {α : Type} (P : Program) (w : World) (K : PySem.W.Frag) (mg : Str → Option Value) (base : Heap) (k : Nat) (f : Addr) (fd : FuncData) (ps : List Str) (It : α → V → Hp → Prop) (sp : List V → Hp → List α → Prop) : Prop where
  len : ∀ vs H r, sp vs H r → vs.length = ps.length
  run : ∀ (A : Around) (outer : List Env) (s : Shared) (H : Hp) (args : Args) (us : List Value) (vs : List V) (r : List α), Room k A → Env0 P w K mg base A outer s H → BindsTo s fd args (ps.zip us) → Vals vs us → sp vs H r →
    codeAny (model P w) A (.call (.ref f) args) (fun res s' => match res with | .ok (.ret u) => Made P w base k outer H s It r u s' | _ => False) s
theorem gen_of {α : Type} {P : Program} {w : World} {K : PySem.W.Frag} {mg : Str → Option Value} {base : Heap} {k : Nat} {f : Addr} {name qual : Str} {params : Arguments} {body : List Stmt} {scope : Scope} {dV kV doc pm cdv ct oc : Value} {an od : Option Addr}
    {osl : Array (Option Value)} {N ps : List Str} {It : α → V → Hp → Prop} {sp : List V → Hp → List α → Prop} (lk : K.lookup f = some ⟨oc, od, .func (PySem.W.fnOf name qual params body scope dV kV doc pm an cdv ct), osl⟩) (hcd : PySem.W.codeIn K cdv qual = true) (S : GScope N ps scope)
    (len : ∀ vs H r, sp vs H r → vs.length = ps.length)
    (hbody : ∀ (A : Around) (outer : List Env) (n a : Addr) (g : Nat) (go : Obj) (C : List α → Shared → Hp → Prop) (H : Hp) (vs : List V) (r : List α), Room k (A.deeper (envOfC qual scope n f cdv)) → sp vs H r →
      ∃ t, GSs ⟨P, w, K, mg, base, N, qual, scope, f, cdv, A, outer, n, a, g, go⟩ It C body t ∧ ∀ H2, Ex H H2 → t { nx := fun r' _ _ => r' = [] } r (start N vs) H2) :
    GenOk P w K mg base (k + 1) f (PySem.W.fnOf name qual params body scope dV kV doc pm an cdv ct) ps It sp := by
  refine ⟨len, fun A outer s H args us vs items hr e0 hb r hsp => ?_⟩
  have hl := len _ _ _ hsp
  have KX : K.In s.heap := e0.mod.kin.keeps fun b o e => (e0.bs b o e).1
  have lim : s.heap.NoLimit := e0.mod.nolimit.keeps fun b o e => (e0.bs b o e).1
  have hkind : ∀ y ∈ ps.zip us, scope.names.lookup y.1 = some .local ∨ (scope.names.lookup y.1 = some .cell ∧ ((cellsFrom (s.heap.objs.size + 1) scope.names []).lookup y.1).isSome = true) := fun ⟨n, v⟩ hy => by
    rcases S.par n (List.of_mem_zip hy).1 with q | q
    · exact .inl q
    · exact .inr ⟨q, PySem.W.cellsFrom_some _ _ _ (.inl q)⟩
  refine codeAny_call_generator hr.depth (KX _ _ lk) rfl S.co S.gen rfl (PySem.W.codeRec_of KX hcd) (hb _ _ _ _ ?_)
  refine wpAny_newFunctionEnv_cells S.kind hkind fun env he s1 x => ?_
  subst he
  have lim1 : s1.heap.NoLimit := lim.keeps x.toInCall.keep
  refine ⟨lim1, ?_⟩
  obtain ⟨h1, tk, es1, hk1⟩ := x.done
  have os1 : s1.os = s.os := by rw [es1]
  have gen1 : s1.gens = s.gens := by rw [es1]
  have lt1 : s.heap.objs.size < s1.heap.objs.size := x.toInCall.ns.lt
  have sz1 : s.heap.objs.size ≤ s1.heap.objs.size := Nat.le_of_lt lt1
  have kp1 : ∀ b o, s.heap.get? b = some o → s1.heap.get? b = some o := x.toInCall.keep
  have main : ∀ (go : Obj) (nm qn : Value) (tk2 : Nat), go.cls = .type "generator" → go.data = .fields #[.int s1.gens.size 0, nm, qn] → go.slots = #[] → (∀ h : Heap, (h.push go).get? h.objs.size = some go) →
      Made P w base (k + 1) outer H s It items (.ref s1.heap.objs.size) { s1 with gens := s1.gens.push (.fresh (.func body (envOfC qual scope s.heap.objs.size f cdv))), toks := tk2, heap := s1.heap.push go } := by
    intro go nm qn tk2 hgc hgd0 hgs hgp
    have hgen : ∀ h : Heap, h.get? s1.heap.objs.size = some go → h.IsGen s1.heap.objs.size s1.gens.size := fun h e => ⟨go, nm, qn, e, hgc, hgd0, hgs⟩
    have hpushed : (s1.heap.push go).get? s1.heap.objs.size = some go := hgp _
    have kp2 : ∀ b o, s1.heap.get? b = some o → (s1.heap.push go).get? b = some o := fun b o e => Heap.get?_push_of_some _ e
    have kp : ∀ b o, s.heap.get? b = some o → (s1.heap.push go).get? b = some o := fun b o e => kp2 b o (kp1 b o e)
    have bar : AllBare (s1.gens.push (.fresh (.func body (envOfC qual scope s.heap.objs.size f cdv)))) := AllBare.push (by rw [gen1]; exact e0.bare) rfl
    have szp : s.heap.objs.size ≤ (s1.heap.push go).objs.size := by
      rw [Heap.size_push]; exact Nat.le_succ_of_le sz1
    -- the generator as it will be woken under A
    let Gz : Around → Gn := fun A => ⟨P, w, K, mg, base, N, qual, scope, f, cdv, A, outer, s.heap.objs.size, s1.heap.objs.size, s1.gens.size, go⟩
    let s' : Shared := { s1 with gens := s1.gens.push (.fresh (.func body (envOfC qual scope s.heap.objs.size f cdv))), toks := tk2, heap := s1.heap.push go }
    have I0 : ∀ Aw : Around, Room (k + 1) Aw → Aw.frames = some outer → Inv ((Gz Aw).X ((Gz Aw).s0 s') H) [] (start N vs) H s' := fun Aw hrw hfr => by
      have e0w : Env0 P w K mg base Aw outer s H := ⟨hfr, e0.mod, e0.bs, e0.bsz, e0.funs, e0.frf, e0.hok, e0.bare⟩
      have I1 : Inv (gcxOf P w K mg base N qual scope f cdv Aw outer s H (fun _ _ _ => False) []) [] (start N vs) H s1 := inv_startG S hrw.hd e0w hl r x
      have hd := hrw.hd
      obtain ⟨m, hns, hm⟩ := I1.loc
      refine ⟨⟨I1.ok.mod, I1.ok.kind, I1.ok.glob, I1.ok.blt, ?_, I1.ok.inj, I1.ok.has, fun y c hy h => ?_, I1.ok.hd, I1.ok.frames, I1.ok.stk, (fun b hb => absurd (show b ∈ ([] : List Addr) from hb) (by simp)), fun b o e => ?_, ?_, (fun b _ _ hb => absurd (show b ∈ ([] : List Addr) from hb) (by simp)), (fun b hb => absurd (show b ∈ ([] : List Addr) from hb) (by simp)), ?_, e0.frf⟩,
        rfl, bar, ?_, ⟨m, ?_, fun i y v h1 h2 h3 => ?_⟩, fun y c h => ?_, I1.free, I1.freeC, fun p hp => ?_, I1.hok.kept kp2, I1.len⟩
      · show (trunc s.heap.objs.size (s1.heap.push go)).objs.size ≤ s.heap.objs.size
        rw [trunc_size]
        exact Nat.min_le_left _ _
      · show (trunc s.heap.objs.size (s1.heap.push go)).objs.size ≤ c
        rw [trunc_size]
        exact Nat.le_trans (Nat.min_le_left _ _) (I1.ok.cab y c hy h)
      · show (trunc s.heap.objs.size (s1.heap.push go)).get? b = some o ∧ H b = none
        rw [trunc_get (Nat.lt_of_lt_of_le (Heap.lt_size e) e0.bsz)]
        exact ⟨kp b o (e0.bs b o e).1, (e0.bs b o e).2⟩
      · show base.objs.size ≤ (trunc s.heap.objs.size (s1.heap.push go)).objs.size
        rw [trunc_size]
        exact Nat.le_min.mpr ⟨e0.bsz, Nat.le_trans e0.bsz szp⟩
      · refine funs_of e0.funs fun b _ o e => ?_
        show (trunc s.heap.objs.size (s1.heap.push go)).get? b = some o
        rw [trunc_get (Heap.lt_size e)]
        exact kp b o e
      · refine { keep := fun b o q n _ _ => (trunc_some q).2, slot := fun b o q n _ _ => ⟨o.slots, (trunc_some q).2⟩, free := fun b o q n _ => n, there := fun b o q _ => ⟨o, (trunc_some q).2⟩, tups := fun _ _ q => q, frzs := fun _ _ _ q => q, tbls := fun b ps q => ⟨#[], ?_⟩ }
        have q' : H b = some (.tbl ps) := q
        rw [q']; simp
      · obtain ⟨o, es, ep, ho, hr⟩ := hns
        exact ⟨o, es, ep, kp2 _ _ ho, hr⟩
      · obtain ⟨u, ru, hl⟩ := hm i y v h1 h2 h3
        refine ⟨u, ru, ?_⟩
        rcases hl with ⟨hk, hv⟩ | ⟨hk, c, hc, o, ho, hi⟩
        · exact .inl ⟨hk, hv⟩
        · exact .inr ⟨hk, c, hc, o, kp2 _ _ ho, hi⟩
      · obtain ⟨v, o, ho, hi⟩ := I1.cell y c h
        exact ⟨v, o, kp2 _ _ ho, hi⟩
      · have hp' : p ∈ [(s1.heap.objs.size, go)] := by
          rcases List.mem_append.mp hp with z | z
          · exact z
          · exact absurd z (by simp)
        rw [List.mem_singleton.mp hp']
        refine ⟨hpushed, I1.hok.fresh (Nat.le_refl _), Nat.ne_of_gt lt1, I1.nofs (Nat.le_refl _), fun v q => ?_⟩
        have q' : go.data = .cell v := q
        rw [hgd0] at q'
        cases q'
    have rm : Room (k + 1) A := hr
    have pv := GI.priv (G := Gz A) (ip := []) (s₀ := s') (fun p hp => absurd hp (by simp)) sz1 szp (I0 A hr e0.frames)
    refine ⟨Gz A, .func body (envOfC qual scope s.heap.objs.size f cdv), privOf (Gz A) [] s'.heap, rfl, rfl, rfl, rfl, rfl, rfl, sz1, hgen, hpushed, Array.getElem?_push_size .., os1, bar, kp, szp, pv, List.mem_append_right _ List.mem_cons_self, ?_⟩
    intro Aw C s2 H2 hrw hfr wk hC
    have I2 := GI.woken (G := Gz Aw) (ip := []) (s₀ := s') szp (I0 Aw hrw hfr) wk
    obtain ⟨t, ht, hq⟩ := hbody Aw outer s.heap.objs.size s1.heap.objs.size s1.gens.size go C H vs items (hrw.deeper _) hsp
    refine seg_func ?_
    refine ht.run [] (.func body (envOfC qual scope s.heap.objs.size f cdv)) [] items s2 _ _ id id s2 (start N vs) H2 { nx := fun r' _ _ => r' = [] } ⟨fun p hp => absurd hp (by simp), sz1, GenW.over_func, rfl, rfl, rfl⟩ (fun rest s₀ s3 fl hs => ?_) ⟨H2, hC, .refl _, wk.sz, I2⟩ (hq H2 wk.ex)
    cases fl with
    | next =>
      obtain ⟨σ, H3, ⟨Hw, hC3, ex3, z3, I3⟩, e3⟩ := hs
      have e3' : rest = [] := e3
      subst e3'
      exact seg_end (.ok (.ret .none)) ⟨.inl rfl, Hw, H3, hC3, GI.yd ex3 I3⟩
    | brk => obtain ⟨_, _, _, q⟩ := hs; exact False.elim q
    | cont => obtain ⟨_, _, _, q⟩ := hs; exact False.elim q
    | ret u => exact hs.elim
  exact main _ _ _ _ rfl rfl rfl fun h => Heap.get?_push_size _ rfl
end K18
end
section
set_option Elab.async false
set_option linter.all false
set_option maxRecDepth 100000
set_option maxHeartbeats 4000000
namespace K18
open PySem PySem.Spec PyProof.Rows L2
open Sem (wp)
/-! ### the sleeping generator's things, frozen -/
def addF (priv : List (Addr × Obj)) (H : Hp) : Hp := fun b => match priv.find? (fun p => p.1 == b) with
  | some p => some (.frz p.2 (.ext fun h => h.get? b = some p.2))
  | none => H b
def dropF (priv : List (Addr × Obj)) (H : Hp) : Hp := fun b => match priv.find? (fun p => p.1 == b) with
  | some _ => none
  | none => H b
theorem find_cases (priv : List (Addr × Obj)) (b : Addr) : (∃ p ∈ priv, p.1 = b ∧ priv.find? (fun p => p.1 == b) = some p) ∨ (priv.find? (fun p => p.1 == b) = none ∧ ∀ p ∈ priv, p.1 ≠ b) := by
  cases h : priv.find? (fun p => p.1 == b) with
  | some p => exact .inl ⟨p, List.mem_of_find?_eq_some h, by simpa using List.find?_some h, rfl⟩
  | none =>
    refine .inr ⟨rfl, fun p hp e => ?_⟩
    have := List.find?_eq_none.mp h p hp
    simp [e] at this
theorem addF_in {priv : List (Addr × Obj)} {H : Hp} {p : Addr × Obj} (hp : p ∈ priv) : ∃ q ∈ priv, q.1 = p.1 ∧ addF priv H p.1 = some (.frz q.2 (.ext fun h => h.get? p.1 = some q.2)) := by
  rcases find_cases priv p.1 with ⟨q, hq, e, f⟩ | ⟨_, h⟩
  · exact ⟨q, hq, e, by unfold addF; rw [f]⟩
  · exact absurd rfl (h p hp)
theorem addF_out {priv : List (Addr × Obj)} {H : Hp} {b : Addr} (h : ∀ p ∈ priv, p.1 ≠ b) : addF priv H b = H b := by
  rcases find_cases priv b with ⟨q, hq, e, f⟩ | ⟨f, _⟩
  · exact absurd e (h q hq)
  · unfold addF; rw [f]
theorem dropF_in {priv : List (Addr × Obj)} {H : Hp} {p : Addr × Obj} (hp : p ∈ priv) : dropF priv H p.1 = none := by
  rcases find_cases priv p.1 with ⟨q, hq, e, f⟩ | ⟨_, h⟩
  · unfold dropF; rw [f]
  · exact absurd rfl (h p hp)
theorem dropF_out {priv : List (Addr × Obj)} {H : Hp} {b : Addr} (h : ∀ p ∈ priv, p.1 ≠ b) : dropF priv H b = H b := by
  rcases find_cases priv b with ⟨q, hq, e, f⟩ | ⟨f, _⟩
  · exact absurd e (h q hq)
  · unfold dropF; rw [f]
theorem dropF_none {priv : List (Addr × Obj)} {H : Hp} {b : Addr} (h : H b = none) : dropF priv H b = none := by
  rcases find_cases priv b with ⟨q, hq, e, f⟩ | ⟨f, _⟩
  · unfold dropF; rw [f]
  · unfold dropF; rw [f]; exact h
theorem out_of {priv : List (Addr × Obj)} {H : Hp} {b : Addr} {o : HO} (hn : ∀ p ∈ priv, H p.1 = none) (h : H b = some o) : ∀ p ∈ priv, p.1 ≠ b := fun p hp e => by
  have := hn p hp
  rw [e, h] at this
  cases this
theorem ex_addF {priv : List (Addr × Obj)} {H : Hp} (hn : ∀ p ∈ priv, H p.1 = none) : Ex H (addF priv H) := fun b o h => by
  rw [addF_out (out_of hn h)]; exact h
theorem ex_dropF {priv : List (Addr × Obj)} {H H' : Hp} (hn : ∀ p ∈ priv, H p.1 = none) (e : Ex (addF priv H) H') : Ex H (dropF priv H') := fun b o h => by
  have q := out_of hn h
  rw [dropF_out q]
  exact e b o (by rw [addF_out q]; exact h)
theorem hok_addF {P : Program} {w : World} {priv : List (Addr × Obj)} {H : Hp} {h : Heap} (hn : ∀ p ∈ priv, H p.1 = none) (hg : ∀ p ∈ priv, h.get? p.1 = some p.2) (ok : HOk P w H h) : HOk P w (addF priv H) h := fun b o q => by
  rcases find_cases priv b with ⟨p, hp, e, f⟩ | ⟨f, hout⟩
  · have z : o = .frz p.2 (.ext fun h => h.get? b = some p.2) := by
      unfold addF at q
      rw [f] at q
      exact (Option.some.inj q).symm
    subst z
    have hb : h.get? b = some p.2 := by rw [← e]; exact hg p hp
    exact ⟨hb, hb, ⟨_, hb⟩, fun h1 h2 y k => k _ y⟩
  · rw [addF_out hout] at q
    exact (ok b o q).stay (fun c v _ z => z) (fun c z => ex_addF hn c _ z) fun c xs z => ex_addF hn c _ z
theorem hok_dropF {P : Program} {w : World} {priv : List (Addr × Obj)} {H H' : Hp} {h : Heap} (hn : ∀ p ∈ priv, H p.1 = none) (e : Ex (addF priv H) H') (ok : HOk P w H' h) : HOk P w (dropF priv H') h := fun b o q => by
  have hout : ∀ p ∈ priv, p.1 ≠ b := fun p hp z => by
    rw [← z, dropF_in hp] at q
    cases q
  rw [dropF_out hout] at q
  have frz : ∀ c u, H' c = some u → (∀ o' u', u ≠ .frz o' u') → ∀ p ∈ priv, p.1 ≠ c := fun c u hc hu p hp z => by
    obtain ⟨p', _, _, hf⟩ := addF_in (H := H) hp
    have := e _ _ hf
    rw [z, hc] at this
    exact hu _ _ (Option.some.inj this)
  exact (ok b o q).stay (fun c v _ z => z) (fun c z => by rw [dropF_out (frz c _ z (fun _ _ y => by cases y))]; exact z) fun c xs z => by rw [dropF_out (frz c _ z (fun _ _ y => by cases y))]; exact z
section
variable {X : Cx} {pins : List (Addr × Obj)} {σ σ' : L2.St} {H H' : Hp} {s s' : Shared} {priv : List (Addr × Obj)} {n : Nat}
/-- what stands since before the generator was made -/
structure Old (X : Cx) (pins : List (Addr × Obj)) (n : Nat) : Prop where
  s0 : X.s_0.heap.objs.size ≤ n
  loc : X.env.locals < n
  cell : ∀ x c, X.env.cells.lookup x = some c → c < n
  pin : ∀ p ∈ X.pn ++ pins, p.1 < n
  frs : ∀ b ∈ frs X.stack, b < n
theorem Old.of (I : Inv X pins σ H s) : Old X pins s.heap.objs.size where
  s0 := I.sz
  loc := I.lt
  cell := fun x c h => by
    obtain ⟨v, o, ho, _⟩ := I.cell x c h
    exact Heap.lt_size ho
  pin := fun p hp => Heap.lt_size (I.pin p hp).1
  frs := fun b hb => by
    obtain ⟨_, o, ho, _⟩ := I.stack.mem hb
    exact Heap.lt_size ho
theorem inv_addF (O : Old X pins n) (I : Inv X pins σ H s) (hn : ∀ p ∈ priv, H p.1 = none) (hy : ∀ p ∈ priv, n ≤ p.1) (hg : ∀ p ∈ priv, s.heap.get? p.1 = some p.2) : Inv X pins σ (addF priv H) s := by
  have lt : ∀ b, b < n → ∀ p ∈ priv, p.1 ≠ b := fun b hb p hp e => by
    have := hy p hp
    rw [e] at this
    exact absurd (Nat.lt_of_lt_of_le hb this) (Nat.lt_irrefl _)
  refine ⟨I.ok, I.os, I.bare, { I.base with free := fun b o q z hx => ?_, tups := fun b xs q => ?_, frzs := fun b o u q => ?_, tbls := fun b ps q => ?_ }, I.loc, I.cell, ?_, fun x c h => ?_, fun p hp => ?_, hok_addF hn hg I.hok, I.len⟩
  · rw [addF_out (lt b (Nat.lt_of_lt_of_le (Heap.lt_size q) O.s0))]
    exact I.base.free b o q z hx
  · have z := I.base.tups b xs q
    rw [addF_out (out_of hn z)]; exact z
  · have z := I.base.frzs b o u q
    rw [addF_out (out_of hn z)]; exact z
  · obtain ⟨more, z⟩ := I.base.tbls b ps q
    exact ⟨more, by rw [addF_out (out_of hn z)]; exact z⟩
  · rw [addF_out (lt _ O.loc)]; exact I.free
  · rw [addF_out (lt _ (O.cell x c h))]; exact I.freeC x c h
  · obtain ⟨h1, h2, h3⟩ := I.pin p hp
    exact ⟨h1, by rw [addF_out (lt _ (O.pin p hp))]; exact h2, h3⟩
theorem inv_dropF (O : Old X pins n) (Iy : Inv X pins σ H s) (hn : ∀ p ∈ priv, H p.1 = none) (e : Ex (addF priv H) H') (I : Inv X pins σ' H' s') : Inv X pins σ' (dropF priv H') s' := by
  refine ⟨I.ok, I.os, I.bare, { I.base with free := fun b o q z hx => dropF_none (I.base.free b o q z hx), tups := fun b xs q => ?_, frzs := fun b o u q => ?_, tbls := fun b ps q => ?_ }, I.loc, I.cell, dropF_none I.free, fun x c h => dropF_none (I.freeC x c h), fun p hp => ?_, hok_dropF hn e I.hok, I.len⟩
  · rw [dropF_out (out_of hn (Iy.base.tups b xs q))]; exact I.base.tups b xs q
  · rw [dropF_out (out_of hn (Iy.base.frzs b o u q))]; exact I.base.frzs b o u q
  · obtain ⟨more, z⟩ := Iy.base.tbls b ps q
    obtain ⟨more', z'⟩ := I.base.tbls b ps q
    exact ⟨more', by rw [dropF_out (out_of hn z)]; exact z'⟩
  · obtain ⟨h1, h2, h3⟩ := I.pin p hp
    exact ⟨h1, dropF_none h2, h3⟩
theorem frz_at (hn : ∀ p ∈ priv, H p.1 = none) (hu : ∀ p ∈ priv, ∀ q ∈ priv, p.1 = q.1 → p.2 = q.2) (e : Ex (addF priv H) H') (ok : HOk X.prog X.w H' s'.heap) : ∀ p ∈ priv, s'.heap.get? p.1 = some p.2 := fun p hp => by
  obtain ⟨q, hq, eq, hf⟩ := addF_in (H := H) hp
  have z := ok _ _ (e _ _ hf)
  have z1 : s'.heap.get? p.1 = some q.2 := z.1
  rw [z1, hu q hq p hp eq]
/-- the consumer wakes the generator -/
theorem wk_of {G : Gn} {Hy : Hp} {sy : Shared} (hb : G.base = X.base) (ho : G.outer = X.stack) (hP : G.P = X.prog) (hw : G.w = X.w) (hz : G.n ≤ G.a) (hga : (G.a, G.go) ∈ priv) (O : Old X pins G.n) (hos : sy.os = X.s_0.os) (I : Inv X pins σ H s) (ex : Ex Hy H)
    (pv : ∀ p ∈ priv, s.heap.get? p.1 = some p.2 ∧ H p.1 = none) : Wk G priv sy Hy s H where
  os := I.os.trans hos.symm
  bare := I.bare
  hok := by rw [hP, hw]; exact I.hok
  ex := ex
  pv := pv
  bs := by rw [hb]; exact I.bs
  funs := by
    rw [hb, ho]
    refine funs_of I.stack fun b hb o e => ?_
    rw [trunc_get (O.frs b hb)]
    exact e
  frf := by rw [ho]; exact I.stkFree
  sz := Nat.le_trans hz (Nat.le_of_lt (Heap.lt_size (pv _ hga).1))
/-- the generator has run, the consumer's things stand -/
theorem inv_yd {G : Gn} {s₀ : Shared} {Hw : Hp} (ho : G.outer = X.stack) (hP : G.P = X.prog) (hw : G.w = X.w) (O : Old X pins G.n) (I : Inv X pins σ Hw s₀) (y : Yd G s₀ Hw s H) : Inv X pins σ H s := by
  have un := y.un
  have hok := y.hok
  rw [ho] at un
  rw [hP, hw] at hok
  have nch : ∀ b, b ∉ (List.range s₀.heap.objs.size).filter (fun b => decide (G.n ≤ b)) → ∀ o, s₀.heap.get? b = some o → b < G.n := fun b hb o e => by
    refine Nat.lt_of_not_le fun hle => hb (List.mem_filter.mpr ⟨List.mem_range.mpr (Heap.lt_size e), by simpa using hle⟩)
  refine I.call' (ch := (List.range s₀.heap.objs.size).filter fun b => decide (G.n ≤ b)) y.os { keep := fun b o q n hf hc => ?_, slot := fun b o q n hf hc => ?_, free := fun b o q n hc => ?_, there := fun b o q hc => ?_, tups := un.tups, frzs := un.frzs, tbls := un.tbls } hok y.bare fun b hb => ?_
  · exact un.keep b o (by rw [trunc_get (nch b hc o q)]; exact q) n hf (by simp)
  · exact un.slot b o (by rw [trunc_get (nch b hc o q)]; exact q) n hf (by simp)
  · exact un.free b o (by rw [trunc_get (nch b hc o q)]; exact q) n (by simp)
  · exact un.there b o (by rw [trunc_get (nch b hc o q)]; exact q) (by simp)
  · have hle : G.n ≤ b := by simpa using (List.mem_filter.mp hb).2
    refine ⟨.inr (Nat.le_trans O.s0 hle), Nat.ne_of_gt (Nat.lt_of_lt_of_le O.loc hle), fun x c h => Nat.ne_of_lt (Nat.lt_of_lt_of_le (O.cell x c h) hle), fun p hp => Nat.ne_of_lt (Nat.lt_of_lt_of_le (O.pin p hp) hle)⟩
end
end K18
end
section
set_option Elab.async false
set_option linter.all false
set_option maxRecDepth 100000
set_option maxHeartbeats 4000000
namespace K18
open PySem PySem.Spec PyProof.Rows L2
open Sem (wp)
/-- an expression whose value is a generator that has not begun -/
structure PMade {α : Type} (X : Cx) (k : Nat) (e : Expr) (It : α → V → Hp → Prop) (tg : L2.St → Hp → (List α → Hp → Prop) → Prop) : Prop where
  run : ∀ (pins : List (Addr × Obj)) (s : Shared) (σ : L2.St) (H : Hp) (Q : List α → Hp → Prop), Inv X pins σ H s → tg σ H Q → wpAny (model X.prog X.w) X.A (eval e X.env)
    (fun u s' => ∃ H1 sc r, Inv X pins σ H1 sc ∧ Made X.prog X.w X.base k X.stack H1 sc It r u s' ∧ Q r H1) X.xe s
section
variable {α : Type} {X : Cx} {It : α → V → Hp → Prop}
def tForG (It : α → V → Hp → Prop) (tg : L2.St → Hp → (List α → Hp → Prop) → Prop) (gt : TG) (tb : TS) : TS := fun D σ H => tg σ H fun r H2 => ∃ Pv : List α → L2.St → Prop, Pv r σ ∧ (∀ σ' H', Pv [] σ' → Ex H2 H' → D.nx σ' H') ∧
  ∀ x r' σ' v H', Pv (x :: r') σ' → Ex H2 H' → It x v H' → gt v σ' H' fun σ2 H3 => tb { nx := fun σ4 H4 => Ex H' H4 ∧ Pv r' σ4, ct := fun σ4 H4 => Ex H' H4 ∧ Pv r' σ4, bk := D.nx, rt := D.rt } σ2 H3
theorem ps_forG {k : Nat} {x : Str} {px pos : Pos} {iter : Expr} {body : List Stmt} {tg : L2.St → Hp → (List α → Hp → Prop) → Prop} {gt : TG} {tb : TS} (hnx : ∀ e s, ¬ X.xe e s) (hc : X.calm = true) (hr : Room (k + 2) X.A) (hi : PMade X k iter It tg) (hg : PG X (.Name x px) gt) (hb : PSs X body tb)
    (hIt : ∀ x v H H', It x v H → Ex H H' → It x v H') (hs : ∀ x, foldedSetIterable iter X.env x = pure x := by intro _; rfl) : PS X (.For (.Name x px) iter body [] pos) (tForG It tg gt tb) := by
  have hp : PassesOwn (model X.prog X.w) X.A X.env X.xe := fun e s h => absurd h (hnx e s)
  refine ⟨fun pins s σ H D I h => ?_⟩
  refine wpAny_For (thn (hi.run pins s σ H _ I h) fun u s1 h1 => ?_) hs
  obtain ⟨H1, sc, r, I1, hM, Pv, pv0, pvE, step⟩ := h1
  obtain ⟨G0, c, priv0, eP, ew, eb, eo, en, rfl, hna, hgen, hga, hgs, hos, hbare, hkp, hsz, hpriv, hpm, wake⟩ := hM
  have O : Old X pins G0.n := by rw [en]; exact Old.of I1
  -- the generator, woken by this loop
  let G : Gn := G0.at X.A.in1
  have J1 : Inv X pins σ H1 s1 := I1.call' (ch := []) hos (Un.kept hkp) (I1.hok.kept hkp) hbare fun b z => by simp at z
  let Cc : List α → Shared → Hp → Prop := fun l s H => ∃ σ, Inv X pins σ H s ∧ Pv l σ ∧ Ex H1 H
  refine wpAny_pyIter_gen (hgen _ hga) ?_
  have rn : ∀ {σ : L2.St} {H : Hp} {s : Shared} {x : GenState}, x.bare = true → Inv X pins σ H s → Inv X pins σ H (s.setGen G0.g x) := fun hx I => Inv.wg I (allBare_setGen I.bare hx)
  refine codeAny_forLoop_any (fun k s => ∃ (rest : List α) (σ : L2.St) (H : Hp) (gs : GenState), s.gens[G0.g]? = some gs ∧ Inv X pins σ H s ∧ s.heap.get? G0.a = some G0.go ∧ rest.length = k ∧
      gs.Goes (model X.prog X.w) X.A.in1 (GR G Cc) (GY G It Cc) k (.send .none) (s.setGen G0.g .running)) ?_ r.length ?_
  · rintro n s3 ⟨rest, σ3, H3, gs, hg3, I3, ha3, rfl, hgo⟩
    refine wpAny_passesOwn hp ?_
    have hgl : G0.g < s3.gens.size := (Array.getElem?_eq_some_iff.mp hg3).1
    refine GenW.wpAny_gsz (n := G0.g + 1) hgl (next_gen (A := X.A) (I3.ok.hd hc) I3.nolimit hr.depth (hgen _ ha3) hg3 hgo (fun v s4 gs' hbr hsu hy => ?_) (fun s4 hf h' hk => ?_))
    · intro hsz4
      -- an item has come
      obtain ⟨x0, r', xv, Hw, Hy, priv, hl, ⟨σw, Iw, pvw, exw⟩, rv, hit, yd, hpr, hpm', kap⟩ := hy
      have Iy : Inv X pins σw Hy s4 := inv_yd (G := G) eo eP ew O Iw yd
      have Iy' : Inv X pins σw Hy (s4.setGen G0.g gs') := rn hbr Iy
      have exy : Ex H1 Hy := exw.trans yd.ex
      have hn : ∀ p ∈ priv, Hy p.1 = none := fun p hp => (hpr p hp).2.1
      have hyn : ∀ p ∈ priv, G0.n ≤ p.1 := fun p hp => (hpr p hp).2.2
      have hgp : ∀ p ∈ priv, s4.heap.get? p.1 = some p.2 := fun p hp => (hpr p hp).1
      have hu : ∀ p ∈ priv, ∀ q ∈ priv, p.1 = q.1 → p.2 = q.2 := fun p hp q hq e => by
        have e1 := hgp p hp
        have e2 := hgp q hq
        rw [e, e2] at e1
        exact (Option.some.inj e1).symm
      have If : Inv X pins σw (addF priv Hy) (s4.setGen G0.g gs') := inv_addF O Iy' hn hyn hgp
      have exf : Ex H1 (addF priv Hy) := exy.trans (ex_addF hn)
      have hgl' : G0.g < s4.gens.size := by
        have q : (s4.setGen G0.g gs').gens.size = s4.gens.size := GenW.setGen_size _ _ _
        have hsz' : G0.g + 1 ≤ (s4.setGen G0.g gs').gens.size := hsz4
        omega
      have hgat : (s4.setGen G0.g gs').gens[G0.g]? = some gs' := setGen_at hgl'
      have st := step x0 r' σw xv (addF priv Hy) pvw exf (hIt _ _ _ _ hit (ex_addF hn))
      refine wpAny_passesOwn hp (wpAny_pure ?_)
      -- the item is stored
      have a1 := gens_frame hgat hsu ((hg.run pins (wg (s4.setGen G0.g gs') ((s4.setGen G0.g gs').gens.map asleep)) σw (addF priv Hy) xv v _ (Inv.wg If (bare_asleep If.bare)) rv st))
      refine wpAny_passesOwn hp (wpAny_mono a1 (fun _ s5 h5 => ?_) fun e s5 h5 => ?_)
      · obtain ⟨B5, ⟨σ5, H5, I5, q5⟩, hb5, hg5⟩ := h5
        have I5' : Inv X pins σ5 H5 s5 := by
          have := Inv.wg I5 (hb5 I5.bare)
          exact this
        have a2 := gens_frame hg5 hsu (hb.run pins (wg s5 (s5.gens.map asleep)) σ5 H5 _ (Inv.wg I5' (bare_asleep I5'.bare)) q5)
        refine wpAny_passesOwn hp (wpAny_mono a2 (fun f s6 h6 => ?_) fun e s6 h6 => ?_)
        · obtain ⟨B6, q6, hb6, hg6⟩ := h6
          have again : ∀ {σ6 : L2.St} {H6 : Hp}, Inv X pins σ6 H6 (wg s6 B6) → Ex (addF priv Hy) H6 → Pv r' σ6 → ∃ m, m < rest.length ∧ ∃ (rest' : List α) (σ : L2.St) (H : Hp) (gs : GenState), s6.gens[G0.g]? = some gs ∧ Inv X pins σ H s6 ∧ s6.heap.get? G0.a = some G0.go ∧ rest'.length = m ∧
              gs.Goes (model X.prog X.w) X.A.in1 (GR G Cc) (GY G It Cc) m (.send .none) (s6.setGen G0.g .running) := fun {σ6 H6} I6 e6 pv6 => by
            have I6' : Inv X pins σ6 H6 s6 := by
              have := Inv.wg I6 (hb6 I6.bare)
              exact this
            have hg6' := frz_at hn hu e6 I6'.hok
            have I7 : Inv X pins σ6 (dropF priv H6) s6 := inv_dropF O Iy hn e6 I6'
            have e7 : Ex Hy (dropF priv H6) := ex_dropF hn e6
            have I8 := rn (x := .running) rfl I7
            have wk : Wk G priv s4 Hy (s6.setGen G0.g .running) (dropF priv H6) := wk_of (G := G) eb eo eP ew hna hpm' O Iy.os I8 e7 fun p hp => ⟨hg6' p hp, dropF_in hp⟩
            have go := kap _ _ wk ⟨σ6, I8, pv6, exy.trans e7⟩
            cases hrl : rest.length with
            | zero =>
              rw [hrl] at go
              exact go.elim
            | succ m =>
              rw [hrl] at go hl
              exact ⟨m, Nat.lt_succ_self _, r', σ6, dropF priv H6, gs', hg6, I7, hg6' (G0.a, G0.go) hpm', hl, go⟩
          cases f with
          | next => obtain ⟨σ6, H6, I6, e6, pv6⟩ := q6; exact again I6 e6 pv6
          | cont => obtain ⟨σ6, H6, I6, e6, pv6⟩ := q6; exact again I6 e6 pv6
          | brk => obtain ⟨σ6, H6, I6, q6⟩ := q6; exact ⟨σ6, H6, (by have := Inv.wg I6 (hb6 I6.bare); exact this), q6⟩
          | ret v => obtain ⟨x6, σ6, H6, I6, r6, q6⟩ := q6; exact ⟨x6, σ6, H6, (by have := Inv.wg I6 (hb6 I6.bare); exact this), r6, q6⟩
        · obtain ⟨B, q, _⟩ := h6
          exact absurd q (hnx _ _)
      · obtain ⟨B, q, _⟩ := h5
        exact absurd q (hnx _ _)
    · intro _
      obtain ⟨Hw, Hf, ⟨σw, Iw, pvw, exw⟩, yd⟩ := hf
      have If : Inv X pins σw Hf s4 := inv_yd (G := G) eo eP ew O Iw yd
      have Ig := rn (x := .finished) rfl If
      have Ih : Inv X pins σw Hf { s4.setGen G0.g .finished with heap := h' } := Ig.call' (ch := []) rfl (Un.kept hk) (Ig.hok.kept hk) Ig.bare fun b z => by simp at z
      exact wpAny_execs_nil ⟨σw, Hf, Ih, pvE σw Hf pvw (exw.trans yd.ex)⟩
  · refine ⟨r, σ, H1, .fresh c, hgs, J1, hga, rfl, rfl, ?_⟩
    have J2 := rn (x := .running) rfl J1
    have wk : Wk G priv0 s1 H1 (s1.setGen G0.g .running) H1 := wk_of (G := G) eb eo eP ew hna hpm O J1.os J2 (.refl _) fun p hp => ⟨(hpriv p hp).1, (hpriv p hp).2.1⟩
    exact wake X.A.in1 Cc _ _ ((show Room (k + 1) X.A.in1 from Room.in1 hr).mono (Nat.le_succ k)) I1.ok.frames wk ⟨σ, J2, pv0, .refl _⟩
/-- f(e, .., k = v, ..) of a generator def -/
def tMadeK (sp : List V → Hp → List α → Prop) (gV : List V → List V → List V) (t tk : TA) : L2.St → Hp → (List α → Hp → Prop) → Prop := fun σ H Q => t σ H fun vs H1 => tk σ H1 fun zs H2 => ∃ r, sp (gV vs zs) H2 r ∧ Q r H2
theorem pmade_callK {k j : Nat} {f : Addr} {fd : FuncData} {ps ks : List Str} {sp : List V → Hp → List α → Prop} {x : Str} {p pos : Pos} {e : Expr} {es : List Expr} {kws : List Keyword} {t tk : TA} {g : List Value → List Value → List Value} {gV : List V → List V → List V}
    (F : GenOk X.prog X.w X.K X.mg X.base k f fd ps It sp) (hr : Room j X.A) (hkj : k ≤ j) (hg : Gl X x) (hm : X.mg x = some (.ref f)) (hk : PySem.W.keepIn X.K (.ref f) = true) (hb : KBinds X.K fd ps ks g gV)
    (ha : PA X (e :: es) t) (hkw : PK X kws tk) (hall : (backToKw pos (keywordEach kws X.env)).all (·.1.isSome) = true := by rfl) (hks : (backToKw pos (keywordEach kws X.env)).filterMap (·.1) = ks := by rfl)
    (hdb : (x == ("__debug__" : Str)) = false := by decide) (he : starEach (e :: es) X.env = (false, eval e X.env) :: starEach es X.env := by rfl)
    (hpl : ((backTo pos (starEach (e :: es) X.env)).any (·.1) || (backToKw pos (keywordEach kws X.env)).any (·.1.isNone)) = false := by rfl) :
    PMade X k (.Call (.Name x p) (e :: es) kws pos) It (tMadeK sp gV t tk) := by
  refine ⟨fun pins s σ H Q I h => ?_⟩
  refine wpAny_Call_Name_kw (ld_glob I hg hm ?_ hdb)
  refine PySem.W.callWith_KW (h₀ := X.base) I.ok.mod.kin hk hall (thn (ha.run pos pins s σ H _ I h) fun us s1 ⟨vs, H1, I1, r, q⟩ => ?_) hpl he
  refine thn (hkw.run pos pins s1 σ H1 _ I1 q) fun ws s2 ⟨zs, H2, I2, rz, items, hsp, q2⟩ => ⟨I2.kIn, ?_⟩
  rw [hks]
  have r2 := hb.rel r rz
  have hl : (g us ws).length = ps.length := by rw [← r2.length]; exact F.len _ _ _ hsp
  refine wpAny_call (codeAny_mono (F.run X.A X.stack s2 H2 ⟨us, ks.zip ws⟩ (g us ws) (gV vs zs) items (hr.mono hkj) I2.env0 (hb.to s2 us ws I2.kIn hl) r2 hsp) fun r s' hq => ?_)
  cases r with
  | error e => exact False.elim hq
  | ok fl =>
    cases fl with
    | ret u => exact ⟨H2, s2, items, I2, hq, q2⟩
    | next => exact False.elim hq
    | brk => exact False.elim hq
    | cont => exact False.elim hq
end
end K18
end
section
set_option Elab.async false
set_option linter.all false
set_option maxRecDepth 100000
set_option maxHeartbeats 4000000
namespace K18
open PySem PySem.Spec PyProof.Rows L2
/-! ### loops, told once more -/
section
variable {J : It} {n : Nat} {G : Hp → Prop} {Y : Nat → Hp → V → Hp → Prop}
theorem it_gen (w : Walk J n G Y) {Body : V → Hp → (Hp → Prop) → Prop} {H0 : Hp} {Nd : Hp → Prop} (Pv : Nat → Hp → Prop) (h0 : Pv 0 H0) (hG : ∀ i H, i ≤ n → Pv i H → G H) (hs : ∀ i x H H', i < n → Pv i H → Y i H x H' → Body x H' (Pv (i + 1))) (hd : ∀ H, Pv n H → Nd H) :
    ∃ W : Nat → Nat → Hp → Prop, (∃ m, W 0 m H0) ∧ ∀ i m H, W i m H → (J.stop i H ∧ Nd H) ∨ (J.go i H ∧ ∃ Nx : Hp → Prop, (∀ H', Nx H' → ∃ m', m' < m ∧ W (i + 1) m' H') ∧ ∀ x H', J.yld i H x H' → Body x H' Nx) := by
  refine ⟨fun i m H => m = n - i ∧ i ≤ n ∧ Pv i H, ⟨n, by simp, Nat.zero_le _, h0⟩, ?_⟩
  rintro i m H ⟨rfl, hi, p⟩
  have q := hG i H hi p
  by_cases hlt : i < n
  · exact .inr ⟨w.goes i H hlt q, Pv (i + 1), fun H' p' => ⟨n - (i + 1), by omega, rfl, hlt, p'⟩, fun x H' y => hs i x H H' hlt p (w.yields i H x H' hlt q y)⟩
  · have e : i = n := by omega
    subst e
    exact .inl ⟨w.stops _ q, hd H p⟩
theorem gfor_it {α : Type} (w : Walk J n G Y) {Body : List α → L2.St → Hp → V → Hp → (List α → L2.St → Hp → Prop) → Prop} {r0 : List α} {σ0 : L2.St} {H0 : Hp} {Nd : List α → L2.St → Hp → Prop} (Pv : Nat → List α → L2.St → Hp → Prop) (h0 : Pv 0 r0 σ0 H0)
    (hG : ∀ i r σ H, i ≤ n → Pv i r σ H → G H) (hs : ∀ i x r σ H H', i < n → Pv i r σ H → Y i H x H' → Body r σ H x H' (Pv (i + 1))) (hd : ∀ r σ H, Pv n r σ H → Nd r σ H) :
    ∃ W : Nat → Nat → List α → L2.St → Hp → Prop, (∃ m, W 0 m r0 σ0 H0) ∧ ∀ i m r σ H, W i m r σ H → (J.stop i H ∧ Nd r σ H) ∨ (J.go i H ∧ ∃ N : List α → L2.St → Hp → Prop, (∀ r' σ' H', N r' σ' H' → ∃ m', m' < m ∧ W (i + 1) m' r' σ' H') ∧ ∀ x H', J.yld i H x H' → Body r σ H x H' N) := by
  refine ⟨fun i m r σ H => m = n - i ∧ i ≤ n ∧ Pv i r σ H, ⟨n, by simp, Nat.zero_le _, h0⟩, ?_⟩
  rintro i m r σ H ⟨rfl, hi, p⟩
  have q := hG i r σ H hi p
  by_cases hlt : i < n
  · exact .inr ⟨w.goes i H hlt q, Pv (i + 1), fun r' σ' H' p' => ⟨n - (i + 1), by omega, rfl, hlt, p'⟩, fun x H' y => hs i x r σ H H' hlt p (w.yields i H x H' hlt q y)⟩
  · have e : i = n := by omega
    subst e
    exact .inl ⟨w.stops _ q, hd r σ H p⟩
end
/-! ### lists told by lists -/
structure AtL {α : Type} (R : α → V → Hp → Prop) (l : List α) (vs : List V) (H : Hp) : Prop where
  len : vs.length = l.length
  at_ : ∀ (i : Nat) (x : α) (v : V), l[i]? = some x → vs[i]? = some v → R x v H
section
variable {α : Type} {R : α → V → Hp → Prop} {l l' : List α} {vs vs' : List V} {H H' : Hp} {x : α} {v : V}
theorem AtL.nil : AtL R [] [] H := ⟨rfl, fun i x v h => by simp at h⟩
theorem AtL.snoc (h : AtL R l vs H) (hx : R x v H) : AtL R (l ++ [x]) (vs ++ [v]) H := by
  refine ⟨by rw [List.length_append, List.length_append, h.len]; rfl, fun i y w h1 h2 => ?_⟩
  have hl := h.len
  by_cases hi : i < l.length
  · rw [List.getElem?_append_left hi] at h1
    rw [List.getElem?_append_left (by omega)] at h2
    exact h.at_ i y w h1 h2
  · rw [List.getElem?_append_right (by omega)] at h1 h2
    rw [hl] at h2
    cases e : i - l.length with
    | zero =>
      rw [e] at h1 h2
      cases h1
      cases h2
      exact hx
    | succ m => rw [e] at h1; simp at h1
theorem AtL.ex (h : AtL R l vs H) (m : ∀ x v, R x v H → R x v H') : AtL R l vs H' := ⟨h.len, fun i x v h1 h2 => m x v (h.at_ i x v h1 h2)⟩
theorem AtL.get (h : AtL R l vs H) {i : Nat} (hi : i < l.length) : ∃ v, vs[i]? = some v ∧ R l[i] v H := by
  have hl := h.len
  exact ⟨vs[i], by simp, h.at_ i _ _ (by simp [hi]) (by simp)⟩
theorem AtL.of (h : AtL R l vs H) {i : Nat} (hv : vs[i]? = some v) : ∃ hi : i < l.length, R l[i] v H := by
  have hl := h.len
  have hi := (List.getElem?_eq_some_iff.mp hv).1
  exact ⟨by omega, h.at_ i _ _ (by simp [show i < l.length by omega]) hv⟩
end
theorem take_filter {α : Type} {l : List α} {p : α → Bool} {i : Nat} (hi : i < l.length) : (l.take (i + 1)).filter p = (l.take i).filter p ++ if p l[i] = true then [l[i]] else [] := by
  rw [List.take_succ_eq_append_getElem hi, List.filter_append]
  congr 1
  by_cases h : p l[i] = true
  · rw [if_pos h, List.filter_cons_of_pos h]; rfl
  · rw [if_neg h, List.filter_cons_of_neg h]; rfl
section
variable {α β : Type} {J : It} {G : Hp → Prop} {Y : Nat → Hp → V → Hp → Prop}
/-- a comprehension over told things: what passes p, each turned by f -/
theorem lcL {l : List α} (w : Walk J l.length G Y) (hGm : ∀ H H', G H → Ex H H' → G H') (hn : l.length < sizeLine) {D : Addr} {S : β → V → Hp → Prop} (hS : ∀ x v H H', S x v H → Ex H H' → S x v H')
    (hSD : ∀ x v H H' ys, H D = some (.lst ys) → (∀ b o, b ≠ D → H b = some o → H' b = some o) → S x v H → S x v H') (p : α → Bool) (f : α → β) {g : TG} {tt : TT} {te : TE} {ws : List Nat} {σ : L2.St} {H1 : Hp} {Qd : Hp → Prop} (hD : H1 D = none) (hG1 : G H1)
    (hs : ∀ (i : Nat) (hi : i < l.length) (x : V) (H H' : Hp) (Kt : V → Hp → Prop) (Kf : Hp → Prop), Ex H1 H → Y i H x H' → (p l[i] = true → ∀ y H4, Ex H H4 → S (f l[i]) y H4 → Kt y H4) → (p l[i] = false → ∀ H4, Ex H H4 → Kf H4) →
      g x (wipe σ ws) H' fun σ2 H2 => wipe σ2 ws = wipe σ ws ∧ tt σ2 H2 fun b H3 => if b = true then te σ2 H3 Kt else Kf H3)
    (hd : ∀ H ys, Ex H1 H → H D = some (.lst ys) → AtL S ((l.filter p).map f) ys H → Qd H) :
    ∃ W : Nat → Nat → Hp → Prop, (∃ m, W 0 m (upd H1 D (.lst []))) ∧ ∀ i m H, W i m H →
      (J.stop i H ∧ Qd H) ∨ (J.go i H ∧ ∃ Nx : Hp → Prop, (∀ H', Nx H' → ∃ m', m' < m ∧ W (i + 1) m' H') ∧ ∀ x H', J.yld i H x H' → g x (wipe σ ws) H' fun σ2 H2 => wipe σ2 ws = wipe σ ws ∧ tt σ2 H2 fun b H3 =>
        if b = true then te σ2 H3 fun y H4 => ∃ acc, H4 D = some (.lst acc) ∧ acc.length < sizeLine ∧ Nx (upd H4 D (.lst (acc ++ [y]))) else Nx H3) := by
  refine it_gen w (Pv := fun i H => ∃ ys, Ex H1 H ∧ H D = some (.lst ys) ∧ AtL S (((l.take i).filter p).map f) ys H) ⟨[], Evl.Ex.new hD, upd_same, AtL.nil⟩ (fun i H _ h => hGm _ _ hG1 h.choose_spec.1) (fun i x H H' hi h y => ?_) (fun H h => ?_)
  · obtain ⟨ys, h1, h2, h3⟩ := h
    have hlen : ys.length ≤ i := by
      rw [h3.len, List.length_map]
      exact Nat.le_trans (List.length_filter_le _ _) (by rw [List.length_take]; omega)
    refine hs i hi x H H' _ _ h1 y (fun hp y4 H4 e4 p4 => ?_) (fun hp H4 e4 => ?_)
    · have hD4 := e4 _ _ h2
      have up : ∀ b o, b ≠ D → H4 b = some o → (upd H4 D (.lst (ys ++ [y4]))) b = some o := fun b o hb q => by rw [upd_ne hb]; exact q
      refine ⟨ys, hD4, by omega, ys ++ [y4], (h1.trans e4).mut hD, upd_same, ?_⟩
      rw [take_filter hi, if_pos hp, List.map_append]
      exact (h3.ex fun x v h => hSD x v _ _ _ hD4 up (hS x v _ _ h e4)).snoc (hSD _ _ _ _ _ hD4 up p4)
    · refine ⟨ys, h1.trans e4, e4 _ _ h2, ?_⟩
      rw [take_filter hi, if_neg (by rw [hp]; exact Bool.false_ne_true), List.append_nil]
      exact h3.ex fun x v h => hS x v _ _ h e4
  · obtain ⟨ys, h1, h2, h3⟩ := h
    rw [List.take_length] at h3
    exact hd _ ys h1 h2 h3
end
end K18
end
section
set_option Elab.async false
set_option linter.all false
set_option maxRecDepth 100000
set_option maxHeartbeats 4000000
namespace K18
open PySem PySem.Spec PyProof.Rows L2
/-! ### the digits: a list that is eaten -/
def wo (d : Addr) (H : Hp) : Hp := fun b => if b = d then none else H b
section
variable {d p : Addr} {H H' : Hp} {o : HO}
theorem wo_at {b : Addr} (h : b ≠ d) : wo d H b = H b := if_neg h
theorem wo_none : wo d H d = none := if_pos rfl
theorem wo_sub : Ex (wo d H) H := fun b o h => by
  unfold wo at h
  split at h
  · cases h
  · exact h
theorem wo_same : wo d (upd H d o) = wo d H := by
  funext b
  unfold wo
  by_cases h : b = d
  · rw [if_pos h, if_pos h]
  · rw [if_neg h, if_neg h, upd_ne h]
theorem wo_upd (h : p ≠ d) : wo d (upd H p o) = upd (wo d H) p o := by
  funext b
  by_cases hb : b = p
  · rw [hb, upd_same, wo_at h, upd_same]
  · rw [upd_ne hb]
    unfold wo
    rw [upd_ne hb]
theorem wo_ex (e : Ex H H') : Ex (wo d H) (wo d H') := fun b o h => by
  unfold wo at h ⊢
  split at h
  · cases h
  · rename_i hb
    rw [if_neg hb]
    exact e b o h
theorem wo_fresh (h : H p = none) : wo d H p = none := by unfold wo; split; rfl; exact h
end
/-- the digits at d -/
def Dig (d : Addr) (H : Hp) : Prop := ∃ ds : List Int, H d = some (.lst (ds.map V.int))
theorem Dig.ex {d : Addr} {H H' : Hp} (h : Dig d H) (e : Ex H H') : Dig d H' := h.imp fun _ h => e _ _ h
theorem Dig.ne {d p : Addr} {H : Hp} (h : Dig d H) (hp : H p = none) : p ≠ d := fun z => by
  obtain ⟨ds, h⟩ := h
  rw [← z, hp] at h
  cases h
section
variable {P : Program} {w : World} {K : PySem.W.Frag} {mg : Str → Option Value} {base : Heap} {C : Addr}
def spEat : Sp := fun vs H Q _ => ∃ (d : Addr) (b : Nat), vs = [.ref d, .int b] ∧ 0 < b ∧ Dig d H ∧ ∀ (c : Nat) H', c < b → Ex (wo d H) (wo d H') → Dig d H' → Q (.int c) H'
theorem sc_eat : FnScope ["_law_digits", "_law_bound"] ["_law_digits", "_law_bound"] (C8.fnScope (top 54)) := C8.fnScope_by (by decide +kernel)
theorem cal_eat (B : Bt mg) (D : DD K mg "_law_eat" 54) : C8.Cal P w K mg base 1 "_law_eat" (spEat) [] := by
  refine cal_mk D sc_eat (fun _ _ _ _ _ _ us hl => match us, hl with | [_, _], _ => rfl) (fun vs H Q E h => ?_) (fun f cdv A outer s H vs Q E hr h => ?_)
  · obtain ⟨d, b, rfl, _⟩ := h; rfl
  · obtain ⟨d, b, rfl, hb, ⟨ds, hd⟩, kk⟩ := h
    have nd := sc_eat.nd
    refine ⟨_, (pss_cons (ps_if (pt_truth (pv 0) (by intro _; rfl)) (pss_one (ps_ret (pe_op op_mod (pe_callTy call_int1 (by rfl) B.int PyProof.Rows.boot_int (pa_cons (pe_bm0 PySem.F.plainAttrs_list PySem.F.slot_list_pop PySem.F.type_list_pop mt_pop (pv 0)) pa_nil)) (pv 1)))) pss_nil)
    (pss_one (ps_ret pe_int))), ?_⟩
    refine ⟨_, rfl, _, .inl ⟨_, SqL.of hd, rfl⟩, ?_⟩
    rcases List.eq_nil_or_concat ds with rfl | ⟨ds', y, rfl⟩
    · exact iteF (kk 0 H hb (Evl.Ex.refl _) ⟨[], hd⟩)
    · rw [List.concat_eq_append] at hd ⊢
      have he : (((ds' ++ [y]).map V.int).isEmpty) = false := by rw [List.map_append]; cases ds' <;> rfl
      rw [he]
      have hg : ((ds' ++ [y]).map V.int)[((ds' ++ [y]).map V.int).length - 1]? = some (V.int y) := by
        rw [List.map_append, List.length_append]
        simp
      refine iteT ⟨_, rfl, lst_ty hd, d, _, _, rfl, rfl, hd, hg, .inl ⟨_, rfl, _, rfl, _, _, rfl, rfl, by show (0 : Int) < b; omega, ?_⟩⟩
      have h1 : 0 ≤ y % (b : Int) := Int.emod_nonneg _ (by omega)
      have h2 : y % (b : Int) < b := Int.emod_lt_of_pos _ (by omega)
      have e : y % (b : Int) = ((y % (b : Int)).toNat : Int) := (Int.toNat_of_nonneg h1).symm
      show Q (V.int (y % (b : Int))) _
      rw [e]
      refine kk _ _ (by omega) (by rw [wo_same]; exact Evl.Ex.refl _) ⟨ds', ?_⟩
      rw [upd_same]
      congr 2
      rw [List.map_append]
      simp
/-! ### gcd -/
def spGcd : Sp := fun vs H Q _ => ∃ a b : Int, vs = [.int a, .int b] ∧ a.natAbs < 2 ^ 9000 ∧ b.natAbs < 2 ^ 9000 ∧ Q (.int (Nat.gcd a.natAbs b.natAbs : Nat)) H
theorem bits_lt (n : Nat) : n < 2 ^ (if n = 0 then 0 else n.log2 + 1) := by
  split
  · omega
  · exact Nat.lt_log2_self
theorem sc_gcd : FnScope ["_law_one", "_law_other", "_law_big", "_law_small", "_law_turn", "_law_rest_here"] ["_law_one", "_law_other"] (C8.fnScope (top 55)) := C8.fnScope_by (by decide +kernel)
theorem cal_gcd (B : Bt mg) (D : DD K mg "_law_gcd" 55) : C8.Cal P w K mg base 1 "_law_gcd" (spGcd) [] := by
  refine cal_mk D sc_gcd (fun _ _ _ _ _ _ us hl => match us, hl with | [_, _], _ => rfl) (fun vs H Q E h => ?_) (fun f cdv A outer s H vs Q E hr h => ?_)
  · obtain ⟨a, b, rfl, _⟩ := h; rfl
  · obtain ⟨a, b, rfl, ha, hb, kk⟩ := h
    have nd := sc_gcd.nd
    refine ⟨_, (pss_cons (pset 2 nd (pe_callB call_abs (by rfl) B.abs PyProof.Rows.boot_abs (pa_cons (pv 0) pa_nil)))
    (pss_cons (pset 3 nd (pe_callB call_abs (by rfl) B.abs PyProof.Rows.boot_abs (pa_cons (pv 1) pa_nil)))
    (pss_cons (ps_for PassesOwn.never rfl (pi_range1 (by rfl) B.range (pa_cons (pe_op op_add (pe_op op_mulW pe_int (pe_op op_add (pe_bits (pv 2)) (pe_bits (pv 3)))) pe_int) pa_nil)) (pgn 4 nd)
      (pss_cons (ps_if (pt_cmpR op_eq (pv 3) pe_int (nomark _)) (pss_one ps_break) pss_nil)
      (pss_cons (pset 5 nd (pe_op op_mod (pe_callTy call_int1 (by rfl) B.int PyProof.Rows.boot_int (pa_cons (pv 2) pa_nil)) (pv 3)))
      (pss_cons (pset 2 nd (pv 3))
      (pss_one (pset 3 nd (pv 5)))))))
    (pss_one (ps_ret (pv 2)))))), ?_⟩
    refine ⟨_, rfl, _, rfl, _, rfl, _, rfl, ?_⟩
    rw [abs_cast, abs_cast]
    generalize hA : a.natAbs = x
    generalize hB : b.natAbs = y
    rw [hA, hB] at kk
    rw [hA] at ha
    rw [hB] at hb
    have bx : ∀ z : Nat, z < 2 ^ 9000 → Builtin.Int.intBits (z : Int) ≤ 9000 := fun z hz => by
      unfold Builtin.Int.intBits
      split
      · omega
      · rename_i h0
        have h1 : z ≠ 0 := fun e => h0 (by rw [e]; rfl)
        have : z.log2 < 9000 := (Nat.log2_lt h1).mpr hz
        show z.log2 + 1 ≤ 9000
        omega
    have lx : ∀ z : Nat, z ≠ 0 → z < 2 ^ (Builtin.Int.intBits (z : Int)) ∧ Builtin.Int.intBits (z : Int) = z.log2 + 1 := fun z h1 => by
      have e : Builtin.Int.intBits (z : Int) = z.log2 + 1 := by
        unfold Builtin.Int.intBits
        have : ((z : Int) == 0) = false := by simp; omega
        rw [this]
        rfl
      rw [e]
      exact ⟨Nat.lt_log2_self, rfl⟩
    have hbx := bx x ha
    have hby := bx y hb
    refine ⟨_, rfl, _, rfl, _, rfl, _, rfl, _, _, rfl, rfl, _, _, rfl, rfl, ?_, _, _, rfl, rfl, _, rfl, ?_, ?_, ?_⟩
    · exact wmul (a := 2) (b := 16) (by decide) (Nat.lt_of_le_of_lt (by omega : ((Builtin.Int.intBits (x : Int) : Int) + (Builtin.Int.intBits (y : Int) : Int)).natAbs ≤ 18000) (by decide)) (by decide) (by decide) (by decide)
    · show -(2 ^ 62 : Int) ≤ 3 * ((Builtin.Int.intBits (x : Int) : Int) + (Builtin.Int.intBits (y : Int) : Int)) + 10
      omega
    · show 3 * ((Builtin.Int.intBits (x : Int) : Int) + (Builtin.Int.intBits (y : Int) : Int)) + 10 < (2 ^ 62 : Int)
      omega
    show ∃ W : Nat → Nat → L2.St → Hp → Prop, (∃ m, W 0 m _ _) ∧ ∀ i m σ H, W i m σ H → ((Itr 0 (3 * ((Builtin.Int.intBits (x : Int) : Int) + (Builtin.Int.intBits (y : Int) : Int)) + 10).toNat).stop i H ∧ _) ∨ ((Itr 0 (3 * ((Builtin.Int.intBits (x : Int) : Int) + (Builtin.Int.intBits (y : Int) : Int)) + 10).toNat).go i H ∧ _)
    generalize hN : Builtin.Int.intBits (x : Int) = bx' at *
    generalize hM : Builtin.Int.intBits (y : Int) = by' at *
    have eN : (3 * ((bx' : Int) + (by' : Int)) + 10).toNat = 3 * (bx' + by') + 10 := by omega
    rw [eN]
    refine for_it walk_rng (Pv := fun i σ' H' => H' = H ∧ ∃ (p q : Nat) (a4 a5 : Option V), σ' = [some (.int a), some (.int b), some (.int p), some (.int q), a4, a5] ∧ Mth.Eu (Nat.gcd x y) (bx' + by') i p q ∧ (i = 0 → p = x ∧ q = y))
      ⟨rfl, x, y, _, _, rfl, ⟨rfl, fun h => absurd h (Nat.lt_irrefl 0)⟩, fun _ => ⟨rfl, rfl⟩⟩ (fun _ _ _ _ _ => True.intro) ?_ ?_
    · rintro i v σ' H' H2 hi ⟨rfl, p, q, a4, a5, rfl, eu, h0⟩ ⟨rfl, rfl⟩
      refine ⟨_, rfl, rfl, _, rfl, ?_⟩
      by_cases hq : q = 0
      · subst hq
        rw [show decide (V.int ((0 : Nat) : Int) = V.int 0) = true from decide_eq_true rfl]
        refine iteT ?_
        refine ⟨_, rfl, ?_⟩
        rw [← eu.zero] at kk
        exact kk
      · rw [decide_eq_false (fun z => hq (by injection z with z; omega))]
        refine iteF ⟨_, rfl, .inl ⟨_, rfl, _, rfl, _, _, rfl, rfl, by show (0 : Int) < q; omega, ?_⟩⟩
        refine ⟨_, rfl, _, rfl, rfl, q, p % q, some (.int (i : Nat)), some (.int ((p : Int) % (q : Int))), ?_, eu.step hq fun z => ?_, fun z => by omega⟩
        · rw [← Mth.emod_nat]; rfl
        · obtain ⟨rfl, rfl⟩ := h0 z
          obtain ⟨h1, h2⟩ := lx q hq
          rw [hM] at h2
          refine ⟨?_, by omega⟩
          have : bx' + by' - q.log2 - 1 = bx' := by omega
          rw [this]
          by_cases hp : p = 0
          · subst hp; exact Nat.two_pow_pos _
          · have := (lx p hp).1
            rw [hN] at this
            exact this
    · rintro σ' H' ⟨rfl, p, q, a4, a5, rfl, eu, h0⟩
      obtain ⟨_, e⟩ := eu.end (by omega)
      refine ⟨_, rfl, ?_⟩
      rw [← e] at kk
      exact kk
/-! ### low -/
def spLow (K : PySem.W.Frag) : Sp := fun vs H Q _ => ∃ n d : Int, vs = [.int n, .int d] ∧ d ≠ 0 ∧ n.natAbs < 2 ^ 9000 ∧ d.natAbs < 2 ^ big ∧ ∀ v H', Ex H H' → Frac K H' v (Mth.fr n d) → Q v H'
theorem sc_low : FnScope ["_law_top", "_law_below", "_law_shared"] ["_law_top", "_law_below"] (C8.fnScope (top 56)) := C8.fnScope_by (by decide +kernel)
theorem cal_low (D : DD K mg "_law_low" 56) (c_l_gcd : C8.Cal P w K mg base 1 "_law_gcd" (spGcd) []) : C8.Cal P w K mg base 2 "_law_low" (spLow K) [] := by
  refine cal_mk D sc_low (fun _ _ _ _ _ _ us hl => match us, hl with | [_, _], _ => rfl) (fun vs H Q E h => ?_) (fun f cdv A outer s H vs Q E hr h => ?_)
  · obtain ⟨n, d, rfl, _⟩ := h; rfl
  · obtain ⟨n, d, rfl, hd, hn, hdb, kk⟩ := h
    have nd := sc_low.nd
    refine ⟨_, (pss_cons (pset 2 nd (C8.pe_c c_l_gcd hr (by decide) (by rfl) (pa_cons (pv 0) (pa_cons (pv 1) pa_nil))))
    (C8.pss_cut (ps_if (pt_cmpR op_lt (pv 1) pe_int (nomark _)) (pss_one (pset 2 nd (pe_op op_sub pe_int (pv 2)))) pss_nil)
    (pss_one (ps_ret (pe_tup (pa_cons (pe_op op_fdivZ (pv 0) (pv 2)) (pa_cons (pe_op op_fdivZ (pv 1) (pv 2)) pa_nil))))))), ?_⟩
    refine ⟨_, rfl, _, rfl, n, d, rfl, hn, Mth.lt_mono hdb (by decide), ?_⟩
    have hg := Mth.gcd_pos (n := n) (d := d) hd
    have hgl : n.natAbs.gcd d.natAbs ≤ d.natAbs := Nat.gcd_le_right _ (by omega)
    have hgb : n.natAbs.gcd d.natAbs < 2 ^ big := Nat.lt_of_le_of_lt hgl hdb
    refine ⟨fun σ' H' => H' = H ∧ σ' = [some (.int n), some (.int d), some (.int (if d < 0 then -((n.natAbs.gcd d.natAbs : Nat) : Int) else ((n.natAbs.gcd d.natAbs : Nat) : Int)))], ?_, ?_⟩
    · refine ⟨_, rfl, _, _, rfl, rfl, _, rfl, ?_⟩
      by_cases hn0 : d < 0
      · rw [decide_eq_true hn0]
        refine iteT ⟨_, rfl, _, _, rfl, rfl, rfl, ?_⟩
        rw [if_pos hn0]
        show _ = [some (V.int n), some (.int d), some (.int (-((n.natAbs.gcd d.natAbs : Nat) : Int)))]
        rw [← Int.zero_sub]
        rfl
      · rw [decide_eq_false hn0]
        refine iteF ⟨rfl, ?_⟩
        rw [if_neg hn0]
        rfl
    · rintro σ' H' ⟨rfl, rfl⟩
      have hga : (if d < 0 then -((n.natAbs.gcd d.natAbs : Nat) : Int) else ((n.natAbs.gcd d.natAbs : Nat) : Int)).natAbs = n.natAbs.gcd d.natAbs := by split <;> omega
      refine ⟨_, rfl, _, rfl, _, _, rfl, rfl, cdivz (by split <;> omega) (Nat.lt_of_le_of_lt (Nat.le_of_eq hga) (Mth.lt_mono hgb (by decide))), _, rfl, _, rfl, _, _, rfl, rfl, cdivz (by split <;> omega) (Nat.lt_of_le_of_lt (Nat.le_of_eq hga) (Mth.lt_mono hgb (by decide))), (by show 2 ≤ sizeLine; decide), fun p hp => ?_⟩
      refine kk _ _ (Evl.Ex.new hp) ?_
      show TupV K _ _ [.int (Mth.fr n d).num, .int ((Mth.fr n d).den : Nat)]
      by_cases hn0 : d < 0
      · rw [Mth.fr_num_neg hn0, Mth.fr_den_neg hn0]
        simp only [if_pos hn0]
        exact TupV.new
      · have hp0 : 0 < d := by omega
        rw [Mth.fr_num hp0, Mth.fr_den hp0, ← Int.fdiv_eq_ediv_of_nonneg, ← Int.fdiv_eq_ediv_of_nonneg]
        simp only [if_neg hn0]
        exact TupV.new
        all_goals omega
end
end K18
end
section
set_option Elab.async false
set_option linter.all false
set_option maxRecDepth 100000
set_option maxHeartbeats 4000000
namespace K18
open PySem PySem.Spec PyProof.Rows L2
section
variable {P : Program} {w : World} {K : PySem.W.Frag} {mg : Str → Option Value} {base : Heap} {C : Addr}
/-! ### is, add, sub, mul -/
def spIs (K : PySem.W.Frag) : Sp := fun vs H Q _ => ∃ (v : V) (r : Rat), vs = [v] ∧ Frac K H v r ∧ Mth.Sz big r ∧ Q (.bl true) H
theorem sc_is : FnScope ["_law_value", "_law_number"] ["_law_value"] (C8.fnScope (top 57)) := C8.fnScope_by (by decide +kernel)
theorem cal_is (B : Bt mg) (D : DD K mg "_law_is" 57) (c_l_gcd : C8.Cal P w K mg base 1 "_law_gcd" (spGcd) []) : C8.Cal P w K mg base 2 "_law_is" (spIs K) [] := by
  refine cal_mk D sc_is (fun _ _ _ _ _ _ us hl => match us, hl with | [_], _ => rfl) (fun vs H Q E h => ?_) (fun f cdv A outer s H vs Q E hr h => ?_)
  · obtain ⟨v, r, rfl, _⟩ := h; rfl
  · obtain ⟨v, r, rfl, ⟨p, rfl, hp⟩, hz, kk⟩ := h
    have nd := sc_is.nd
    refine ⟨_, (pss_cons (ps_if (PW.pt (pw_or (pt_not (pt_val (pe_callB (call_isiK K) (by rfl) B.isinstance PyProof.Rows.boot_isinstance (pa_cons (pv 0) (pa_cons (pe_bltn (v := .ty "tuple") (by rfl) B.tuple PyProof.Rows.boot_tuple rfl) pa_nil))))) (pw_or1 (pt_cmpR op_ne (pe_callB (call_lenK K) (by rfl) B.len PySem.boot_len (pa_cons (pv 0) pa_nil)) pe_int (nomark _))))) (pss_one (ps_ret pe_bl)) pss_nil)
    (pss_cons (ps_for PassesOwn.never rfl (pi_tupK K (pv 0)) (pgn 1 nd)
      (pss_one (ps_if (PW.pt (pw_or (pt_not (pt_val (pe_callB (call_isiK K) (by rfl) B.isinstance PyProof.Rows.boot_isinstance (pa_cons (pv 1) (pa_cons (pe_bltn (v := .ty "int") (by rfl) B.int PyProof.Rows.boot_int rfl) pa_nil))))) (pw_or1 (pt_val (pe_callB (call_isiK K) (by rfl) B.isinstance PyProof.Rows.boot_isinstance (pa_cons (pv 1) (pa_cons (pe_bltn (v := .ty "bool") (by rfl) B.bool PyProof.Rows.boot_bool rfl) pa_nil))))))) (pss_one (ps_ret pe_bl)) pss_nil)))
    (pss_one (ps_ret (pe_and (pe_cmpR op_ge (pe_ix (ix_tupK K) (pv 0) pe_int (fun _ _ => rfl)) pe_int (nomark _)) (pe_one (pe_cmpR op_eq (C8.pe_c c_l_gcd hr (by decide) (by rfl) (pa_cons (pe_ix (ix_tupK K) (pv 0) pe_int (fun _ _ => rfl)) (pa_cons (pe_ix (ix_tupK K) (pv 0) pe_int (fun _ _ => rfl)) pa_nil))) pe_int (nomark _)))))))), ?_⟩
    refine ⟨_, rfl, _, _, .type "tuple", .type "tuple", true, rfl, .ty _, ty_tup hp, kit_ty (by decide +kernel), true, rfl, ?_⟩
    refine iteF ⟨_, rfl, p, _, rfl, .inr hp, rfl, _, rfl, ?_⟩
    refine iteF ⟨_, rfl, p, rfl, ⟨_, hp⟩, ?_⟩
    refine for_it walk_tup (Pv := fun i σ' H' => H' = H ∧ ∃ a1, σ' = [some (.ref p), a1]) ⟨rfl, _, rfl⟩ (fun i σ H' _ h => by rw [h.1]; exact hp) ?_ ?_
    · rintro i v σ' H' H2 hi ⟨rfl, a1, rfl⟩ ⟨rfl, ex⟩
      have hv : ∃ z : Int, v = .int z := by
        match i, ex with
        | 0, ex => exact ⟨_, (Option.some.inj ex).symm⟩
        | 1, ex => exact ⟨_, (Option.some.inj ex).symm⟩
      obtain ⟨z, rfl⟩ := hv
      refine ⟨_, rfl, _, _, .type "int", .type "int", true, rfl, .ty _, .base (.int _), kit_ty (by decide +kernel), true, rfl, ?_⟩
      refine iteF ⟨_, rfl, _, _, .type "int", .type "bool", false, rfl, .ty _, .base (.int _), kit_ty (by decide +kernel), false, rfl, ?_⟩
      exact iteF ⟨rfl, _, rfl⟩
    · rintro σ' H' ⟨rfl, a1, rfl⟩
      have hd := Mth.den_pos r
      refine ⟨_, rfl, p, _, 1, _, rfl, rfl, hp, rfl, _, _, rfl, rfl, _, rfl, ?_⟩
      rw [decide_eq_true (by omega : (r.den : Int) ≥ 1)]
      refine iteT ⟨_, rfl, p, _, 0, _, rfl, rfl, hp, rfl, _, rfl, p, _, 1, _, rfl, rfl, hp, rfl, _, _, rfl, Mth.lt_mono hz.1 (by decide), Mth.lt_mono hz.den (by decide), rfl, ?_⟩
      have e : decide (V.int ((Nat.gcd r.num.natAbs ((r.den : Int)).natAbs : Nat) : Int) = V.int 1) = true := by
        have : Nat.gcd r.num.natAbs ((r.den : Int)).natAbs = 1 := r.reduced
        rw [this]
        exact decide_eq_true rfl
      rw [e]
      exact kk
theorem sc_ladd : FnScope ["_law_one", "_law_other"] ["_law_one", "_law_other"] (C8.fnScope (top 58)) := C8.fnScope_by (by decide +kernel)
theorem cal_ladd (D : DD K mg "_law_add" 58) (c_l_low : C8.Cal P w K mg base 2 "_law_low" (spLow K) []) : C8.Cal P w K mg base 3 "_law_add" (spBin (· + ·) K) [] := by
  refine cal_mk D sc_ladd (fun _ _ _ _ _ _ us hl => match us, hl with | [_, _], _ => rfl) (fun vs H Q E h => ?_) (fun f cdv A outer s H vs Q E hr h => ?_)
  · obtain ⟨x, y, r, s, a, b, rfl, _⟩ := h; rfl
  · obtain ⟨x, y, r, s, a, b, rfl, ⟨px, rfl, hx⟩, ⟨py, rfl, hy⟩, zx, zy, ha, hb, hab, k⟩ := h
    have nd := sc_ladd.nd
    refine ⟨_, (pss_one (ps_ret (C8.pe_c c_l_low hr (by decide) (by rfl) (pa_cons (pe_op op_add (pe_op op_mulW (pe_ix (ix_tupK K) (pv 0) pe_int (fun _ _ => rfl)) (pe_ix (ix_tupK K) (pv 1) pe_int (fun _ _ => rfl))) (pe_op op_mulW (pe_ix (ix_tupK K) (pv 1) pe_int (fun _ _ => rfl)) (pe_ix (ix_tupK K) (pv 0) pe_int (fun _ _ => rfl)))) (pa_cons (pe_op op_mulW (pe_ix (ix_tupK K) (pv 0) pe_int (fun _ _ => rfl)) (pe_ix (ix_tupK K) (pv 1) pe_int (fun _ _ => rfl))) pa_nil))))), ?_⟩
    refine ⟨_, rfl, px, _, 0, _, rfl, rfl, hx, rfl, _, rfl, py, _, 1, _, rfl, rfl, hy, rfl, _, _, rfl, rfl, wmul zx.1 zy.den ha hb hab, ?_⟩
    refine ⟨_, rfl, py, _, 0, _, rfl, rfl, hy, rfl, _, rfl, px, _, 1, _, rfl, rfl, hx, rfl, _, _, rfl, rfl, wmul zy.1 zx.den hb ha (by omega), _, _, rfl, rfl, ?_⟩
    refine ⟨_, rfl, px, _, 1, _, rfl, rfl, hx, rfl, _, rfl, py, _, 1, _, rfl, rfl, hy, rfl, _, _, rfl, rfl, wmul zx.den zy.den ha hb hab, ?_⟩
    have h0 := Int.mul_pos (Mth.den_pos r) (Mth.den_pos s)
    have hba : b + a ≤ 8999 := by rw [big_eq] at hab; omega
    refine ⟨_, _, rfl, by omega, Mth.lt_mono (Mth.add_lt (Mth.lt_mono (Mth.mul_lt zx.1 zy.den) hab) (Mth.lt_mono (Mth.mul_lt zy.1 zx.den) hba)) (by decide), Mth.lt_mono (Mth.mul_lt zx.den zy.den) hab, fun v H' e hv => k v H' e ?_⟩
    rw [Mth.fr_add] at hv
    exact hv
theorem sc_lsub : FnScope ["_law_one", "_law_other"] ["_law_one", "_law_other"] (C8.fnScope (top 59)) := C8.fnScope_by (by decide +kernel)
theorem cal_lsub (D : DD K mg "_law_sub" 59) (c_l_low : C8.Cal P w K mg base 2 "_law_low" (spLow K) []) : C8.Cal P w K mg base 3 "_law_sub" (spBin (· - ·) K) [] := by
  refine cal_mk D sc_lsub (fun _ _ _ _ _ _ us hl => match us, hl with | [_, _], _ => rfl) (fun vs H Q E h => ?_) (fun f cdv A outer s H vs Q E hr h => ?_)
  · obtain ⟨x, y, r, s, a, b, rfl, _⟩ := h; rfl
  · obtain ⟨x, y, r, s, a, b, rfl, ⟨px, rfl, hx⟩, ⟨py, rfl, hy⟩, zx, zy, ha, hb, hab, k⟩ := h
    have nd := sc_lsub.nd
    refine ⟨_, (pss_one (ps_ret (C8.pe_c c_l_low hr (by decide) (by rfl) (pa_cons (pe_op op_sub (pe_op op_mulW (pe_ix (ix_tupK K) (pv 0) pe_int (fun _ _ => rfl)) (pe_ix (ix_tupK K) (pv 1) pe_int (fun _ _ => rfl))) (pe_op op_mulW (pe_ix (ix_tupK K) (pv 1) pe_int (fun _ _ => rfl)) (pe_ix (ix_tupK K) (pv 0) pe_int (fun _ _ => rfl)))) (pa_cons (pe_op op_mulW (pe_ix (ix_tupK K) (pv 0) pe_int (fun _ _ => rfl)) (pe_ix (ix_tupK K) (pv 1) pe_int (fun _ _ => rfl))) pa_nil))))), ?_⟩
    refine ⟨_, rfl, px, _, 0, _, rfl, rfl, hx, rfl, _, rfl, py, _, 1, _, rfl, rfl, hy, rfl, _, _, rfl, rfl, wmul zx.1 zy.den ha hb hab, ?_⟩
    refine ⟨_, rfl, py, _, 0, _, rfl, rfl, hy, rfl, _, rfl, px, _, 1, _, rfl, rfl, hx, rfl, _, _, rfl, rfl, wmul zy.1 zx.den hb ha (by omega), _, _, rfl, rfl, ?_⟩
    refine ⟨_, rfl, px, _, 1, _, rfl, rfl, hx, rfl, _, rfl, py, _, 1, _, rfl, rfl, hy, rfl, _, _, rfl, rfl, wmul zx.den zy.den ha hb hab, ?_⟩
    have h0 := Int.mul_pos (Mth.den_pos r) (Mth.den_pos s)
    have hba : b + a ≤ 8999 := by rw [big_eq] at hab; omega
    refine ⟨_, _, rfl, by omega, Mth.lt_mono (Mth.sub_lt (Mth.lt_mono (Mth.mul_lt zx.1 zy.den) hab) (Mth.lt_mono (Mth.mul_lt zy.1 zx.den) hba)) (by decide), Mth.lt_mono (Mth.mul_lt zx.den zy.den) hab, fun v H' e hv => k v H' e ?_⟩
    rw [Mth.fr_sub] at hv
    exact hv
theorem sc_lmul : FnScope ["_law_one", "_law_other"] ["_law_one", "_law_other"] (C8.fnScope (top 60)) := C8.fnScope_by (by decide +kernel)
theorem cal_lmul (D : DD K mg "_law_mul" 60) (c_l_low : C8.Cal P w K mg base 2 "_law_low" (spLow K) []) : C8.Cal P w K mg base 3 "_law_mul" (spBin (· * ·) K) [] := by
  refine cal_mk D sc_lmul (fun _ _ _ _ _ _ us hl => match us, hl with | [_, _], _ => rfl) (fun vs H Q E h => ?_) (fun f cdv A outer s H vs Q E hr h => ?_)
  · obtain ⟨x, y, r, s, a, b, rfl, _⟩ := h; rfl
  · obtain ⟨x, y, r, s, a, b, rfl, ⟨px, rfl, hx⟩, ⟨py, rfl, hy⟩, zx, zy, ha, hb, hab, k⟩ := h
    have nd := sc_lmul.nd
    refine ⟨_, (pss_one (ps_ret (C8.pe_c c_l_low hr (by decide) (by rfl) (pa_cons (pe_op op_mulW (pe_ix (ix_tupK K) (pv 0) pe_int (fun _ _ => rfl)) (pe_ix (ix_tupK K) (pv 1) pe_int (fun _ _ => rfl))) (pa_cons (pe_op op_mulW (pe_ix (ix_tupK K) (pv 0) pe_int (fun _ _ => rfl)) (pe_ix (ix_tupK K) (pv 1) pe_int (fun _ _ => rfl))) pa_nil))))), ?_⟩
    refine ⟨_, rfl, px, _, 0, _, rfl, rfl, hx, rfl, _, rfl, py, _, 0, _, rfl, rfl, hy, rfl, _, _, rfl, rfl, wmul zx.1 zy.1 ha hb hab, ?_⟩
    refine ⟨_, rfl, px, _, 1, _, rfl, rfl, hx, rfl, _, rfl, py, _, 1, _, rfl, rfl, hy, rfl, _, _, rfl, rfl, wmul zx.den zy.den ha hb hab, ?_⟩
    have h0 := Int.mul_pos (Mth.den_pos r) (Mth.den_pos s)
    refine ⟨_, _, rfl, by omega, Mth.lt_mono (Mth.mul_lt zx.1 zy.1) (Nat.le_succ_of_le hab), Mth.lt_mono (Mth.mul_lt zx.den zy.den) hab, fun v H' e hv => k v H' e ?_⟩
    rw [Mth.fr_mul] at hv
    exact hv
/-! ### sum -/
def spLSum (K : PySem.W.Frag) : Sp := fun vs H Q _ => ∃ (v : V) (xs : List V) (f : Nat → Rat) (b : Nat), vs = [v] ∧ LstV K H v xs ∧ At (FracR K f) xs H ∧ 0 < b ∧ b + b ≤ big ∧ (∀ i, i < xs.length → Mth.Sz b (f i)) ∧ (∀ i, i ≤ xs.length → Mth.Sz b (Mth.rs f (List.range i))) ∧
  ∀ v H', Ex H H' → Frac K H' v (Mth.rs f (List.range xs.length)) → Q v H'
theorem sc_lsum : FnScope ["_law_line", "_law_summed", "_law_number"] ["_law_line"] (C8.fnScope (top 61)) := C8.fnScope_by (by decide +kernel)
theorem cal_lsum (D : DD K mg "_law_sum" 61) (c_l_add : C8.Cal P w K mg base 3 "_law_add" (spBin (· + ·) K) []) : C8.Cal P w K mg base 4 "_law_sum" (spLSum K) [] := by
  refine cal_mk D sc_lsum (fun _ _ _ _ _ _ us hl => match us, hl with | [_], _ => rfl) (fun vs H Q E h => ?_) (fun f cdv A outer s H vs Q E hr h => ?_)
  · obtain ⟨v, xs, f, b, rfl, _⟩ := h; rfl
  · obtain ⟨v, xs, f, b, rfl, ⟨p, rfl, hp⟩, hf, hb, hbb, hz, hs, kk⟩ := h
    have nd := sc_lsum.nd
    refine ⟨_, (pss_cons (pset 1 nd (pe_tup (pa_cons pe_int (pa_cons pe_int pa_nil))))
    (pss_cons (ps_for PassesOwn.never rfl (pi_listK K (pv 0)) (pgn 2 nd)
      (pss_one (pset 1 nd (C8.pe_c c_l_add hr (by decide) (by rfl) (pa_cons (pv 1) (pa_cons (pv 2) pa_nil))))))
    (pss_one (ps_ret (pv 1))))), ?_⟩
    refine ⟨by show 2 ≤ sizeLine; decide, fun p1 hp1 => ?_⟩
    have e1 := Evl.Ex.new (o := .tup [.int 0, .int 1]) hp1
    have hp' := Evl.ex_l e1 hp
    refine ⟨_, rfl, p, rfl, ⟨_, hp'⟩, ?_⟩
    refine for_it walk_list (Pv := fun i σ' H' => ∃ v1 a2, σ' = [some (.ref p), some v1, a2] ∧ Ex (upd H p1 (.tup [.int 0, .int 1])) H' ∧ Frac K H' v1 (Mth.rs f (List.range i))) ⟨_, _, rfl, Evl.Ex.refl _, TupV.new⟩ (fun i σ H' _ h => Evl.ex_l h.choose_spec.choose_spec.2.1 hp') ?_ ?_
    · rintro i x σ' H' H2 hi ⟨v1, a2, rfl, e2, hv1⟩ ⟨rfl, ex⟩
      refine ⟨_, rfl, _, rfl, v1, x, _, f i, b, b, rfl, hv1, mono_frac i x _ _ (hf i x ex) (e1.trans e2), hs i (by omega), hz i hi, hb, hb, hbb, fun v3 H3 e3 hv3 => ⟨_, _, rfl, e2.trans e3, ?_⟩⟩
      rw [List.range_succ, Mth.rs_app]
      show Frac K H3 v3 (_ + (f i + 0))
      rw [Rat.add_zero]
      exact hv3
    · rintro σ' H' ⟨v1, a2, rfl, e2, hv1⟩
      exact ⟨_, rfl, kk _ _ (e1.trans e2) hv1⟩
/-! ### power -/
def spPow : Sp := fun vs H Q _ => ∃ (b : Int) (e k : Nat), vs = [.int b, .int e] ∧ b.natAbs < 2 ^ k ∧ 0 < k ∧ (e + 1) * k + 1 ≤ big ∧ Q (.int (b ^ e)) H
theorem pow_lt {b : Int} {k : Nat} (h : b.natAbs < 2 ^ k) : ∀ i, (b ^ i).natAbs < 2 ^ (i * k + 1)
  | 0 => by rw [Int.pow_zero]; exact Nat.one_lt_two_pow (by omega)
  | i + 1 => by
    rw [Int.pow_succ]
    have := Mth.mul_lt (pow_lt h i) h
    rw [show (i + 1) * k + 1 = i * k + 1 + k by rw [Nat.add_mul]; omega]
    exact this
theorem sc_lpow : FnScope ["_law_number", "_law_often", "_law_result", "_law_turn"] ["_law_number", "_law_often"] (C8.fnScope (top 62)) := C8.fnScope_by (by decide +kernel)
theorem cal_lpow (B : Bt mg) (D : DD K mg "_law_power" 62) : C8.Cal P w K mg base 1 "_law_power" (spPow) [] := by
  refine cal_mk D sc_lpow (fun _ _ _ _ _ _ us hl => match us, hl with | [_, _], _ => rfl) (fun vs H Q E h => ?_) (fun f cdv A outer s H vs Q E hr h => ?_)
  · obtain ⟨b, e, k, rfl, _⟩ := h; rfl
  · obtain ⟨b, e, k, rfl, hb, hk, hle, kk⟩ := h
    have nd := sc_lpow.nd
    refine ⟨_, (pss_cons (pset 2 nd pe_int)
    (pss_cons (ps_for PassesOwn.never rfl (pi_range1 (by rfl) B.range (pa_cons (pv 1) pa_nil)) (pgn 3 nd)
      (pss_one (pset 2 nd (pe_op op_mulW (pv 2) (pv 0)))))
    (pss_one (ps_ret (pv 2))))), ?_⟩
    have hle' : e ≤ 8999 := by
      rw [big_eq] at hle
      have : (e + 1) * 1 ≤ (e + 1) * k := Nat.mul_le_mul_left _ hk
      omega
    refine ⟨_, rfl, _, rfl, by omega, by omega, ?_⟩
    refine for_it walk_rng (Pv := fun i σ' H' => H' = H ∧ ∃ a3, σ' = [some (.int b), some (.int e), some (.int (b ^ i)), a3]) ⟨rfl, none, by rw [Int.pow_zero]; rfl⟩ (fun _ _ _ _ _ => True.intro) ?_ ?_
    · rintro i x σ' H' H2 hi ⟨rfl, a3, rfl⟩ ⟨rfl, rfl⟩
      have hi' : i < e := hi
      have : i * k + 1 + k ≤ (e + 1) * k + 1 := by
        have : (i + 1) * k ≤ (e + 1) * k := Nat.mul_le_mul_right _ (by omega)
        rw [Nat.add_mul] at this
        omega
      refine ⟨_, rfl, _, rfl, _, _, rfl, rfl, wmul (pow_lt hb i) hb (by omega) hk (by omega), rfl, some (.int (i : Nat)), ?_⟩
      rw [Int.pow_succ]
      rfl
    · rintro σ' H' ⟨rfl, a3, rfl⟩
      exact ⟨_, rfl, kk⟩
/-! ### places, rest, some -/
def lp (n m : Nat) : List Nat := (List.range n).filter fun i => m.testBit i
def spPlaces (K : PySem.W.Frag) : Sp := fun vs H Q _ => ∃ (m n : Nat), vs = [.int m, .int n] ∧ n ≤ 12 ∧ ∀ v H', Ex H H' → TupV K H' v (nV (lp n m)) → Q v H'
theorem range_filter_succ {p : Nat → Bool} {i : Nat} : (List.range (i + 1)).filter p = (List.range i).filter p ++ if p i = true then [i] else [] := by
  rw [List.range_succ, List.filter_append]
  congr 1
  by_cases h : p i = true
  · rw [if_pos h, List.filter_cons_of_pos h]; rfl
  · rw [if_neg h, List.filter_cons_of_neg h]; rfl
theorem sc_places : FnScope ["_law_number", "_law_size_here", "_law_found", "_law_at"] ["_law_number", "_law_size_here"] (C8.fnScope (top 63)) := C8.fnScope_by (by decide +kernel)
theorem cal_places (B : Bt mg) (D : DD K mg "_law_places" 63) (c_l_power : C8.Cal P w K mg base 1 "_law_power" (spPow) []) : C8.Cal P w K mg base 2 "_law_places" (spPlaces K) [] := by
  refine cal_mk D sc_places (fun _ _ _ _ _ _ us hl => match us, hl with | [_, _], _ => rfl) (fun vs H Q E h => ?_) (fun f cdv A outer s H vs Q E hr h => ?_)
  · obtain ⟨m, n, rfl, _⟩ := h; rfl
  · obtain ⟨m, n, rfl, hn, kk⟩ := h
    have nd := sc_places.nd
    refine ⟨_, (pss_cons (pset 2 nd (pe_lst pa_nil))
    (pss_cons (ps_for PassesOwn.never rfl (pi_range1 (by rfl) B.range (pa_cons (pv 1) pa_nil)) (pgn 3 nd)
      (pss_one (ps_if (pt_cmpR op_eq (pe_op op_mod (pe_callTy call_int1 (by rfl) B.int PyProof.Rows.boot_int (pa_cons (pe_op op_fdivZ (pv 0) (C8.pe_c c_l_power hr (by decide) (by rfl) (pa_cons pe_int (pa_cons (pv 3) pa_nil)))) pa_nil)) pe_int) pe_int (nomark _)) (pss_one (ps_expr (pe_bm PySem.F.plainAttrs_list PySem.F.slot_list_append PySem.F.type_list_append mt_append (pv 2) (pa_cons (pv 3) pa_nil)))) pss_nil)))
    (pss_one (ps_ret (pe_callTy (call_tupK K) (by rfl) B.tuple PyProof.Rows.boot_tuple (pa_cons (pv 2) pa_nil)))))), ?_⟩
    refine ⟨by decide, fun p hp => ?_⟩
    have e0 := Evl.Ex.new (o := .lst []) hp
    refine ⟨_, rfl, _, rfl, by omega, by omega, ?_⟩
    refine for_it walk_rng (Pv := fun i σ' H' => ∃ a3, σ' = [some (.int m), some (.int n), some (.ref p), a3] ∧ Ex H H' ∧ H' p = some (.lst (nV (lp i m)))) ⟨_, rfl, e0, upd_same⟩ (fun _ _ _ _ _ => True.intro) ?_ ?_
    · rintro i x σ' H' H2 hi ⟨a3, rfl, e1, h1⟩ ⟨rfl, rfl⟩
      have hi' : i < n := hi
      refine ⟨_, rfl, _, rfl, 2, i, 2, rfl, by decide, by decide, by rw [big_eq]; omega, _, _, rfl, rfl, cdivz (by have : (0 : Int) < 2 ^ i := Int.pow_pos (by decide); omega) (Nat.lt_of_lt_of_le (pow_lt (b := 2) (k := 2) (by decide) i) (Nat.pow_le_pow_right (by decide) (by omega))), .inl ⟨_, rfl, _, _, rfl, rfl, by show (0 : Int) < 2; decide, rfl, _, rfl, ?_⟩⟩
      have hb : decide (V.int ((m : Int).fdiv (2 ^ i) % 2) = V.int 1) = m.testBit i := by
        have e : (m : Int).fdiv (2 ^ i) % 2 = (((m / 2 ^ i) % 2 : Nat) : Int) := by
          have : ((2 : Int) ^ i) = ((2 ^ i : Nat) : Int) := by simp
          rw [this, Int.fdiv_eq_ediv_of_nonneg _ (Int.natCast_nonneg _)]
          first | rfl | simp
        rw [e, Nat.testBit_eq_decide_div_mod_eq]
        by_cases h : m / 2 ^ i % 2 = 1
        · rw [h]; rfl
        · rw [decide_eq_false h, decide_eq_false (fun z => h (by injection z with z; omega))]
      show if decide (V.int ((m : Int).fdiv (2 ^ i) % 2) = V.int 1) = true then _ else _
      rw [hb]
      have hl : (nV (lp i m)).length < 100000 := by
        rw [nV_len]
        have := List.length_filter_le (fun j => m.testBit j) (List.range i)
        rw [List.length_range] at this
        show ((List.range i).filter _).length < _
        omega
      by_cases h : m.testBit i = true
      · rw [h]
        refine iteT ⟨_, rfl, lst_ty h1, _, rfl, p, _, _, rfl, rfl, h1, lt_sz hl, _, rfl, e1.mut (Evl.fresh_back (Evl.Ex.refl _) hp), ?_⟩
        rw [upd_same]
        unfold lp
        rw [range_filter_succ, if_pos h]
        simp [nV]
      · have h' : m.testBit i = false := by simpa using h
        rw [h']
        refine iteF ⟨_, rfl, e1, ?_⟩
        unfold lp
        rw [range_filter_succ, if_neg h, List.append_nil]
        exact h1
    · rintro σ' H' ⟨a3, rfl, e1, h1⟩
      exact ⟨_, rfl, p, _, rfl, .inl ⟨SqL.of h1, fun q hq => kk _ _ (e1.trans (Evl.Ex.new hq)) TupV.new⟩⟩
def spLRest (K : PySem.W.Frag) : Sp := fun vs H Q _ => ∃ (v : V) (l : List Nat) (n : Nat), vs = [v, .int n] ∧ TupV K H v (nV l) ∧ n ≤ 12 ∧ ∀ v H', Ex H H' → TupV K H' v (nV ((List.range n).filter fun i => !decide (i ∈ l))) → Q v H'
theorem sc_lrest : FnScope ["_law_taken", "_law_size_here", "_law_at"] ["_law_taken", "_law_size_here"] (C8.fnScope (top 64)) := C8.fnScope_by (by decide +kernel)
theorem cal_lrest (B : Bt mg) (D : DD K mg "_law_rest" 64) : C8.Cal P w K mg base 1 "_law_rest" (spLRest K) [] := by
  refine cal_mk D sc_lrest (fun _ _ _ _ _ _ us hl => match us, hl with | [_, _], _ => rfl) (fun vs H Q E h => ?_) (fun f cdv A outer s H vs Q E hr h => ?_)
  · obtain ⟨v, l, n, rfl, _⟩ := h; rfl
  · obtain ⟨v, l, n, rfl, ⟨p, rfl, hp⟩, hn, kk⟩ := h
    have nd := sc_lrest.nd
    refine ⟨_, (pss_one (ps_ret (pe_callTy (call_tupK K) (by rfl) B.tuple PyProof.Rows.boot_tuple (pa_cons (pe_lc (own := [("_law_at", 2)]) rfl nd (pi_range1 (by rfl) B.range (pa_cons (pv 1) pa_nil)) (blkOk_by (own := [("_law_at", 2)]) (N := ["_law_taken", "_law_size_here", "_law_at"]) (by kernel_rfl)) (fun _ _ _ _ _ => (pgn 2 nd)) (fun _ _ _ _ _ => (pts_one (pt_cmpR (op_niK K) (pv 2) (pv 0) rfl))) (fun _ _ _ _ _ => (pv 2))) pa_nil)))), ?_⟩
    refine ⟨_, rfl, _, rfl, by omega, by omega, fun D hD => ?_⟩
    refine lcV walk_rng gm_true (lt_sz (by omega)) (fun i => !decide (i ∈ l)) (fun i => .int (i : Nat)) hD True.intro ?_ ?_
    · rintro i x H2 H2' Kt Kf hi e2 _ ⟨rfl, rfl⟩ _ kt kf
      refine ⟨rfl, _, rfl, _, rfl, p, _, rfl, .inr (Evl.ex_t e2 hp), rfl, flat_nV, _, rfl, ?_⟩
      rw [if_pos rfl, inV_nV]
      by_cases h : i ∈ l
      · rw [decide_eq_true h] at kf ⊢
        exact iteF (kf rfl _ (Evl.Ex.refl _))
      · rw [decide_eq_false h] at kt ⊢
        exact iteT ⟨_, rfl, kt rfl _ (Evl.Ex.refl _)⟩
    · intro H5 e5 h5
      refine ⟨D, _, rfl, .inl ⟨SqL.of h5, fun q hq => kk _ _ (e5.trans (Evl.Ex.new hq)) TupV.new⟩⟩
def spSome (K : PySem.W.Frag) : Sp := fun vs H Q _ => ∃ (d : Addr) (n : Nat), vs = [.ref d, .int n] ∧ n ≤ 12 ∧ Dig d H ∧ ∀ v (l : List Nat) H', Ex (wo d H) (wo d H') → Dig d H' → TupV K (wo d H') v (nV l) → LotOk l n → l.Pairwise (· ≤ ·) → Q v H'
theorem sc_some : FnScope ["_law_digits", "_law_size_here", "_law_at"] ["_law_digits", "_law_size_here"] (C8.fnScope (top 65)) := C8.fnScope_by (by decide +kernel)
theorem cal_some (B : Bt mg) (D : DD K mg "_law_some" 65) (c_l_eat : C8.Cal P w K mg base 1 "_law_eat" (spEat) []) : C8.Cal P w K mg base 2 "_law_some" (spSome K) [] := by
  refine cal_mk D sc_some (fun _ _ _ _ _ _ us hl => match us, hl with | [_, _], _ => rfl) (fun vs H Q E h => ?_) (fun f cdv A outer s H vs Q E hr h => ?_)
  · obtain ⟨d, n, rfl, _⟩ := h; rfl
  · obtain ⟨d, n, rfl, hn, hd, kk⟩ := h
    have nd := sc_some.nd
    refine ⟨_, (pss_one (ps_ret (pe_callTy (call_tupK K) (by rfl) B.tuple PyProof.Rows.boot_tuple (pa_cons (pe_lc (own := [("_law_at", 2)]) rfl nd (pi_range1 (by rfl) B.range (pa_cons (pv 1) pa_nil)) (blkOk_by (own := [("_law_at", 2)]) (N := ["_law_digits", "_law_size_here", "_law_at"]) (by kernel_rfl)) (fun _ _ _ _ _ => (pgn 2 nd)) (fun _ _ _ _ _ => (pts_one (pt_cmpR op_eq (C8.pe_c c_l_eat hr (by decide) (by rfl) (pa_cons (pv 0) (pa_cons pe_int pa_nil))) pe_int (nomark _)))) (fun _ _ _ _ _ => (pv 2))) pa_nil)))), ?_⟩
    refine ⟨_, rfl, _, rfl, by omega, by omega, fun D hD => ?_⟩
    have hDd := hd.ne hD
    refine it_gen walk_rng (Pv := fun i H' => ∃ l : List Nat, Ex (wo d H) (wo d H') ∧ Dig d H' ∧ H' D = some (.lst (nV l)) ∧ (∀ x ∈ l, x < i) ∧ l.Pairwise (· < ·) ∧ l.length ≤ i) ⟨[], by rw [wo_upd hDd]; exact Evl.Ex.new (wo_fresh hD), hd.ex (Evl.Ex.new hD), upd_same, (fun x hx => by cases hx), List.Pairwise.nil, Nat.le_refl _⟩ (fun _ _ _ _ => True.intro) ?_ ?_
    · rintro i x H2 H2' hi ⟨l, e2, hd2, h2, hlt, hp, hlen⟩ ⟨rfl, rfl⟩
      have hi' : i < n := hi
      refine ⟨rfl, _, rfl, d, 2, rfl, by decide, hd2, fun c H3 hc e3 hd3 => ⟨rfl, _, rfl, ?_⟩⟩
      have h3 : H3 D = some (.lst (nV l)) := by
        have := e3 D _ (by rw [wo_at hDd]; exact h2)
        rw [wo_at hDd] at this
        exact this
      by_cases hc1 : c = 1
      · subst hc1
        rw [show decide (V.int ((1 : Nat) : Int) = V.int 1) = true from decide_eq_true rfl]
        refine iteT ⟨_, rfl, _, h3, by rw [nV_len]; exact lt_sz (by omega), l ++ [i], ?_, ?_, ?_, ?_, ?_, ?_⟩
        · rw [wo_upd hDd]
          exact (e2.trans e3).mut (wo_fresh hD)
        · obtain ⟨ds, hds⟩ := hd3
          exact ⟨ds, by rw [upd_ne (fun z => hDd z.symm)]; exact hds⟩
        · rw [upd_same]; simp [nV]
        · intro x hx
          rcases List.mem_append.mp hx with hx | hx
          · have := hlt x hx; omega
          · rw [List.mem_singleton.mp hx]; omega
        · rw [List.pairwise_append]
          exact ⟨hp, List.pairwise_singleton _ _, fun a ha b hb => by rw [List.mem_singleton.mp hb]; exact hlt a ha⟩
        · rw [List.length_append]; show l.length + 1 ≤ _; omega
      · rw [decide_eq_false (fun z => hc1 (by injection z with z; omega))]
        exact iteF ⟨l, e2.trans e3, hd3, h3, fun x hx => by have := hlt x hx; omega, hp, by omega⟩
    · rintro H5 ⟨l, e5, hd5, h5, hlt, hp, hlen⟩
      refine ⟨D, _, rfl, .inl ⟨SqL.of h5, fun q hq => ?_⟩⟩
      have hqd := hd5.ne hq
      refine kk _ l _ (by rw [wo_upd hqd]; exact e5.trans (Evl.Ex.new (wo_fresh hq))) (hd5.ex (Evl.Ex.new hq)) ⟨q, rfl, SqT.of (by rw [wo_at hqd, upd_same])⟩ ⟨fun x hx => hlt x hx, hp.imp fun h => Nat.ne_of_lt h⟩ (hp.imp fun h => Nat.le_of_lt h)
end
end K18
end
section
set_option Elab.async false
set_option linter.all false
set_option maxRecDepth 100000
set_option maxHeartbeats 4000000
namespace K18
open PySem PySem.Spec PyProof.Rows L2
theorem for_rg {a m m' : Nat} {lo : Int} (hlo : lo = (a : Nat)) (e : m' = m) {g : TG} {tb : TS} {D : Ends} {σ : L2.St} {H : Hp} (Pv : Nat → L2.St → Hp → Prop) (h0 : Pv 0 σ H)
    (hs : ∀ i σ H, i < m → Pv i σ H → g (.int ((a + i : Nat) : Int)) σ H fun σ2 H2 => tb { D with nx := Pv (i + 1), ct := Pv (i + 1), bk := D.nx } σ2 H2) (hd : ∀ σ H, Pv m σ H → D.nx σ H) :
    ∃ W : Nat → Nat → L2.St → Hp → Prop, (∃ m, W 0 m σ H) ∧ ∀ i m σ H, W i m σ H →
      ((Itr lo m').stop i H ∧ D.nx σ H) ∨ ((Itr lo m').go i H ∧ ∃ N : L2.St → Hp → Prop, (∀ σ' H', N σ' H' → ∃ m', m' < m ∧ W (i + 1) m' σ' H') ∧ ∀ x H', (Itr lo m').yld i H x H' → g x σ H' fun σ2 H2 => tb { D with nx := N, ct := N, bk := D.nx } σ2 H2) := by
  subst hlo e
  refine for_it walk_range Pv h0 (fun _ _ _ _ _ => True.intro) (fun i x σ H H' hi p y => ?_) hd
  obtain ⟨rfl, rfl⟩ := y
  exact hs i σ H' hi p
def iRow (n : Nat) (f : Nat → Int) : List V := (List.range n).map fun j => .int (f j)
theorem iRow_at {n j : Nat} {f : Nat → Int} (h : j < n) : (iRow n f)[j]? = some (.int (f j)) := by
  unfold iRow
  rw [List.getElem?_map, List.getElem?_range h]; rfl
theorem iRow_len {n : Nat} {f : Nat → Int} : (iRow n f).length = n := by unfold iRow; simp
theorem iRow_congr {n : Nat} {f g : Nat → Int} (h : ∀ j, j < n → f j = g j) : iRow n f = iRow n g := List.map_congr_left fun j hj => by rw [h j (List.mem_range.mp hj)]
theorem iRow_succ {n : Nat} {f : Nat → Int} : iRow (n + 1) f = iRow n f ++ [.int (f n)] := by unfold iRow; rw [List.range_succ, List.map_append]; rfl
/-- a list of n rows of n ints -/
def IMat (H : Hp) (v : V) (n : Nat) (A : Mth.Mat) : Prop := ∃ p rs, v = .ref p ∧ H p = some (.lst rs) ∧ rs.length = n ∧ ∀ i, i < n → ∃ q, rs[i]? = some (.ref q) ∧ H q = some (.lst (iRow n (A i)))
theorem IMat.ex {H H' : Hp} {v : V} {n : Nat} {A : Mth.Mat} (h : IMat H v n A) (e : Ex H H') : IMat H' v n A := by
  obtain ⟨p, rs, rfl, hp, hl, hr⟩ := h
  exact ⟨p, rs, rfl, e _ _ hp, hl, fun i hi => (hr i hi).imp fun q h => ⟨h.1, e _ _ h.2⟩⟩
theorem IMat.congr {H : Hp} {v : V} {n : Nat} {A B : Mth.Mat} (h : IMat H v n A) (e : ∀ i, i < n → ∀ j, j < n → A i j = B i j) : IMat H v n B := by
  obtain ⟨p, rs, rfl, hp, hl, hr⟩ := h
  refine ⟨p, rs, rfl, hp, hl, fun i hi => (hr i hi).imp fun q h => ⟨h.1, ?_⟩⟩
  rw [← iRow_congr (e i hi)]
  exact h.2
/-- the rows being worked on: the list at p1, no row of it at p1 -/
def Wk1 (H : Hp) (p1 : Addr) (n : Nat) (W : Mth.Mat) : Prop := ∃ rs, H p1 = some (.lst rs) ∧ rs.length = n ∧ ∀ i, i < n → ∃ q, rs[i]? = some (.ref q) ∧ q ≠ p1 ∧ H q = some (.lst (iRow n (W i)))
theorem Wk1.ex {H H' : Hp} {p : Addr} {n : Nat} {W : Mth.Mat} (h : Wk1 H p n W) (e : Ex H H') : Wk1 H' p n W := by
  obtain ⟨rs, hp, hl, hr⟩ := h
  exact ⟨rs, e _ _ hp, hl, fun i hi => (hr i hi).imp fun q h => ⟨h.1, h.2.1, e _ _ h.2.2⟩⟩
theorem Wk1.congr {H : Hp} {p : Addr} {n : Nat} {W W' : Mth.Mat} (h : Wk1 H p n W) (e : ∀ i, i < n → ∀ j, j < n → W i j = W' i j) : Wk1 H p n W' := by
  obtain ⟨rs, hp, hl, hr⟩ := h
  refine ⟨rs, hp, hl, fun i hi => (hr i hi).imp fun q h => ⟨h.1, h.2.1, ?_⟩⟩
  rw [← iRow_congr (e i hi)]
  exact h.2.2
/-- one row replaced -/
theorem Wk1.set {H : Hp} {p q : Addr} {n c : Nat} {W : Mth.Mat} {f : Nat → Int} {rs : List V} (h : Wk1 H p n W) (hp : H p = some (.lst rs)) (hc : c < n) (hq : q ≠ p) (hf : H q = some (.lst (iRow n f))) :
    Wk1 (upd H p (.lst (rs.set c (.ref q)))) p n (fun i => if i = c then f else W i) := by
  obtain ⟨rs', hp', hl, hr⟩ := h
  rw [hp] at hp'
  cases hp'
  refine ⟨_, upd_same, by rw [List.length_set]; exact hl, fun i hi => ?_⟩
  by_cases e : i = c
  · subst e
    refine ⟨q, List.getElem?_set_self (by omega), hq, ?_⟩
    rw [upd_ne hq]
    show H q = some (.lst (iRow n (if i = i then f else W i)))
    rw [if_pos rfl]
    exact hf
  · obtain ⟨q', h1, h2, h3⟩ := hr i hi
    refine ⟨q', by rw [List.getElem?_set_ne (fun z => e z.symm)]; exact h1, h2, ?_⟩
    rw [upd_ne h2]
    show H q' = some (.lst (iRow n (if i = c then f else W i)))
    rw [if_neg e]
    exact h3
section
variable {K : PySem.W.Frag} {H : Hp} {n i j a b c : Nat} {p : Addr} {W : Mth.Mat} {σ : L2.St} {Q : VK}
theorem rd_wk (h : Wk1 H p n W) (h0 : σ[a]? = some (some (.ref p))) (h1 : σ[b]? = some (some (.int (i : Nat)))) (h2 : σ[c]? = some (some (.int (j : Nat)))) (hi : i < n) (hj : j < n) (q : Q (.int (W i j)) H) :
    tOp (rIxL K) (tOp (rIxL K) (tVar a) (tVar b)) (tVar c) σ H Q := by
  obtain ⟨rs, hp, hl, hr⟩ := h
  obtain ⟨q', e1, _, hq⟩ := hr i hi
  exact ⟨_, h0, _, h1, p, rs, _, _, rfl, rfl, SqL.of hp, at_some e1, _, h2, q', _, _, _, rfl, rfl, SqL.of hq, at_some (iRow_at hj), q⟩
theorem rd_wkR (h : Wk1 H p n W) (h0 : σ[a]? = some (some (.ref p))) (h1 : σ[b]? = some (some (.int (i : Nat)))) (hi : i < n) (q : ∀ q', q' ≠ p → H q' = some (.lst (iRow n (W i))) → Q (.ref q') H) :
    tOp (rIxL K) (tVar a) (tVar b) σ H Q := by
  obtain ⟨rs, hp, hl, hr⟩ := h
  obtain ⟨q', e1, hn, hq⟩ := hr i hi
  exact ⟨_, h0, _, h1, p, rs, _, _, rfl, rfl, SqL.of hp, at_some e1, q q' hn hq⟩
/-- an entry of a row that is at hand -/
theorem rd_irow {m : Nat} {f : Nat → Int} (h : H p = some (.lst (iRow m f))) (h0 : σ[a]? = some (some (.ref p))) (h1 : σ[b]? = some (some (.int (j : Nat)))) (hj : j < m) (q : Q (.int (f j)) H) : tOp (rIxL K) (tVar a) (tVar b) σ H Q :=
  ⟨_, h0, _, h1, p, _, _, _, rfl, rfl, SqL.of h, at_some (iRow_at hj), q⟩
end
theorem fdiv_le {x b : Int} (hb : b ≠ 0) : (x.fdiv b).natAbs ≤ x.natAbs := by
  have hx : ∀ y : Nat, y / b.natAbs ≤ y := fun y => Nat.div_le_self _ _
  match x, b, hb with
  | .ofNat 0, .ofNat k, _ => show 0 ≤ 0; exact Nat.le_refl _
  | .ofNat (m + 1), .ofNat k, _ => show (m + 1) / k ≤ m + 1; exact Nat.div_le_self _ _
  | .ofNat 0, .negSucc k, _ => exact Nat.le_refl _
  | .ofNat (m + 1), .negSucc k, _ => show m / (k + 1) + 1 ≤ m + 1; have := Nat.div_le_self m (k + 1); omega
  | .negSucc m, .ofNat 0, h => exact absurd rfl h
  | .negSucc m, .ofNat (k + 1), _ => show m / (k + 1) + 1 ≤ m + 1; have := Nat.div_le_self m (k + 1); omega
  | .negSucc m, .negSucc k, _ => show (m + 1) / (k + 1) ≤ m + 1; exact Nat.div_le_self _ _
def eB (k : Nat) : Nat := 32 * 2 ^ k - 1
theorem eB_next (k : Nat) : eB k + eB k + 1 = eB (k + 1) := by unfold eB; rw [Nat.pow_succ]; have := Nat.two_pow_pos k; omega
theorem eB_le {k : Nat} (h : k ≤ 5) : eB k ≤ 1023 := by unfold eB; have : 2 ^ k ≤ 2 ^ 5 := Nat.pow_le_pow_right (by decide) h; omega
theorem eB_pos (k : Nat) : 31 ≤ eB k := by unfold eB; have := Nat.two_pow_pos k; omega
section
variable {P : Program} {w : World} {K : PySem.W.Frag} {mg : Str → Option Value} {base : Heap} {C : Addr}
def spDet : Sp := fun vs H Q _ => ∃ (v : V) (n : Nat) (A : Mth.Mat), vs = [v] ∧ IMat H v n A ∧ n ≤ 5 ∧ (∀ i, i < n → ∀ j, j < n → (A i j).natAbs < 2 ^ 31) ∧ ∀ H', Ex H H' → (Mth.det n A).natAbs < 2 ^ 1024 → Q (.int (Mth.det n A)) H'
theorem sc_det : FnScope ["_law_rows_here", "_law_work", "_law_sign", "_law_before", "_law_at", "_law_chosen", "_law_other", "_law_kept", "_law_pivot", "_law_line", "_law_fresh", "_law_to"] ["_law_rows_here"] (C8.fnScope (top 66)) := C8.fnScope_by (by decide +kernel)
theorem cal_det (B : Bt mg) (D : DD K mg "_law_det" 66) : C8.Cal P w K mg base 1 "_law_det" (spDet) [] := by
  refine cal_mk D sc_det (fun _ _ _ _ _ _ us hl => match us, hl with | [_], _ => rfl) (fun vs H Q E h => ?_) (fun f cdv A outer s H vs Q E hr h => ?_)
  · obtain ⟨v, n, A, rfl, _⟩ := h; rfl
  · obtain ⟨v, n, A0, rfl, ⟨p, rs0, rfl, hp, hlr, hrs⟩, hn, hA, kk⟩ := h
    have nd := sc_det.nd
    refine ⟨_, (pss_cons (ps_setLc (i := 1) (own := [("_law_line", 9)]) rfl nd rfl rfl (sw_true rfl rfl rfl (by decide +kernel)) (pi_listK K (pv 0)) (blkOk_by (own := [("_law_line", 9)]) (N := ["_law_rows_here", "_law_work", "_law_sign", "_law_before", "_law_at", "_law_chosen", "_law_other", "_law_kept", "_law_pivot", "_law_line", "_law_fresh", "_law_to"]) (by kernel_rfl)) (fun _ _ _ _ _ => (pgn 9 nd)) (fun _ _ _ _ _ => pts_nil) (fun _ _ _ _ _ => (pe_callTy (call_lstK K) (by rfl) B.list PyProof.Rows.boot_list (pa_cons (pv 9) pa_nil))))
    (pss_cons (pset 2 nd pe_int)
    (pss_cons (pset 3 nd pe_int)
    (pss_cons (ps_for PassesOwn.never rfl (pi_range1 (by rfl) B.range (pa_cons (pe_callB (call_lenK K) (by rfl) B.len PySem.boot_len (pa_cons (pv 1) pa_nil)) pa_nil)) (pgn 4 nd)
      (pss_cons (pset 5 nd (pv 4))
      (pss_cons (ps_for PassesOwn.never rfl (pi_range2 (by rfl) B.range (pa_cons (pv 4) (pa_cons (pe_callB (call_lenK K) (by rfl) B.len PySem.boot_len (pa_cons (pv 1) pa_nil)) pa_nil))) (pgn 6 nd)
        (pss_one (ps_if (PW.pt (pw_and (pt_cmpR op_eq (pe_ix (ix_listK K) (pe_ix (ix_listK K) (pv 1) (pv 5) (fun _ _ => rfl)) (pv 4) (fun _ _ => rfl)) pe_int (nomark _)) (pw_and1 (pt_cmpR op_ne (pe_ix (ix_listK K) (pe_ix (ix_listK K) (pv 1) (pv 6) (fun _ _ => rfl)) (pv 4) (fun _ _ => rfl)) pe_int (nomark _))))) (pss_one (pset 5 nd (pv 6))) pss_nil)))
      (pss_cons (ps_if (pt_cmpR op_eq (pe_ix (ix_listK K) (pe_ix (ix_listK K) (pv 1) (pv 5) (fun _ _ => rfl)) (pv 4) (fun _ _ => rfl)) pe_int (nomark _)) (pss_one (ps_ret pe_int)) pss_nil)
      (C8.pss_cut (ps_if (pt_cmpR op_ne (pv 5) (pv 4) (nomark _)) (pss_cons (pset 7 nd (pe_ix (ix_listK K) (pv 1) (pv 4) (fun _ _ => rfl)))
        (pss_cons (ps_asg (pe_ix (ix_listK K) (pv 1) (pv 5) (fun _ _ => rfl)) (pg_sub (pv 1) (pv 4) set_list))
        (pss_cons (ps_asg (pv 7) (pg_sub (pv 1) (pv 5) set_list))
        (pss_one (pset 2 nd (pe_op op_sub pe_int (pv 2))))))) pss_nil)
      (pss_cons (pset 8 nd (pe_ix (ix_listK K) (pv 1) (pv 4) (fun _ _ => rfl)))
      (pss_cons (ps_for PassesOwn.never rfl (pi_range2 (by rfl) B.range (pa_cons (pe_op op_add (pv 4) pe_int) (pa_cons (pe_callB (call_lenK K) (by rfl) B.len PySem.boot_len (pa_cons (pv 1) pa_nil)) pa_nil))) (pgn 6 nd)
        (pss_cons (pset 9 nd (pe_ix (ix_listK K) (pv 1) (pv 6) (fun _ _ => rfl)))
        (pss_cons (pset 10 nd (pe_lst pa_nil))
        (pss_cons (ps_for PassesOwn.never rfl (pi_range1 (by rfl) B.range (pa_cons (pe_callB (call_lenK K) (by rfl) B.len PySem.boot_len (pa_cons (pv 1) pa_nil)) pa_nil)) (pgn 11 nd)
          (pss_one (ps_expr (pe_bm PySem.F.plainAttrs_list PySem.F.slot_list_append PySem.F.type_list_append mt_append (pv 10) (pa_cons (pe_op op_fdivZ (pe_op op_sub (pe_op op_mulW (pe_ix (ix_listK K) (pv 9) (pv 11) (fun _ _ => rfl)) (pe_ix (ix_listK K) (pv 8) (pv 4) (fun _ _ => rfl))) (pe_op op_mulW (pe_ix (ix_listK K) (pv 9) (pv 4) (fun _ _ => rfl)) (pe_ix (ix_listK K) (pv 8) (pv 11) (fun _ _ => rfl)))) (pv 3)) pa_nil)))))
        (pss_one (ps_asg (pv 10) (pg_sub (pv 1) (pv 6) set_list)))))))
      (pss_one (pset 3 nd (pe_ix (ix_listK K) (pv 8) (pv 4) (fun _ _ => rfl)))))))))))
    (pss_one (ps_ret (pe_op op_mulW (pv 2) (pv 3)))))))), ?_⟩
    refine ⟨_, rfl, p, rfl, ⟨_, SqL.of hp⟩, fun p1 hp1 => ?_⟩
    refine lcA walk_list (fun _ _ g e => Evl.ex_l e g) (lt_sz (by omega)) (P := fun i v H => ∃ q, v = .ref q ∧ q ≠ p1 ∧ H q = some (.lst (iRow n (A0 i)))) (fun i v _ _ h e => h.imp fun q h => ⟨h.1, h.2.1, e _ _ h.2.2⟩) (fun i v _ _ _ _ e h => h.imp fun q h => ⟨h.1, h.2.1, e _ _ h.2.1 h.2.2⟩) hp1 (SqL.of hp) ?_ ?_
    · rintro i x H2 H2' Kt hi e2 _ ⟨rfl, ex⟩ ⟨ys, hys⟩ kt
      obtain ⟨q, e1, hq⟩ := hrs i (by omega)
      rw [e1] at ex
      cases ex
      refine ⟨rfl, _, rfl, q, _, rfl, .inl (SqL.of (e2 _ _ hq)), fun l hl => kt _ _ (Evl.Ex.new hl) ⟨l, rfl, fun z => ?_, upd_same⟩⟩
      rw [z, hys] at hl
      cases hl
    intro H1 rs1 e1 h1 hl1 ha1
    have wk1 : Wk1 H1 p1 n A0 := ⟨rs1, h1, by omega, fun i hi => by
      obtain ⟨v, e, q, rfl, h2, h3⟩ := ha1.get (i := i) (by omega)
      exact ⟨q, e, h2, h3⟩⟩
    refine ⟨_, rfl, p1, rs1, rfl, .inl (SqL.of h1), _, rfl, by omega, by omega, ?_⟩
    refine for_rg (a := 0) rfl (by omega : (rs1.length : Int).toNat = n) (Pv := fun k σ' H' => ∃ (s b : Int) (a4 a5 a6 a7 a8 a9 a10 a11 : Option V) (W : Mth.Mat), σ' = [some (.ref p), some (.ref p1), some (.int s), some (.int b), a4, a5, a6, a7, a8, a9, a10, a11] ∧ Ex H H' ∧ Wk1 H' p1 n W ∧ Mth.BI n A0 k W s b ∧ s.natAbs = 1 ∧ (∀ i, i < n → ∀ j, j < n → (W i j).natAbs < 2 ^ eB k) ∧ b.natAbs < 2 ^ eB k)
      ⟨1, 1, _, _, _, _, _, _, _, _, A0, rfl, e1, wk1, Mth.BI.start (fun _ _ _ _ => rfl), rfl, hA, by show 1 < 2 ^ 31; decide⟩ ?_ ?_
    · rintro k σ' H2 hk ⟨s, b, a4, a5, a6, a7, a8, a9, a10, a11, W, rfl, e2, wk, bi, hs1, hW, hb⟩
      rw [Nat.zero_add]
      obtain ⟨rs2, h2, hl2, hr2⟩ := id wk
      refine ⟨_, rfl, _, rfl, _, rfl, p1, rs2, rfl, .inl (SqL.of h2), _, _, rfl, ⟨by omega, by omega, by omega, by omega⟩, ?_⟩
      refine for_rg (a := k) rfl (by omega : ((rs2.length : Int) - (k : Int)).toNat = n - k) (Pv := fun m σ' H' => H' = H2 ∧ ∃ (c : Nat) (a6' : Option V), σ' = [some (.ref p), some (.ref p1), some (.int s), some (.int b), some (.int (k : Nat)), some (.int (c : Nat)), a6', a7, a8, a9, a10, a11] ∧ k ≤ c ∧ c < n ∧ (W c k ≠ 0 ∨ ∀ i, k ≤ i → i < k + m → W i k = 0))
        ⟨rfl, k, _, rfl, Nat.le_refl _, hk, .inr fun i h1 h2 => by omega⟩ ?_ ?_
      · rintro m σ' H3 hm ⟨rfl, c, a6', rfl, hkc, hcn, hor⟩
        refine rd_wk wk rfl rfl rfl hcn hk ⟨rfl, _, rfl, ?_⟩
        by_cases z : W c k = 0
        · rw [show decide (V.int (W c k) = V.int 0) = true from decide_eq_true (by rw [z])]
          refine iteT (rd_wk wk rfl rfl rfl (by omega) hk ⟨rfl, _, rfl, ?_⟩)
          by_cases z2 : W (k + m) k = 0
          · rw [show (!decide (V.int (W (k + m) k) = V.int 0)) = false by rw [decide_eq_true (by rw [z2])]; rfl]
            refine iteF ⟨rfl, c, _, rfl, hkc, hcn, .inr fun i h1 h2 => ?_⟩
            rcases hor with h | h
            · exact absurd z h
            · by_cases e : i = k + m
              · rw [e]; exact z2
              · exact h i h1 (by omega)
          · rw [show (!decide (V.int (W (k + m) k) = V.int 0)) = true by rw [decide_eq_false (fun q => z2 (by injection q))]; rfl]
            exact iteT ⟨_, rfl, rfl, k + m, _, rfl, by omega, by omega, .inl z2⟩
        · rw [decide_eq_false (fun q => z (by injection q))]
          exact iteF (iteF ⟨rfl, c, _, rfl, hkc, hcn, .inl z⟩)
      rintro σ' H3 ⟨rfl, c, a6', rfl, hkc, hcn, hor⟩
      refine rd_wk wk rfl rfl rfl hcn hk ⟨rfl, _, rfl, ?_⟩
      by_cases z : W c k = 0
      · rw [show decide (V.int (W c k) = V.int 0) = true from decide_eq_true (by rw [z])]
        refine iteT ?_
        have hz : ∀ i, k ≤ i → i < n → W i k = 0 := fun i h1 h2 => by
          rcases hor with h | h
          · exact absurd z h
          · exact h i h1 (by omega)
        rw [bi.zero hk hz] at kk
        exact kk _ e2 (Nat.two_pow_pos _)
      rw [decide_eq_false (fun q => z (by injection q))]
      refine iteF ?_
      refine ⟨fun σ' H' => ∃ (s1 : Int) (a7' : Option V) (W1 : Mth.Mat), σ' = [some (.ref p), some (.ref p1), some (.int s1), some (.int b), some (.int (k : Nat)), some (.int (c : Nat)), a6', a7', a8, a9, a10, a11] ∧ Ex H H' ∧ Wk1 H' p1 n W1 ∧ Mth.BI n A0 k W1 s1 b ∧ s1.natAbs = 1 ∧ (∀ i, i < n → ∀ j, j < n → (W1 i j).natAbs < 2 ^ eB k) ∧ W1 k k ≠ 0, ?_, ?_⟩
      · refine ⟨_, rfl, _, rfl, rfl, _, rfl, ?_⟩
        by_cases ck : c = k
        · subst ck
          rw [show (!decide (V.int ((c : Nat) : Int) = V.int ((c : Nat) : Int))) = false by simp]
          exact iteF ⟨s, _, W, rfl, e2, wk, bi, hs1, hW, z⟩
        · rw [show (!decide (V.int ((c : Nat) : Int) = V.int ((k : Nat) : Int))) = true by rw [decide_eq_false (fun q => ck (by injection q with q; omega))]; rfl]
          refine iteT (rd_wkR wk rfl rfl hk fun qk hqk1 hqk2 => ?_)
          refine rd_wkR wk rfl rfl hcn fun qc hqc1 hqc2 => ?_
          refine ⟨_, rfl, _, rfl, p1, rs2, _, k, rfl, rfl, h2, Evl.ixN_nat (by omega), ?_⟩
          have wkA := wk.set h2 hk hqc1 hqc2
          refine ⟨_, rfl, _, rfl, _, rfl, p1, _, _, c, rfl, rfl, upd_same, Evl.ixN_nat (by rw [List.length_set]; omega), ?_⟩
          have wkB := wkA.set upd_same hcn hqk1 (by rw [upd_ne hqk1]; exact hqk2)
          refine ⟨_, rfl, _, _, rfl, rfl, ?_⟩
          refine ⟨-s, _, _, by rw [← Int.zero_sub]; rfl, (e2.mut hp1).mut hp1, wkB, bi.swap (by omega) hcn (fun j _ => ?_) (fun j _ => ?_) (fun i _ h3 h4 j _ => ?_), by omega, fun i hi j hj => ?_, ?_⟩
          · rw [if_neg (fun q => ck q.symm), if_pos rfl]
          · rw [if_pos rfl]
          · rw [if_neg h4, if_neg h3]
          · show ((if i = c then W k else if i = k then W c else W i) j).natAbs < _
            split
            · exact hW k hk j hj
            · split
              · exact hW c hcn j hj
              · exact hW i hi j hj
          · show (if k = c then W k else if k = k then W c else W k) k ≠ 0
            rw [if_neg (fun q => ck q.symm), if_pos rfl]
            exact z
      rintro σ' H4 ⟨s1, a7', W1, rfl, e4, wk4, bi4, hs4, hW4, hp4⟩
      obtain ⟨A4, _, _, hb0, _, _⟩ := bi4.ex
      refine rd_wkR wk4 rfl rfl hk fun qp hqp1 hqp2 => ?_
      obtain ⟨rs4, h4, hl4, hr4⟩ := id wk4
      refine ⟨_, rfl, _, _, rfl, rfl, _, rfl, p1, rs4, rfl, .inl (SqL.of h4), _, _, rfl, ⟨by omega, by omega, by omega, by omega⟩, ?_⟩
      have hk1 : ((k : Int) + 1) = ((k + 1 : Nat) : Int) := rfl
      let F : Mth.Mat := fun i j => (W1 i j * W1 k k - W1 i k * W1 k j).fdiv b
      let cur : Nat → Mth.Mat := fun m i j => if k < i ∧ i < k + 1 + m then F i j else W1 i j
      have e45 : k + 1 ≤ 5 := by omega
      have h1023 := eB_le e45
      have h31 := eB_pos k
      have hnx := eB_next k
      have hb1 : b.natAbs < 2 ^ 9000 := Mth.lt_mono hb (by omega)
      refine for_rg (a := k + 1) hk1 (by show ((rs4.length : Int) - ((k : Int) + 1)).toNat = n - (k + 1); omega) (Pv := fun m σ' H' => ∃ (a6 a9 a10 a11 : Option V), σ' = [some (.ref p), some (.ref p1), some (.int s1), some (.int b), some (.int (k : Nat)), some (.int (c : Nat)), a6, a7', some (.ref qp), a9, a10, a11] ∧ Ex H H' ∧ Wk1 H' p1 n (cur m) ∧ H' qp = some (.lst (iRow n (W1 k))))
        ⟨_, _, _, _, rfl, e4, wk4.congr fun i _ j _ => by show _ = if _ then _ else _; rw [if_neg (by omega)], hqp2⟩ ?_ ?_
      · rintro m σ' H5 hm ⟨a6, a9, a10, a11, rfl, e5, wk5, hqp5⟩
        have hon : k + 1 + m < n := by omega
        refine rd_wkR wk5 rfl rfl hon fun ql hql1 hql2 => ?_
        have hql3 : H5 ql = some (.lst (iRow n (W1 (k + 1 + m)))) := by
          rw [hql2]
          congr 2
          exact iRow_congr fun j _ => by show (if _ then _ else _) = _; rw [if_neg (by omega)]
        refine ⟨by decide, fun pf hpf => ?_⟩
        obtain ⟨rs5, h5, hl5, hr5⟩ := id wk5
        have hpf1 : pf ≠ p1 := fun z => by rw [z, h5] at hpf; cases hpf
        have e6 := Evl.Ex.new (o := .lst []) hpf
        refine ⟨_, rfl, p1, rs5, rfl, .inl (SqL.of (e6 _ _ h5)), _, rfl, by omega, by omega, ?_⟩
        refine for_rg (a := 0) rfl (by omega : (rs5.length : Int).toNat = n) (Pv := fun t σ' H' => ∃ (a11 : Option V), σ' = [some (.ref p), some (.ref p1), some (.int s1), some (.int b), some (.int (k : Nat)), some (.int (c : Nat)), some (.int ((k + 1 + m : Nat) : Int)), a7', some (.ref qp), some (.ref ql), some (.ref pf), a11] ∧ Ex H5 H' ∧ H' pf = some (.lst (iRow t (F (k + 1 + m)))))
          ⟨_, rfl, e6, upd_same⟩ ?_ ?_
        · rintro t σ' H6 ht ⟨a11', rfl, e7, h7⟩
          rw [Nat.zero_add]
          have hl6 := e7 _ _ hql3
          have hp6 := e7 _ _ hqp5
          have b1 : (W1 (k + 1 + m) t * W1 k k).natAbs < 2 ^ (eB k + eB k) := Mth.mul_lt (hW4 _ hon _ ht) (hW4 _ hk _ hk)
          have b2 : (W1 (k + 1 + m) k * W1 k t).natAbs < 2 ^ (eB k + eB k) := Mth.mul_lt (hW4 _ hon _ hk) (hW4 _ hk _ ht)
          refine ⟨_, rfl, lst_ty h7, rd_irow hl6 rfl rfl ht (rd_irow hp6 rfl rfl hk ⟨_, _, rfl, rfl, wmul (hW4 _ hon _ ht) (hW4 _ hk _ hk) (by omega) (by omega) (by rw [big_eq]; omega), rd_irow hl6 rfl rfl hk (rd_irow hp6 rfl rfl ht ⟨_, _, rfl, rfl, wmul (hW4 _ hon _ hk) (hW4 _ hk _ ht) (by omega) (by omega) (by rw [big_eq]; omega), _, _, rfl, rfl, _, rfl, _, _, rfl, rfl, cdivz hb0 hb1, ?_⟩)⟩)⟩
          refine ⟨pf, _, _, rfl, rfl, h7, lt_sz (by rw [iRow_len]; omega), _, rfl, e7.mut hpf, ?_⟩
          rw [upd_same, iRow_succ]
        · rintro σ' H6 ⟨a11', rfl, e7, h7⟩
          have h5' := e7 _ _ h5
          refine ⟨_, rfl, _, rfl, _, rfl, p1, rs5, _, k + 1 + m, rfl, rfl, h5', Evl.ixN_nat (by omega), ?_⟩
          have wk6 := (wk5.ex e7).set h5' hon hpf1 h7
          refine ⟨_, _, _, _, rfl, (e5.trans e7).mut hp1, wk6.congr fun i hi j hj => ?_, by rw [upd_ne hqp1]; exact e7 _ _ hqp5⟩
          show (if i = k + 1 + m then F (k + 1 + m) else cur m i) j = if k < i ∧ i < k + 1 + (m + 1) then F i j else W1 i j
          by_cases e : i = k + 1 + m
          · rw [if_pos e, if_pos (by omega), e]
          · rw [if_neg e]
            show (if k < i ∧ i < k + 1 + m then F i j else W1 i j) = _
            by_cases e2 : k < i ∧ i < k + 1 + m
            · rw [if_pos e2, if_pos (by omega)]
            · rw [if_neg e2, if_neg (by omega)]
      · rintro σ' H5 ⟨a6, a9, a10, a11, rfl, e5, wk5, hqp5⟩
        have hF : ∀ i, i < n → ∀ j, j < n → (F i j).natAbs < 2 ^ eB (k + 1) := fun i hi j hj => by
          refine Nat.lt_of_le_of_lt (fdiv_le hb0) ?_
          rw [← hnx]
          exact Mth.sub_lt (Mth.mul_lt (hW4 i hi j hj) (hW4 k hk k hk)) (Mth.mul_lt (hW4 i hi k hk) (hW4 k hk j hj))
        have hle : eB k ≤ eB (k + 1) := by omega
        refine rd_irow hqp5 rfl rfl hk ?_
        refine ⟨s1, W1 k k, _, _, _, _, _, _, _, _, cur (n - (k + 1)), rfl, e5, wk5, bi4.turn hk hp4 fun i hi hin j hj => ?_, hs4, fun i hi j hj => ?_, Mth.lt_mono (hW4 k hk k hk) hle⟩
        · show (if _ then _ else _) = _
          rw [if_pos (by omega)]
        · show (if _ then _ else _ : Int).natAbs < _
          split
          · exact hF i hi j hj
          · exact Mth.lt_mono (hW4 i hi j hj) hle
    · rintro σ' H2 ⟨s, b, a4, a5, a6, a7, a8, a9, a10, a11, W, rfl, e2, wk, bi, hs1, hW, hb⟩
      have hb5 := eB_le hn
      refine ⟨_, rfl, _, rfl, _, _, rfl, rfl, wmul (a := 1) (by omega) hb (by decide) (by have := eB_pos n; omega) (by rw [big_eq]; omega), ?_⟩
      have e := bi.done
      show Q (V.int (s * b)) H2
      have hd : (Mth.det n A0).natAbs < 2 ^ 1024 := by
        rw [← e, Int.natAbs_mul, hs1, Nat.one_mul]
        exact Mth.lt_mono hb (by omega)
      rw [e]
      exact kk _ e2 hd
end
end K18
end
section
set_option Elab.async false
set_option linter.all false
set_option maxRecDepth 100000
set_option maxHeartbeats 4000000
namespace K18
open PySem PySem.Spec PyProof.Rows L2
/-! ### the law's tables: [below, rows] -/
def LT (H : Hp) (v : V) (D : Int) (n : Nat) (A : Mth.Mat) : Prop := ∃ t rr, v = .ref t ∧ H t = some (.lst [.int D, rr]) ∧ IMat H rr n A
theorem LT.ex {H H' : Hp} {v : V} {D : Int} {n : Nat} {A : Mth.Mat} (h : LT H v D n A) (e : Ex H H') : LT H' v D n A := by
  obtain ⟨t, rr, rfl, ht, hm⟩ := h
  exact ⟨t, rr, rfl, e _ _ ht, hm.ex e⟩
theorem LT.congr {H : Hp} {v : V} {D : Int} {n : Nat} {A B : Mth.Mat} (h : LT H v D n A) (e : ∀ i, i < n → ∀ j, j < n → A i j = B i j) : LT H v D n B := by
  obtain ⟨t, rr, rfl, ht, hm⟩ := h
  exact ⟨t, rr, rfl, ht, hm.congr e⟩
/-- .. that is new since H0 -/
def LTN (H0 H : Hp) (v : V) (D : Int) (n : Nat) (A : Mth.Mat) : Prop := ∃ t p rs, v = .ref t ∧ H0 t = none ∧ H0 p = none ∧ H t = some (.lst [.int D, .ref p]) ∧ H p = some (.lst rs) ∧ rs.length = n ∧ ∀ i, i < n → ∃ q, rs[i]? = some (.ref q) ∧ H0 q = none ∧ H q = some (.lst (iRow n (A i)))
theorem LTN.lt {H0 H : Hp} {v : V} {D : Int} {n : Nat} {A : Mth.Mat} (h : LTN H0 H v D n A) : LT H v D n A := by
  obtain ⟨t, p, rs, rfl, _, _, ht, hp, hl, hr⟩ := h
  exact ⟨t, _, rfl, ht, p, rs, rfl, hp, hl, fun i hi => (hr i hi).imp fun q h => ⟨h.1, h.2.2⟩⟩
theorem LTN.wo {H0 H : Hp} {v : V} {D : Int} {n : Nat} {A : Mth.Mat} {d : Addr} (h : LTN H0 H v D n A) (hd : Dig d H0) : LT (wo d H) v D n A := by
  obtain ⟨t, p, rs, rfl, h1, h2, ht, hp, hl, hr⟩ := h
  refine ⟨t, _, rfl, by rw [wo_at (hd.ne h1)]; exact ht, p, rs, rfl, by rw [wo_at (hd.ne h2)]; exact hp, hl, fun i hi => (hr i hi).imp fun q h => ⟨h.1, by rw [wo_at (hd.ne h.2.1)]; exact h.2.2⟩⟩
section
variable {K : PySem.W.Frag} {H : Hp} {n i j a b c : Nat} {v : V} {D : Int} {A : Mth.Mat} {σ : L2.St} {Q : VK}
theorem rd_lt (h : LT H v D n A) (h0 : σ[a]? = some (some v)) (h1 : σ[b]? = some (some (.int (i : Nat)))) (h2 : σ[c]? = some (some (.int (j : Nat)))) (hi : i < n) (hj : j < n) (q : Q (.int (A i j)) H) :
    tOp (rIxL K) (tOp (rIxL K) (tOp (rIxL K) (tVar a) (tC (.int 1))) (tVar b)) (tVar c) σ H Q := by
  obtain ⟨t, _, rfl, ht, p, rs, rfl, hp, hl, hr⟩ := h
  obtain ⟨q', e1, hq⟩ := hr i hi
  exact ⟨_, h0, t, _, 1, _, rfl, rfl, SqL.of ht, rfl, _, h1, p, rs, _, _, rfl, rfl, SqL.of hp, at_some e1, _, h2, q', _, _, _, rfl, rfl, SqL.of hq, at_some (iRow_at hj), q⟩
theorem rd_ltR (h : LT H v D n A) (h0 : σ[a]? = some (some v)) (h1 : σ[b]? = some (some (.int (i : Nat)))) (hi : i < n) (q : ∀ q', H q' = some (.lst (iRow n (A i))) → Q (.ref q') H) :
    tOp (rIxL K) (tOp (rIxL K) (tVar a) (tC (.int 1))) (tVar b) σ H Q := by
  obtain ⟨t, _, rfl, ht, p, rs, rfl, hp, hl, hr⟩ := h
  obtain ⟨q', e1, hq⟩ := hr i hi
  exact ⟨_, h0, t, _, 1, _, rfl, rfl, SqL.of ht, rfl, _, h1, p, rs, _, _, rfl, rfl, SqL.of hp, at_some e1, q q' hq⟩
theorem rd_ltD (h : LT H v D n A) (h0 : σ[a]? = some (some v)) (q : Q (.int D) H) : tOp (rIxL K) (tVar a) (tC (.int 0)) σ H Q := by
  obtain ⟨t, _, rfl, ht, p, rs, rfl, hp, hl, hr⟩ := h
  exact ⟨_, h0, t, _, 0, _, rfl, rfl, SqL.of ht, rfl, q⟩
theorem rd_lt1 (h : LT H v D n A) (h0 : σ[a]? = some (some v)) (q : ∀ p rs, H p = some (.lst rs) → rs.length = n → (∀ i, i < n → ∃ q, rs[i]? = some (.ref q) ∧ H q = some (.lst (iRow n (A i)))) → Q (.ref p) H) : tOp (rIxL K) (tVar a) (tC (.int 1)) σ H Q := by
  obtain ⟨t, _, rfl, ht, p, rs, rfl, hp, hl, hr⟩ := h
  exact ⟨_, h0, t, _, 1, _, rfl, rfl, SqL.of ht, rfl, q p rs hp hl hr⟩
theorem rd_ltN (h : LT H v D n A) (h0 : σ[a]? = some (some v)) (q : Q (.int (n : Nat)) H) : tCB (rLenK K) (tCons (tOp (rIxL K) (tVar a) (tC (.int 1))) tNil) σ H Q :=
  rd_lt1 h h0 fun p rs hp hl _ => ⟨p, rs, rfl, .inl (SqL.of hp), by rw [hl]; exact q⟩
theorem rd_catA {xs ys : List V} {p q : Addr} (hx : SqT K H p xs) (hy : SqT K H q ys) (hz : xs.length + ys.length ≤ 100000) (k : ∀ r H', Ex H H' → SqT K H' r (xs ++ ys) → Q (.ref r) H') : rCatA K (.ref p) (.ref q) H Q := by
  refine ⟨p, q, xs, ys, rfl, rfl, hx, hy, le_sz hz, fun e => ?_, fun _ e => ?_, fun _ _ r hr => k r _ (Evl.Ex.new hr) (SqT.of upd_same)⟩
  · subst e
    exact k q H (Evl.Ex.refl _) hy
  · subst e
    exact k p H (Evl.Ex.refl _) (by rw [List.append_nil]; exact hx)
end
def outsL (n m : Nat) : List Nat := (List.range n).filter fun i => !decide (i ∈ lp n m)
theorem mem_lp {n m i : Nat} : i ∈ lp n m ↔ i < n ∧ m.testBit i = true := by unfold lp; rw [List.mem_filter, List.mem_range]
theorem mem_outs {n m i : Nat} : i ∈ outsL n m ↔ i < n ∧ m.testBit i = false := by
  unfold outsL
  rw [List.mem_filter, List.mem_range, Bool.not_eq_true', decide_eq_false_iff_not, mem_lp]
  constructor
  · rintro ⟨h1, h2⟩
    refine ⟨h1, ?_⟩
    cases h : m.testBit i with
    | false => rfl
    | true => exact absurd ⟨h1, h⟩ h2
  · rintro ⟨h1, h2⟩
    exact ⟨h1, fun h => by rw [h2] at h; exact Bool.false_ne_true h.2⟩
theorem filter_split {α : Type} (p : α → Bool) : ∀ l : List α, (l.filter p ++ l.filter fun x => !p x).Perm l
  | [] => .nil
  | x :: xs => by
    have ih := filter_split p xs
    by_cases h : p x = true
    · rw [List.filter_cons_of_pos h, List.filter_cons_of_neg (by rw [h]; decide)]
      exact ih.cons x
    · rw [List.filter_cons_of_neg h, List.filter_cons_of_pos (by simpa using h)]
      exact List.perm_middle.trans (ih.cons x)
theorem outs_eq {n m : Nat} : outsL n m = (List.range n).filter fun i => !m.testBit i := by
  unfold outsL
  refine List.filter_congr fun i hi => ?_
  have hi' := List.mem_range.mp hi
  cases h : m.testBit i with
  | true => rw [decide_eq_true (mem_lp.mpr ⟨hi', h⟩)]
  | false => rw [decide_eq_false (fun q => by have := (mem_lp.mp q).2; rw [h] at this; exact Bool.false_ne_true this)]
theorem range_sorted (n : Nat) : (List.range n).Pairwise (· ≤ ·) := List.pairwise_le_range
/-- the rows of a showing -/
def shM (D : Int) (A : Mth.Mat) (m : Nat) : Mth.Mat := fun i => if m.testBit i then A i else Mth.off D A i
theorem iRow_set {n i : Nat} {f g : Nat → Int} {x : Int} (hi : i < n) (hg : g i = x) (ho : ∀ j, j < n → j ≠ i → g j = f j) : (iRow n f).set i (.int x) = iRow n g := by
  refine List.ext_getElem? fun j => ?_
  by_cases hj : j < n
  · rw [iRow_at hj]
    by_cases e : j = i
    · subst e
      rw [List.getElem?_set_self (by rw [iRow_len]; exact hj), hg]
    · rw [List.getElem?_set_ne (fun z => e z.symm), iRow_at hj, ho j hj e]
  · rw [List.getElem?_eq_none (by rw [List.length_set, iRow_len]; omega), List.getElem?_eq_none (by rw [iRow_len]; omega)]
section
variable {P : Program} {w : World} {K : PySem.W.Frag} {mg : Str → Option Value} {base : Heap} {C : Addr}
def Bnd (b n : Nat) (A : Mth.Mat) : Prop := ∀ i, i < n → ∀ j, j < n → (A i j).natAbs < 2 ^ b
def spShow (K : PySem.W.Frag) : Sp := fun vs H Q _ => ∃ (t x y : V) (D : Int) (n m : Nat) (A : Mth.Mat), vs = [t, x, y] ∧ LT H t D n A ∧ TupV K H x (nV (lp n m)) ∧ TupV K H y (nV (outsL n m)) ∧ n ≤ 5 ∧ 0 < D ∧ D.natAbs < 2 ^ 24 ∧ Bnd 24 n A ∧
  ∀ v H', Ex H H' → (Mth.cN n D A m).natAbs < 2 ^ 1024 → Frac K H' v (Mth.fr (Mth.cN n D A m) (D ^ n)) → Q v H'
theorem sc_show : FnScope ["_law_table", "_law_ins", "_law_outs", "_law_below", "_law_among", "_law_lines", "_law_at", "_law_line", "_law_to", "_law_number"] ["_law_table", "_law_ins", "_law_outs"] (C8.fnScope (top 67)) := C8.fnScope_by (by decide +kernel)
theorem cal_show (B : Bt mg) (D : DD K mg "_law_show" 67) (c_l_low : C8.Cal P w K mg base 2 "_law_low" (spLow K) []) (c_l_det : C8.Cal P w K mg base 1 "_law_det" (spDet) []) (c_l_power : C8.Cal P w K mg base 1 "_law_power" (spPow) []) : C8.Cal P w K mg base 3 "_law_show" (spShow K) [] := by
  refine cal_mk D sc_show (fun _ _ _ _ _ _ us hl => match us, hl with | [_, _, _], _ => rfl) (fun vs H Q E h => ?_) (fun f cdv A outer s H vs Q E hr h => ?_)
  · obtain ⟨t, x, y, D, n, m, A, rfl, _⟩ := h; rfl
  · obtain ⟨t, x, y, Db, n, m, A, rfl, ht, ⟨px, rfl, hx⟩, ⟨py, rfl, hy⟩, hn, hD0, hDb, hA, kk⟩ := h
    have nd := sc_show.nd
    refine ⟨_, (pss_cons (pset 3 nd (pe_ix (ix_listK K) (pv 0) pe_int (fun _ _ => rfl)))
    (pss_cons (pset 4 nd (pe_callB (cr_sortK K) (by rfl) B.sorted PyProof.Rows.boot_sorted (pa_cons (pe_op (op_catAK K) (pv 1) (pv 2)) pa_nil)))
    (pss_cons (pset 5 nd (pe_lst pa_nil))
    (pss_cons (ps_for PassesOwn.never rfl (pi_listK K (pv 4)) (pgn 6 nd)
      (pss_cons (ps_setLc (i := 7) (own := [("_law_to", 8)]) rfl nd rfl rfl (sw_true rfl rfl rfl (by decide +kernel)) (pi_listK K (pv 4)) (blkOk_by (own := [("_law_to", 8)]) (N := ["_law_table", "_law_ins", "_law_outs", "_law_below", "_law_among", "_law_lines", "_law_at", "_law_line", "_law_to", "_law_number"]) (by kernel_rfl)) (fun _ _ _ _ _ => (pgn 8 nd)) (fun _ _ _ _ _ => pts_nil) (fun _ _ _ _ _ => (pe_ix (ix_listK K) (pe_ix (ix_listK K) (pe_ix (ix_listK K) (pv 0) pe_int (fun _ _ => rfl)) (pv 6) (fun _ _ => rfl)) (pv 8) (fun _ _ => rfl))))
      (C8.pss_cut (ps_if (pt_cmpR (op_inK K) (pv 6) (pv 2) rfl) (pss_cons (ps_setLc (i := 7) (own := [("_law_number", 9)]) rfl nd rfl rfl (sw_true rfl rfl rfl (by decide +kernel)) (pi_listK K (pv 7)) (blkOk_by (own := [("_law_number", 9)]) (N := ["_law_table", "_law_ins", "_law_outs", "_law_below", "_law_among", "_law_lines", "_law_at", "_law_line", "_law_to", "_law_number"]) (by kernel_rfl)) (fun _ _ _ _ _ => (pgn 9 nd)) (fun _ _ _ _ _ => pts_nil) (fun _ _ _ _ _ => (pe_op op_sub pe_int (pv 9))))
        (pss_one (ps_asg (pe_op op_add (pv 3) (pe_ix (ix_listK K) (pv 7) (pe_bm PySem.F.plainAttrs_list PySem.F.slot_list_index PySem.F.type_list_index (mt_indexK K) (pv 4) (pa_cons (pv 6) pa_nil)) (fun _ _ => rfl))) (pg_sub (pv 7) (pe_bm PySem.F.plainAttrs_list PySem.F.slot_list_index PySem.F.type_list_index (mt_indexK K) (pv 4) (pa_cons (pv 6) pa_nil)) set_list)))) pss_nil)
      (pss_one (ps_expr (pe_bm PySem.F.plainAttrs_list PySem.F.slot_list_append PySem.F.type_list_append mt_append (pv 5) (pa_cons (pv 7) pa_nil)))))))
    (pss_one (ps_ret (C8.pe_c c_l_low hr (by decide) (by rfl) (pa_cons (C8.pe_c c_l_det hr (by decide) (by rfl) (pa_cons (pv 5) pa_nil)) (pa_cons (C8.pe_c c_l_power hr (by decide) (by rfl) (pa_cons (pv 3) (pa_cons (pe_callB (call_lenK K) (by rfl) B.len PySem.boot_len (pa_cons (pv 4) pa_nil)) pa_nil))) pa_nil))))))))), ?_⟩
    have hlx : (lp n m).length ≤ n := by have := List.length_filter_le (fun i => m.testBit i) (List.range n); rw [List.length_range] at this; exact this
    have hly : (outsL n m).length ≤ n := by have := List.length_filter_le (fun i => !decide (i ∈ lp n m)) (List.range n); rw [List.length_range] at this; exact this
    refine rd_ltD ht rfl ⟨_, rfl, _, rfl, rd_catA hx hy (by rw [nV_len, nV_len]; omega) fun r H1 e1 hr1 => ?_⟩
    refine ⟨r, (lp n m ++ outsL n m).map fun i : Nat => (i : Int), rfl, .inr (by rw [← nV_ints]; simpa [nV] using hr1), fun ns p4 hpm hso hp4 => ?_⟩
    obtain ⟨l', pl, el, sl⟩ := perm_nat hpm
    have hl' : l' = List.range n := List.Perm.eq_of_pairwise (fun a b _ _ h1 h2 => Nat.le_antisymm h1 h2) (sl hso) (range_sorted n) (pl.trans (by rw [outs_eq]; exact filter_split _ _))
    rw [el, hl']
    have e2 := Evl.Ex.new (o := .lst (nV (List.range n))) hp4
    refine ⟨by decide, fun p5 hp5 => ?_⟩
    have e3 := Evl.Ex.new (o := .lst []) hp5
    have e12 := e1.trans e2
    have hfive : p4 ≠ p5 := fun z => by rw [← z, upd_same] at hp5; cases hp5
    refine ⟨_, rfl, p4, rfl, ⟨_, SqL.of (e3 _ _ upd_same)⟩, ?_⟩
    refine for_it (walk_list (xs := nV (List.range n))) (Pv := fun i σ' H' => ∃ (a6 a7 : Option V) (ls : List V), σ' = [some t, some (.ref px), some (.ref py), some (.int Db), some (.ref p4), some (.ref p5), a6, a7, none, none] ∧ Ex (upd H1 p4 (.lst (nV (List.range n)))) H' ∧ H' p5 = some (.lst ls) ∧ ls.length = i ∧ At (fun r v H => ∃ q, v = .ref q ∧ q ≠ p5 ∧ H q = some (.lst (iRow n (shM Db A m r)))) ls H')
      ⟨_, _, [], rfl, e3, upd_same, rfl, At.nil⟩ (fun i σ' H' _ h => by obtain ⟨_, _, _, _, e, _⟩ := h; exact SqL.of (e _ _ upd_same)) ?_ ?_
    · rintro i v σ' H2 H2' hi ⟨a6, a7, ls, rfl, e4, h4, hl4, ha4⟩ ⟨rfl, ex⟩
      obtain ⟨hil, rfl⟩ := nV_at ex
      have hin : i < n := by simpa using hil
      have ei : (List.range n)[i] = i := List.getElem_range ..
      rw [ei]
      have ht4 := ht.ex (e12.trans e4)
      have hp4' : H2' p4 = some (.lst (nV (List.range n))) := e4 _ _ upd_same
      refine ⟨_, rfl, p4, rfl, ⟨_, SqL.of hp4'⟩, fun D1 hD1 => ?_⟩
      refine lcA (walk_list (xs := nV (List.range n))) (fun _ _ g e => Evl.ex_l e g) (by rw [nV_len]; exact lt_sz (by simp; omega)) (P := fun j v _ => v = .int (A i j)) mono_eq monoD_eq hD1 (SqL.of hp4') ?_ ?_
      · rintro j z H3 H3' Kt hj e5 _ ⟨rfl, ez⟩ _ kt
        obtain ⟨hjl, rfl⟩ := nV_at ez
        have hjn : j < n := by simpa using hjl
        rw [show (List.range n)[j] = j from List.getElem_range ..]
        exact ⟨rfl, rd_lt (ht4.ex e5) rfl rfl rfl hin hjn (kt _ _ (Evl.Ex.refl _) rfl)⟩
      intro H3 ys e5 h3 hl3 ha3
      have hys : ys = iRow n (A i) := at_eq ha3 (by rw [hl3, nV_len]; simp)
      rw [hys] at h3
      have hD15 : D1 ≠ p5 := fun z => by rw [z, h4] at hD1; cases hD1
      refine ⟨fun σ' H' => ∃ q, σ' = [some t, some (.ref px), some (.ref py), some (.int Db), some (.ref p4), some (.ref p5), some (.int (i : Nat)), some (.ref q), none, none] ∧ Ex H2' H' ∧ H2' q = none ∧ H' q = some (.lst (iRow n (shM Db A m i))), ?_, ?_⟩
      · refine ⟨_, rfl, _, rfl, py, _, rfl, .inr (Evl.ex_t (e12.trans (e4.trans e5)) hy), rfl, flat_nV, _, rfl, ?_⟩
        rw [if_neg Bool.false_ne_true, inV_nV]
        cases hb : m.testBit i with
        | true =>
          rw [decide_eq_false (fun q => by have := (mem_outs.mp q).2; rw [hb] at this; cases this)]
          refine iteF ⟨D1, rfl, e5, hD1, ?_⟩
          rw [h3]
          unfold shM
          rw [hb, if_pos rfl]
        | false =>
          rw [decide_eq_true (mem_outs.mpr ⟨hin, hb⟩)]
          refine iteT ⟨_, rfl, D1, rfl, ⟨_, SqL.of h3⟩, fun D2 hD2 => ?_⟩
          refine lcA (walk_list (xs := iRow n (A i))) (fun _ _ g e => Evl.ex_l e g) (by rw [iRow_len]; exact lt_sz (by omega)) (P := fun j v _ => v = .int (0 - A i j)) mono_eq monoD_eq hD2 (SqL.of h3) ?_ ?_
          · rintro j z H4 H4' Kt hj e6 _ ⟨rfl, ez⟩ _ kt
            rw [iRow_len] at hj
            rw [iRow_at hj] at ez
            cases ez
            exact ⟨rfl, _, rfl, _, _, rfl, rfl, kt _ _ (Evl.Ex.refl _) rfl⟩
          intro H4 ys2 e6 h4' hl4' ha4'
          have hys2 : ys2 = iRow n (fun j => 0 - A i j) := at_eq ha4' (by rw [hl4', iRow_len])
          rw [hys2] at h4'
          have e26 := e5.trans e6
          have hp46 : H4 p4 = some (.lst (nV (List.range n))) := e26 _ _ hp4'
          have hidx : (nV (List.range n))[i]? = some (.int (i : Nat)) := by
            unfold nV
            rw [List.getElem?_map, List.getElem?_range hin]; rfl
          have huniq : ∀ (m' : Nat) (z' : V), m' < i → (nV (List.range n))[m']? = some z' → eqV z' (.int (i : Nat)) = false := fun m' z' hm hz => by
            obtain ⟨hml, rfl⟩ := nV_at hz
            rw [show (List.range n)[m'] = m' from List.getElem_range ..]
            show ((m' : Int) == (i : Int)) = false
            simp
            omega
          have heq : eqV (V.int (i : Nat)) (.int (i : Nat)) = true := by show ((i : Int) == (i : Int)) = true; simp
          refine ⟨_, rfl, _, rfl, _, rfl, lst_ty hp46, _, rfl, p4, _, _, i, _, rfl, rfl, SqL.of hp46, rfl, flat_nV, hidx, heq, huniq, D2, _, _, _, rfl, rfl, SqL.of h4', at_some (iRow_at hin), _, _, rfl, rfl, ?_⟩
          refine ⟨_, rfl, _, rfl, lst_ty hp46, _, rfl, p4, _, _, i, _, rfl, rfl, SqL.of hp46, rfl, flat_nV, hidx, heq, huniq, D2, _, _, i, rfl, rfl, h4', Evl.ixN_nat (by rw [iRow_len]; exact hin), ?_⟩
          refine ⟨D2, rfl, e26.mut (Evl.fresh_back e5 hD2), Evl.fresh_back e5 hD2, ?_⟩
          rw [upd_same]
          congr 2
          refine iRow_set hin ?_ fun j hj hji => ?_
          · unfold shM
            rw [hb, if_neg Bool.false_ne_true]
            show (if i = i then Db else 0) - A i i = Db + (0 - A i i)
            rw [if_pos rfl]; omega
          · unfold shM
            rw [hb, if_neg Bool.false_ne_true]
            show (if i = j then Db else 0) - A i j = 0 - A i j
            rw [if_neg (fun z => hji z.symm)]
      · rintro σ' H4 ⟨q, rfl, e6, hq2, hq4⟩
        have h5' := e6 _ _ h4
        have hq5 : q ≠ p5 := fun z => by rw [z, h4] at hq2; cases hq2
        refine ⟨_, rfl, lst_ty h5', _, rfl, p5, ls, _, rfl, rfl, h5', lt_sz (by omega), _, _, ls ++ [.ref q], rfl, (e4.trans e6).mut hp5, upd_same, by rw [List.length_append, hl4]; rfl, ?_⟩
        refine At.snoc (fun r w hw => ?_) ⟨q, rfl, hq5, by rw [upd_ne hq5, hl4]; exact hq4⟩
        obtain ⟨q', rfl, h1, h2⟩ := ha4 r w hw
        exact ⟨q', rfl, h1, by rw [upd_ne h1]; exact e6 _ _ h2⟩
    · rintro σ' H2 ⟨a6, a7, ls, rfl, e4, h4, hl4, ha4⟩
      have hln : (nV (List.range n)).length = n := by rw [nV_len]; simp
      rw [hln] at hl4
      have im : IMat H2 (.ref p5) n (shM Db A m) := ⟨p5, ls, rfl, h4, hl4, fun i hi => by
        obtain ⟨v, e, q, rfl, _, hq⟩ := ha4.get (i := i) (by omega)
        exact ⟨q, e, hq⟩⟩
      have hbd : ∀ i, i < n → ∀ j, j < n → (shM Db A m i j).natAbs < 2 ^ 31 := fun i hi j hj => by
        have h1 := hA i hi j hj
        unfold shM
        split
        · exact Mth.lt_mono h1 (by decide)
        · show ((if i = j then Db else 0) - A i j).natAbs < _
          split
          · exact Mth.lt_mono (Mth.sub_lt hDb h1) (by decide)
          · exact Mth.lt_mono (Mth.sub_lt (i := 0) (a := 24) (by decide) h1) (by decide)
      refine ⟨_, rfl, _, n, _, rfl, im, hn, hbd, fun H5 e5 hdet => ?_⟩
      have hp45 : H5 p4 = some (.lst (nV (List.range n))) := e5 _ _ (e4 _ _ upd_same)
      have hpos : 0 < Db ^ n := Int.pow_pos hD0
      have hpb : (Db ^ n).natAbs < 2 ^ (n * 24 + 1) := pow_lt hDb n
      refine ⟨_, rfl, _, rfl, p4, _, rfl, .inl (SqL.of hp45), Db, n, 24, by rw [hln]; rfl, hDb, by decide, by rw [big_eq]; omega, ?_⟩
      exact ⟨_, _, rfl, by omega, Mth.lt_mono hdet (by decide), Mth.lt_mono hpb (by rw [big_eq]; omega), fun v H' e hv => kk v H' (e12.trans (e4.trans (e5.trans e))) hdet hv⟩
end
end K18
end
section
set_option Elab.async false
set_option linter.all false
set_option maxRecDepth 100000
set_option maxHeartbeats 4000000
namespace K18
open PySem PySem.Spec PyProof.Rows L2
section
variable {P : Program} {w : World} {K : PySem.W.Frag} {mg : Str → Option Value} {base : Heap} {C : Addr}
def spChances (K : PySem.W.Frag) : Sp := fun vs H Q _ => ∃ (t : V) (D : Int) (n : Nat) (A : Mth.Mat), vs = [t] ∧ LT H t D n A ∧ n ≤ 5 ∧ 0 < D ∧ D.natAbs < 2 ^ 24 ∧ Bnd 24 n A ∧
  ∀ p xs H', Ex H H' → H p = none → H' p = some (.lst xs) → xs.length = 2 ^ n → At (FracR K fun m => Mth.fr (Mth.cN n D A m) (D ^ n)) xs H' → (∀ m, m < 2 ^ n → (Mth.cN n D A m).natAbs < 2 ^ 1024) → Q (.ref p) H'
theorem sc_chances : FnScope ["_law_table", "_law_size_here", "_law_found", "_law_number", "_law_ins"] ["_law_table"] (C8.fnScope (top 68)) := C8.fnScope_by (by decide +kernel)
theorem cal_chances (B : Bt mg) (D : DD K mg "_law_chances" 68) (c_l_power : C8.Cal P w K mg base 1 "_law_power" (spPow) []) (c_l_places : C8.Cal P w K mg base 2 "_law_places" (spPlaces K) []) (c_l_show : C8.Cal P w K mg base 3 "_law_show" (spShow K) []) (c_l_rest : C8.Cal P w K mg base 1 "_law_rest" (spLRest K) []) : C8.Cal P w K mg base 4 "_law_chances" (spChances K) [] := by
  refine cal_mk D sc_chances (fun _ _ _ _ _ _ us hl => match us, hl with | [_], _ => rfl) (fun vs H Q E h => ?_) (fun f cdv A outer s H vs Q E hr h => ?_)
  · obtain ⟨t, D, n, A, rfl, _⟩ := h; rfl
  · obtain ⟨t, Db, n, A, rfl, ht, hn, hD0, hDb, hA, kk⟩ := h
    have nd := sc_chances.nd
    refine ⟨_, (pss_cons (pset 1 nd (pe_callB (call_lenK K) (by rfl) B.len PySem.boot_len (pa_cons (pe_ix (ix_listK K) (pv 0) pe_int (fun _ _ => rfl)) pa_nil)))
    (pss_cons (pset 2 nd (pe_lst pa_nil))
    (pss_cons (ps_for PassesOwn.never rfl (pi_range1 (by rfl) B.range (pa_cons (C8.pe_c c_l_power hr (by decide) (by rfl) (pa_cons pe_int (pa_cons (pv 1) pa_nil))) pa_nil)) (pgn 3 nd)
      (pss_cons (pset 4 nd (C8.pe_c c_l_places hr (by decide) (by rfl) (pa_cons (pv 3) (pa_cons (pv 1) pa_nil))))
      (pss_one (ps_expr (pe_bm PySem.F.plainAttrs_list PySem.F.slot_list_append PySem.F.type_list_append mt_append (pv 2) (pa_cons (C8.pe_c c_l_show hr (by decide) (by rfl) (pa_cons (pv 0) (pa_cons (pv 4) (pa_cons (C8.pe_c c_l_rest hr (by decide) (by rfl) (pa_cons (pv 4) (pa_cons (pv 1) pa_nil))) pa_nil)))) pa_nil))))))
    (pss_one (ps_ret (pv 2)))))), ?_⟩
    refine rd_ltN ht rfl ⟨by decide, fun p hp => ?_⟩
    have e0 := Evl.Ex.new (o := .lst []) hp
    refine ⟨_, rfl, 2, n, 2, rfl, by decide, by decide, by rw [big_eq]; omega, _, rfl, ?_, ?_, ?_⟩
    · have : (0 : Int) < 2 ^ n := Int.pow_pos (by decide)
      omega
    · have : (2 : Int) ^ n = ((2 ^ n : Nat) : Int) := by simp
      have : 2 ^ n ≤ 2 ^ 5 := Nat.pow_le_pow_right (by decide) hn
      omega
    have h25 : 2 ^ n ≤ 2 ^ 5 := Nat.pow_le_pow_right (by decide) hn
    refine for_rg (a := 0) rfl (by have : (2 : Int) ^ n = ((2 ^ n : Nat) : Int) := by simp
                                   rw [this]; exact Int.toNat_natCast _ : ((2 : Int) ^ n).toNat = 2 ^ n) (Pv := fun i σ' H' => ∃ a3 a4 xs, σ' = [some t, some (.int (n : Nat)), some (.ref p), a3, a4] ∧ Ex H H' ∧ H' p = some (.lst xs) ∧ xs.length = i ∧ At (FracR K fun m => Mth.fr (Mth.cN n Db A m) (Db ^ n)) xs H' ∧ ∀ m, m < i → (Mth.cN n Db A m).natAbs < 2 ^ 1024)
      ⟨_, _, [], rfl, e0, upd_same, rfl, At.nil, fun m h => by omega⟩ ?_ ?_
    · rintro i σ' H2 hi ⟨a3, a4, xs, rfl, e2, h2, hl2, ha2, hb2⟩
      rw [Nat.zero_add]
      refine ⟨_, rfl, _, rfl, i, n, rfl, by omega, fun v H3 e3 hv => ?_⟩
      have h3 := e3 _ _ h2
      refine ⟨_, rfl, lst_ty h3, ?_⟩
      refine ⟨_, rfl, _, rfl, _, rfl, _, rfl, v, lp n i, n, rfl, hv, by omega, fun w H4 e4 hw => ?_⟩
      have e24 := e2.trans (e3.trans e4)
      refine ⟨t, v, w, Db, n, i, A, rfl, ht.ex e24, hv.ex e4, hw, hn, hD0, hDb, hA, fun z H5 e5 hc hz => ?_⟩
      have e25 := e24.trans e5
      have e35 := e3.trans (e4.trans e5)
      have h5 := e35 _ _ h2
      refine ⟨p, xs, _, rfl, rfl, h5, lt_sz (by omega), _, _, xs ++ [z], rfl, e25.mut hp, upd_same, by rw [List.length_append, hl2]; rfl, ?_, fun m hm => ?_⟩
      · have up : ∀ b o, b ≠ p → H5 b = some o → (upd H5 p (.lst (xs ++ [z]))) b = some o := fun b o hb q => by rw [upd_ne hb]; exact q
        refine At.snoc (monoD_frac.at_ h5 up (ha2.ex mono_frac e35)) ?_
        rw [hl2]
        exact monoD_frac (f := fun m => Mth.fr (Mth.cN n Db A m) (Db ^ n)) i z _ _ _ h5 up hz
      · by_cases e : m = i
        · rw [e]; exact hc
        · exact hb2 m (by omega)
    · rintro σ' H2 ⟨a3, a4, xs, rfl, e2, h2, hl2, ha2, hb2⟩
      exact ⟨_, rfl, kk p xs H2 e2 hp h2 hl2 ha2 hb2⟩
/-! ### rows -/
def spLRows (K : PySem.W.Frag) : Sp := fun vs H Q _ => ∃ (t : V) (D : Int) (n : Nat) (A : Mth.Mat), vs = [t] ∧ LT H t D n A ∧ n ≤ 5 ∧ 0 < D ∧ D.natAbs < 2 ^ 24 ∧ Bnd 24 n A ∧
  ∀ v H', Ex H H' → RawRows K H' v n (fun i j => Mth.fr (A i j) D) → Q v H'
theorem sc_lrows : FnScope ["_law_table", "_law_below", "_law_line", "_law_number"] ["_law_table"] (C8.fnScope (top 69)) := C8.fnScope_by (by decide +kernel)
theorem cal_lrows (D : DD K mg "_law_rows" 69) (c_l_low : C8.Cal P w K mg base 2 "_law_low" (spLow K) []) : C8.Cal P w K mg base 3 "_law_rows" (spLRows K) [] := by
  refine cal_mk D sc_lrows (fun _ _ _ _ _ _ us hl => match us, hl with | [_], _ => rfl) (fun vs H Q E h => ?_) (fun f cdv A outer s H vs Q E hr h => ?_)
  · obtain ⟨t, D, n, A, rfl, _⟩ := h; rfl
  · obtain ⟨t, Db, n, A, rfl, ht, hn, hD0, hDb, hA, kk⟩ := h
    have nd := sc_lrows.nd
    refine ⟨_, (pss_cons (pset 1 nd (pe_ix (ix_listK K) (pv 0) pe_int (fun _ _ => rfl)))
    (pss_one (ps_ret (pe_lc (own := [("_law_line", 2)]) rfl nd (pi_listK K (pe_ix (ix_listK K) (pv 0) pe_int (fun _ _ => rfl))) (blkOk_by (own := [("_law_line", 2)]) (N := ["_law_table", "_law_below", "_law_line", "_law_number"]) (by kernel_rfl)) (fun _ _ _ _ _ => (pgn 2 nd)) (fun _ _ _ _ _ => pts_nil) (fun _ _ _ _ _ => (pe_lc (own := [("_law_number", 3)]) rfl nd (pi_listK K (pv 2)) (blkOk_by (own := [("_law_number", 3)]) (N := ["_law_table", "_law_below", "_law_line", "_law_number"]) (by kernel_rfl)) (fun _ _ _ _ _ => (pgn 3 nd)) (fun _ _ _ _ _ => pts_nil) (fun _ _ _ _ _ => (C8.pe_c c_l_low hr (by decide) (by rfl) (pa_cons (pv 3) (pa_cons (pv 1) pa_nil)))))))))), ?_⟩
    refine rd_ltD ht rfl ?_
    refine rd_lt1 ht rfl fun p rs hp hl hr => ⟨p, rfl, ⟨_, SqL.of hp⟩, fun D hD => ?_⟩
    refine lcA walk_list (fun _ _ g e => Evl.ex_l e g) (lt_sz (by omega)) (P := NRow K D (fun i => NumV K fun j => Mth.fr (A i j) Db) n) (mono_nrow fun _ => mono_numV) (monoD_nrow fun _ => monoD_numV) hD (SqL.of hp) ?_ ?_
    · rintro i x H2 H2' Kt hi e2 _ ⟨rfl, ex⟩ ⟨ys, hys⟩ kt
      obtain ⟨q, e1, hq⟩ := hr i (by omega)
      rw [e1] at ex
      cases ex
      refine ⟨rfl, _, rfl, q, rfl, ⟨_, SqL.of (e2 _ _ hq)⟩, fun D2 hD2 => ?_⟩
      refine lcA walk_list (fun _ _ g e => Evl.ex_l e g) (by rw [iRow_len]; exact lt_sz (by omega)) (P := NumV K fun j => Mth.fr (A i j) Db) mono_numV monoD_numV hD2 (SqL.of (e2 _ _ hq)) ?_ ?_
      · rintro j x H3 H3' Kt' hj e3 _ ⟨rfl, ex'⟩ _ kt'
        rw [iRow_len] at hj
        rw [iRow_at hj] at ex'
        cases ex'
        have hb := hA i (by omega) j hj
        refine ⟨rfl, _, rfl, _, rfl, A i j, Db, rfl, by omega, Mth.lt_mono hb (by decide), Mth.lt_mono hDb (by decide), fun v H4 e4 hv => kt' v H4 e4 ?_⟩
        exact hv.num (Mth.Sz.fr hD0 hb hDb) (by decide)
      · intro H5 es' e5 h5 hl5 ha5
        exact kt _ H5 e5 (nrow_new hys (Evl.Ex.refl _) hD2 h5 (by rw [hl5, iRow_len]) ha5)
    · intro H5 es' e5 h5 hl5 ha5
      exact kk _ H5 e5 (raw_of h5 (by rw [hl5]; exact hl) ha5)
/-! ### size, heavy -/
def spSize : Sp := fun vs H Q _ => ∃ (d : Addr), vs = [.ref d] ∧ Dig d H ∧ ∀ (n : Nat) H', 1 ≤ n → n ≤ 5 → Ex (wo d H) (wo d H') → Dig d H' → Q (.int n) H'
theorem sc_size : FnScope ["_law_digits"] ["_law_digits"] (C8.fnScope (top 70)) := C8.fnScope_by (by decide +kernel)
theorem cal_size (D : DD K mg "_law_size" 70) (c_l_eat : C8.Cal P w K mg base 1 "_law_eat" (spEat) []) : C8.Cal P w K mg base 2 "_law_size" (spSize) [] := by
  refine cal_mk D sc_size (fun _ _ _ _ _ _ us hl => match us, hl with | [_], _ => rfl) (fun vs H Q E h => ?_) (fun f cdv A outer s H vs Q E hr h => ?_)
  · obtain ⟨d, rfl, _⟩ := h; rfl
  · obtain ⟨d, rfl, hd, kk⟩ := h
    have nd := sc_size.nd
    refine ⟨_, (pss_one (ps_ret (pe_ix (ix_listK K) (pe_lst (pa_cons pe_int (pa_cons pe_int (pa_cons pe_int (pa_cons pe_int (pa_cons pe_int (pa_cons pe_int (pa_cons pe_int (pa_cons pe_int (pa_cons pe_int (pa_cons pe_int (pa_cons pe_int (pa_cons pe_int pa_nil))))))))))))) (C8.pe_c c_l_eat hr (by decide) (by rfl) (pa_cons (pv 0) (pa_cons pe_int pa_nil))) (fun _ _ => rfl)))), ?_⟩
    refine ⟨by show 12 ≤ sizeLine; decide, fun p hp => ?_⟩
    have hpd := hd.ne hp
    have e0 : Ex (wo d H) (wo d (upd H p (.lst [.int 3, .int 2, .int 4, .int 3, .int 2, .int 4, .int 3, .int 5, .int 4, .int 1, .int 3, .int 2]))) := by rw [wo_upd hpd]; exact Evl.Ex.new (wo_fresh hp)
    refine ⟨_, rfl, d, 12, rfl, by decide, hd.ex (Evl.Ex.new hp), fun c H1 hc e1 hd1 => ?_⟩
    have h1 : H1 p = some (.lst [.int 3, .int 2, .int 4, .int 3, .int 2, .int 4, .int 3, .int 5, .int 4, .int 1, .int 3, .int 2]) := by
      have := e1 p _ (by rw [wo_at hpd, upd_same])
      rw [wo_at hpd] at this
      exact this
    have hv : ∃ n : Nat, 1 ≤ n ∧ n ≤ 5 ∧ ([V.int 3, .int 2, .int 4, .int 3, .int 2, .int 4, .int 3, .int 5, .int 4, .int 1, .int 3, .int 2] : List V)[c]? = some (.int (n : Nat)) := by
      match c, hc with
      | 0, _ => exact ⟨3, by decide, by decide, rfl⟩
      | 1, _ => exact ⟨2, by decide, by decide, rfl⟩
      | 2, _ => exact ⟨4, by decide, by decide, rfl⟩
      | 3, _ => exact ⟨3, by decide, by decide, rfl⟩
      | 4, _ => exact ⟨2, by decide, by decide, rfl⟩
      | 5, _ => exact ⟨4, by decide, by decide, rfl⟩
      | 6, _ => exact ⟨3, by decide, by decide, rfl⟩
      | 7, _ => exact ⟨5, by decide, by decide, rfl⟩
      | 8, _ => exact ⟨4, by decide, by decide, rfl⟩
      | 9, _ => exact ⟨1, by decide, by decide, rfl⟩
      | 10, _ => exact ⟨3, by decide, by decide, rfl⟩
      | 11, _ => exact ⟨2, by decide, by decide, rfl⟩
      | c + 12, h => exact absurd h (by omega)
    obtain ⟨n, hn1, hn5, hv⟩ := hv
    exact ⟨p, _, _, _, rfl, rfl, SqL.of h1, at_some hv, kk n H1 hn1 hn5 (e0.trans e1) hd1⟩
/-- a told entry of a list that stands beside the digits -/
theorem wo_keep {d p : Addr} {H H' : Hp} {o : HO} (hp : p ≠ d) (e : Ex (wo d H) (wo d H')) (h : H p = some o) : H' p = some o := by
  have := e p _ (by rw [wo_at hp]; exact h)
  rw [wo_at hp] at this
  exact this
theorem Dig.upd {d p : Addr} {H : Hp} {o : HO} (h : Dig d H) (hp : p ≠ d) : Dig d (upd H p o) := by
  obtain ⟨ds, hds⟩ := h
  exact ⟨ds, by rw [upd_ne (fun z => hp z.symm)]; exact hds⟩
theorem wo_new {d p : Addr} {H : Hp} {o : HO} (hd : Dig d H) (hp : H p = none) : Ex (wo d H) (wo d (L2.upd H p o)) := by
  rw [wo_upd (hd.ne hp)]
  exact Evl.Ex.new (wo_fresh hp)
theorem wo_mut {d p : Addr} {H H' : Hp} {o : HO} (hd : Dig d H) (hp : H p = none) (e : Ex (wo d H) (wo d H')) : Ex (wo d H) (wo d (L2.upd H' p o)) := by
  rw [wo_upd (hd.ne hp)]
  exact e.mut (wo_fresh hp)
def spHeavy : Sp := fun vs H Q _ => ∃ (d : Addr) (n : Nat), vs = [.ref d, .int n] ∧ n ≤ 12 ∧ Dig d H ∧ ∀ p (f : Nat → Int) H', Ex (wo d H) (wo d H') → Dig d H' → H p = none → H' p = some (.lst (iRow n f)) → (∀ i, i < n → 1 ≤ f i ∧ f i ≤ 3) → Q (.ref p) H'
theorem sc_heavy : FnScope ["_law_digits", "_law_size_here", "_law_at"] ["_law_digits", "_law_size_here"] (C8.fnScope (top 73)) := C8.fnScope_by (by decide +kernel)
theorem cal_heavy (B : Bt mg) (D : DD K mg "_law_heavy" 73) (c_l_eat : C8.Cal P w K mg base 1 "_law_eat" (spEat) []) : C8.Cal P w K mg base 2 "_law_heavy" (spHeavy) [] := by
  refine cal_mk D sc_heavy (fun _ _ _ _ _ _ us hl => match us, hl with | [_, _], _ => rfl) (fun vs H Q E h => ?_) (fun f cdv A outer s H vs Q E hr h => ?_)
  · obtain ⟨d, n, rfl, _⟩ := h; rfl
  · obtain ⟨d, n, rfl, hn, hd, kk⟩ := h
    have nd := sc_heavy.nd
    refine ⟨_, (pss_one (ps_ret (pe_lc (own := [("_law_at", 2)]) rfl nd (pi_range1 (by rfl) B.range (pa_cons (pv 1) pa_nil)) (blkOk_by (own := [("_law_at", 2)]) (N := ["_law_digits", "_law_size_here", "_law_at"]) (by kernel_rfl)) (fun _ _ _ _ _ => (pgn 2 nd)) (fun _ _ _ _ _ => pts_nil) (fun _ _ _ _ _ => (pe_op op_add pe_int (C8.pe_c c_l_eat hr (by decide) (by rfl) (pa_cons (pv 0) (pa_cons pe_int pa_nil)))))))), ?_⟩
    refine ⟨_, rfl, _, rfl, by omega, by omega, fun D hD => ?_⟩
    have hDd := hd.ne hD
    refine it_gen walk_rng (Pv := fun i H' => ∃ f : Nat → Int, Ex (wo d H) (wo d H') ∧ Dig d H' ∧ H' D = some (.lst (iRow i f)) ∧ ∀ j, j < i → 1 ≤ f j ∧ f j ≤ 3) ⟨fun _ => 0, wo_new hd hD, hd.upd hDd, upd_same, fun j h => by omega⟩ (fun _ _ _ _ => True.intro) ?_ ?_
    · rintro i x H2 H2' hi ⟨f, e2, hd2, h2, hf⟩ ⟨rfl, rfl⟩
      have hi' : i < n := hi
      refine ⟨rfl, _, rfl, d, 3, rfl, by decide, hd2, fun c H3 hc e3 hd3 => ⟨_, _, rfl, rfl, _, wo_keep hDd e3 h2, by rw [iRow_len]; exact lt_sz (by omega), fun j => if j = i then 1 + (c : Int) else f j, wo_mut hd hD (e2.trans e3), hd3.upd hDd, ?_, fun j hj => ?_⟩⟩
      · rw [upd_same, iRow_succ, if_pos rfl, iRow_congr (g := f) fun j hj => if_neg (by omega)]
      · show 1 ≤ (if j = i then 1 + (c : Int) else f j) ∧ (if j = i then 1 + (c : Int) else f j) ≤ 3
        by_cases e : j = i
        · rw [if_pos e]; omega
        · rw [if_neg e]; exact hf j (by omega)
    · rintro H5 ⟨f, e5, hd5, h5, hf⟩
      exact kk D f H5 e5 hd5 hD h5 hf
end
end K18
end
section
set_option Elab.async false
set_option linter.all false
set_option maxRecDepth 100000
set_option maxHeartbeats 4000000
namespace K18
open PySem PySem.Spec PyProof.Rows L2
/-- rows of ints being made: the list at p, its rows all apart, all new since H0 -/
def RX (H0 H : Hp) (p : Addr) (n m : Nat) (A : Mth.Mat) : Prop := ∃ qs : List Addr, H p = some (.lst (qs.map V.ref)) ∧ qs.length = n ∧ qs.Nodup ∧ (∀ q ∈ qs, q ≠ p ∧ H0 q = none) ∧ ∀ i q, qs[i]? = some q → H q = some (.lst (iRow m (A i)))
section
variable {H0 H H' : Hp} {p q : Addr} {n m i j : Nat} {A B : Mth.Mat}
theorem RX.nil (h : H p = some (.lst [])) : RX H0 H p 0 m A := ⟨[], h, rfl, List.nodup_nil, (fun q h => by cases h), fun i q h => by simp at h⟩
theorem RX.ex (h : RX H0 H p n m A) (e : Ex H H') : RX H0 H' p n m A := by
  obtain ⟨qs, h1, h2, h3, h4, h5⟩ := h
  exact ⟨qs, e _ _ h1, h2, h3, h4, fun i q hq => e _ _ (h5 i q hq)⟩
theorem RX.congr (h : RX H0 H p n m A) (e : ∀ i, i < n → ∀ j, j < m → A i j = B i j) : RX H0 H p n m B := by
  obtain ⟨qs, h1, h2, h3, h4, h5⟩ := h
  refine ⟨qs, h1, h2, h3, h4, fun i q hq => ?_⟩
  have hi := (List.getElem?_eq_some_iff.mp hq).1
  rw [← iRow_congr (e i (by omega))]
  exact h5 i q hq
theorem RX.base {H1 : Hp} (h : RX H0 H p n m A) (e : ∀ q, H0 q = none → H1 q = none) : RX H1 H p n m A := by
  obtain ⟨qs, h1, h2, h3, h4, h5⟩ := h
  exact ⟨qs, h1, h2, h3, fun q hq => ⟨(h4 q hq).1, e q (h4 q hq).2⟩, h5⟩
theorem RX.lst (h : RX H0 H p n m A) : ∃ ys, H p = some (.lst ys) ∧ ys.length = n := by
  obtain ⟨qs, h1, h2, _⟩ := h
  exact ⟨_, h1, by rw [List.length_map]; exact h2⟩
/-- one row more -/
theorem RX.snoc {ys : List V} (h : RX H0 H p n m A) (e : Ex H H') (hq : H q = none) (h0 : H0 q = none) (hq' : H' q = some (.lst (iRow m (A n)))) (hp : H' p = some (.lst ys)) : RX H0 (upd H' p (.lst (ys ++ [.ref q]))) p (n + 1) m A := by
  obtain ⟨qs, h1, h2, h3, h4, h5⟩ := h
  have hy := e _ _ h1
  rw [hp] at hy
  cases hy
  have hqp : q ≠ p := fun z => by rw [z, h1] at hq; cases hq
  have hn : ∀ q' ∈ qs, q' ≠ q := fun q' hm z => by
    obtain ⟨k, hk, ek⟩ := List.mem_iff_getElem.mp hm
    have := h5 k q' (by rw [List.getElem?_eq_getElem hk, ek])
    rw [z, hq] at this
    cases this
  refine ⟨qs ++ [q], by rw [upd_same]; simp, by rw [List.length_append, h2]; rfl, List.nodup_append.mpr ⟨h3, List.nodup_cons.mpr ⟨List.not_mem_nil, List.nodup_nil⟩, fun a ha b hb z => hn a ha (by rw [z]; exact List.mem_singleton.mp hb)⟩, fun a ha => ?_, fun i a ha => ?_⟩
  · rcases List.mem_append.mp ha with ha | ha
    · exact h4 a ha
    · rw [List.mem_singleton.mp ha]; exact ⟨hqp, h0⟩
  · by_cases hi : i < qs.length
    · rw [List.getElem?_append_left hi] at ha
      rw [upd_ne (h4 a (List.mem_of_getElem? ha)).1]
      exact e _ _ (h5 i a ha)
    · rw [List.getElem?_append_right (by omega)] at ha
      cases hk : i - qs.length with
      | zero =>
        rw [hk] at ha
        cases ha
        have : i = n := by omega
        rw [upd_ne hqp, this]
        exact hq'
      | succ k => rw [hk] at ha; simp at ha
/-- the row -/
theorem RX.row (h : RX H0 H p n m A) (hi : i < n) : ∃ qs q, H p = some (.lst qs) ∧ qs.length = n ∧ qs[i]? = some (.ref q) ∧ q ≠ p ∧ H0 q = none ∧ H q = some (.lst (iRow m (A i))) ∧
    ∀ x j, j < m → RX H0 (upd H q (.lst ((iRow m (A i)).set j (.int x)))) p n m (fun r c => if r = i ∧ c = j then x else A r c) := by
  obtain ⟨qs, h1, h2, h3, h4, h5⟩ := h
  have hil : i < qs.length := by omega
  have hm := h4 qs[i] (List.getElem_mem hil)
  refine ⟨qs.map V.ref, qs[i], h1, by rw [List.length_map]; exact h2, by rw [List.getElem?_map, List.getElem?_eq_getElem hil]; rfl, hm.1, hm.2, h5 i _ (List.getElem?_eq_getElem hil), fun x j hj => ?_⟩
  refine ⟨qs, by rw [upd_ne (fun z => hm.1 z.symm)]; exact h1, h2, h3, h4, fun r a ha => ?_⟩
  by_cases e : r = i
  · subst e
    rw [List.getElem?_eq_getElem hil] at ha
    cases ha
    rw [upd_same]
    congr 2
    refine iRow_set hj ?_ fun c hc hcj => ?_
    · show (if r = r ∧ j = j then x else A r j) = x
      rw [if_pos ⟨rfl, rfl⟩]
    · show (if r = r ∧ c = j then x else A r c) = A r c
      rw [if_neg (fun z => hcj z.2)]
  · obtain ⟨hrl, er⟩ := List.getElem?_eq_some_iff.mp ha
    have hne : a ≠ qs[i] := fun z => by
      have hp := List.pairwise_iff_getElem.mp h3
      rcases Nat.lt_or_gt_of_ne e with q | q
      · exact hp r i hrl hil q (er.trans z)
      · exact hp i r hil hrl q (z.symm.trans er.symm)
    rw [upd_ne hne, h5 r a ha, iRow_congr (g := fun c => if r = i ∧ c = j then x else A r c) fun c _ => by rw [if_neg (fun z => e z.1)]]
theorem RX.ltn {t : Addr} {D : Int} (h : RX H0 H p n n A) (h0 : H0 p = none) (e : Ex H0 H) (ht : H t = none) : LTN H0 (upd H t (.lst [.int D, .ref p])) (.ref t) D n A := by
  obtain ⟨qs, h1, h2, h3, h4, h5⟩ := h
  have et := Evl.Ex.new (o := .lst [.int D, .ref p]) ht
  refine ⟨t, p, _, rfl, Evl.fresh_back e ht, h0, upd_same, et _ _ h1, by rw [List.length_map]; exact h2, fun i hi => ⟨qs[i], by rw [List.getElem?_map, List.getElem?_eq_getElem (by omega)]; rfl, (h4 _ (List.getElem_mem (by omega))).2, et _ _ (h5 i _ (List.getElem?_eq_getElem (by omega)))⟩⟩
theorem RX.lt {t : Addr} {D : Int} (h : RX H0 H p n n A) (ht : H t = some (.lst [.int D, .ref p])) : LT H (.ref t) D n A := by
  obtain ⟨qs, h1, h2, h3, h4, h5⟩ := h
  exact ⟨t, _, rfl, ht, p, _, rfl, h1, by rw [List.length_map]; exact h2, fun i hi => ⟨qs[i], by rw [List.getElem?_map, List.getElem?_eq_getElem (by omega)]; rfl, h5 i _ (List.getElem?_eq_getElem (by omega))⟩⟩
end
section
variable {J : It} {n : Nat} {G : Hp → Prop} {Y : Nat → Hp → V → Hp → Prop}
/-- a comprehension of rows of ints -/
theorem lcX (w : Walk J n G Y) (hGm : ∀ H H', G H → Ex H H' → G H') (hn : n < sizeLine) {D : Addr} {m : Nat} (A : Mth.Mat) {g : TG} {te : TE} {vs : List Nat} {σ : L2.St} {H1 : Hp} {Qd : Hp → Prop} (hD : H1 D = none) (hG1 : G H1)
    (hs : ∀ (i : Nat) (x : V) (H H' : Hp) (Kt : V → Hp → Prop), i < n → Ex H1 H → G H → Y i H x H' → (∀ q H4, Ex H H4 → H q = none → H4 q = some (.lst (iRow m (A i))) → Kt (.ref q) H4) → g x (wipe σ vs) H' fun σ2 H2 => wipe σ2 vs = wipe σ vs ∧ te σ2 H2 Kt)
    (hd : ∀ H, Ex H1 H → RX H1 H D n m A → Qd H) :
    ∃ W : Nat → Nat → Hp → Prop, (∃ m, W 0 m (upd H1 D (.lst []))) ∧ ∀ i m H, W i m H →
      (J.stop i H ∧ Qd H) ∨ (J.go i H ∧ ∃ Nx : Hp → Prop, (∀ H', Nx H' → ∃ m', m' < m ∧ W (i + 1) m' H') ∧ ∀ x H', J.yld i H x H' → g x (wipe σ vs) H' fun σ2 H2 => wipe σ2 vs = wipe σ vs ∧ tYes σ2 H2 fun b H3 =>
        if b = true then te σ2 H3 fun y H4 => ∃ acc, H4 D = some (.lst acc) ∧ acc.length < sizeLine ∧ Nx (upd H4 D (.lst (acc ++ [y]))) else Nx H3) := by
  refine it_gen w (Pv := fun i H => Ex H1 H ∧ RX H1 H D i m A) ⟨Evl.Ex.new hD, RX.nil upd_same⟩ (fun i H _ h => hGm _ _ hG1 h.1) (fun i x H H' hi h y => ?_) (fun H h => hd H h.1 h.2)
  obtain ⟨e, r⟩ := h
  refine hs i x H H' _ hi e (hGm _ _ hG1 e) y fun q H4 e4 hq hq4 => ?_
  obtain ⟨ys, hy, hyl⟩ := (r.ex e4).lst
  exact ⟨ys, hy, by omega, (e.trans e4).mut hD, r.snoc e4 hq (Evl.fresh_back e hq) hq4 hy⟩
end
section
variable {P : Program} {w : World} {K : PySem.W.Frag} {mg : Str → Option Value} {base : Heap} {C : Addr}
def LTq (H : Hp) (Q : VK) (D : Int) (n : Nat) (A : Mth.Mat) : Prop := ∀ v H', Ex H H' → LTN H H' v D n A → Q v H'
def spLMoved : Sp := fun vs H Q _ => ∃ (t : V) (p : Addr) (D : Int) (n : Nat) (A : Mth.Mat) (l : List Nat), vs = [t, .ref p] ∧ LT H t D n A ∧ H p = some (.lst (nV l)) ∧ l.length = n ∧ (∀ x ∈ l, x < n) ∧ n ≤ 5 ∧ LTq H Q D n (fun i j => A (l.getD i 0) (l.getD j 0))
theorem sc_lmoved : FnScope ["_law_table", "_law_order", "_law_at", "_law_to"] ["_law_table", "_law_order"] (C8.fnScope (top 77)) := C8.fnScope_by (by decide +kernel)
theorem cal_lmoved (D : DD K mg "_law_moved" 77) : C8.Cal P w K mg base 1 "_law_moved" (spLMoved) [] := by
  refine cal_mk D sc_lmoved (fun _ _ _ _ _ _ us hl => match us, hl with | [_, _], _ => rfl) (fun vs H Q E h => ?_) (fun f cdv A outer s H vs Q E hr h => ?_)
  · obtain ⟨t, p, D, n, A, l, rfl, _⟩ := h; rfl
  · obtain ⟨t, p, Db, n, A, l, rfl, ht, hp, hl, hlt, hn, kk⟩ := h
    have nd := sc_lmoved.nd
    refine ⟨_, (pss_one (ps_ret (pe_lst (pa_cons (pe_ix (ix_listK K) (pv 0) pe_int (fun _ _ => rfl)) (pa_cons (pe_lc (own := [("_law_at", 2)]) rfl nd (pi_listK K (pv 1)) (blkOk_by (own := [("_law_at", 2)]) (N := ["_law_table", "_law_order", "_law_at", "_law_to"]) (by kernel_rfl)) (fun _ _ _ _ _ => (pgn 2 nd)) (fun _ _ _ _ _ => pts_nil) (fun _ _ _ _ _ => (pe_lc (own := [("_law_to", 3)]) rfl nd (pi_listK K (pv 1)) (blkOk_by (own := [("_law_to", 3)]) (N := ["_law_table", "_law_order", "_law_at", "_law_to"]) (by kernel_rfl)) (fun _ _ _ _ _ => (pgn 3 nd)) (fun _ _ _ _ _ => pts_nil) (fun _ _ _ _ _ => (pe_ix (ix_listK K) (pe_ix (ix_listK K) (pe_ix (ix_listK K) (pv 0) pe_int (fun _ _ => rfl)) (pv 2) (fun _ _ => rfl)) (pv 3) (fun _ _ => rfl)))))) pa_nil))))), ?_⟩
    subst hl
    refine rd_ltD ht rfl ⟨_, rfl, p, rfl, ⟨_, SqL.of hp⟩, fun D hD => ?_⟩
    have wk : Walk (Itl K p) l.length (fun H => SqL K H p (nV l)) (YAt (nV l)) := by
      have := walk_list (K := K) (a := p) (xs := nV l)
      rwa [nV_len] at this
    refine lcX wk (fun _ _ g e => Evl.ex_l e g) (lt_sz (by omega)) (m := l.length) (fun i j => A (l.getD i 0) (l.getD j 0)) hD (SqL.of hp) ?_ ?_
    · rintro i x H2 H2' Kt hi e2 _ ⟨rfl, ex⟩ kt
      obtain ⟨hil, rfl⟩ := nV_at ex
      refine ⟨rfl, _, rfl, p, rfl, ⟨_, SqL.of (e2 _ _ hp)⟩, fun D2 hD2 => ?_⟩
      refine lcA wk (fun _ _ g e => Evl.ex_l e g) (lt_sz (by omega)) (P := fun j v _ => v = .int (A (l.getD i 0) (l.getD j 0))) mono_eq monoD_eq hD2 (SqL.of (e2 _ _ hp)) ?_ ?_
      · rintro j x H3 H3' Kt' hj e3 _ ⟨rfl, ex'⟩ _ kt'
        obtain ⟨hjl, rfl⟩ := nV_at ex'
        exact ⟨rfl, rd_lt (ht.ex (e2.trans e3)) rfl rfl rfl (hlt _ (List.getElem_mem hil)) (hlt _ (List.getElem_mem hjl)) (kt' _ _ (Evl.Ex.refl _) (by rw [getD_at hil, getD_at hjl]))⟩
      · intro H5 es' e5 h5 hl5 ha5
        rw [at_eq ha5 hl5] at h5
        exact kt D2 H5 e5 hD2 h5
    · intro H5 e5 r5
      exact ⟨by show 2 ≤ sizeLine; decide, fun tl htl => kk _ _ (e5.trans (Evl.Ex.new htl)) (r5.ltn hD e5 htl)⟩
def spAcross : Sp := fun vs H Q _ => ∃ (t : V) (D : Int) (n : Nat) (A : Mth.Mat), vs = [t] ∧ LT H t D n A ∧ n ≤ 5 ∧ LTq H Q D n (fun i j => A j i)
theorem sc_across : FnScope ["_law_table", "_law_size_here", "_law_at", "_law_to"] ["_law_table"] (C8.fnScope (top 81)) := C8.fnScope_by (by decide +kernel)
theorem cal_across (B : Bt mg) (D : DD K mg "_law_across" 81) : C8.Cal P w K mg base 1 "_law_across" (spAcross) [] := by
  refine cal_mk D sc_across (fun _ _ _ _ _ _ us hl => match us, hl with | [_], _ => rfl) (fun vs H Q E h => ?_) (fun f cdv A outer s H vs Q E hr h => ?_)
  · obtain ⟨t, D, n, A, rfl, _⟩ := h; rfl
  · obtain ⟨t, Db, n, A, rfl, ht, hn, kk⟩ := h
    have nd := sc_across.nd
    refine ⟨_, (pss_cons (pset 1 nd (pe_callB (call_lenK K) (by rfl) B.len PySem.boot_len (pa_cons (pe_ix (ix_listK K) (pv 0) pe_int (fun _ _ => rfl)) pa_nil)))
    (pss_one (ps_ret (pe_lst (pa_cons (pe_ix (ix_listK K) (pv 0) pe_int (fun _ _ => rfl)) (pa_cons (pe_lc (own := [("_law_at", 2)]) rfl nd (pi_range1 (by rfl) B.range (pa_cons (pv 1) pa_nil)) (blkOk_by (own := [("_law_at", 2)]) (N := ["_law_table", "_law_size_here", "_law_at", "_law_to"]) (by kernel_rfl)) (fun _ _ _ _ _ => (pgn 2 nd)) (fun _ _ _ _ _ => pts_nil) (fun _ _ _ _ _ => (pe_lc (own := [("_law_to", 3)]) rfl nd (pi_range1 (by rfl) B.range (pa_cons (pv 1) pa_nil)) (blkOk_by (own := [("_law_to", 3)]) (N := ["_law_table", "_law_size_here", "_law_at", "_law_to"]) (by kernel_rfl)) (fun _ _ _ _ _ => (pgn 3 nd)) (fun _ _ _ _ _ => pts_nil) (fun _ _ _ _ _ => (pe_ix (ix_listK K) (pe_ix (ix_listK K) (pe_ix (ix_listK K) (pv 0) pe_int (fun _ _ => rfl)) (pv 3) (fun _ _ => rfl)) (pv 2) (fun _ _ => rfl)))))) pa_nil)))))), ?_⟩
    refine rd_ltN ht rfl (rd_ltD ht rfl ⟨_, rfl, _, rfl, by omega, by omega, fun D hD => ?_⟩)
    refine lcX walk_rng gm_true (lt_sz (by omega)) (m := n) (fun i j => A j i) hD True.intro ?_ ?_
    · rintro i x H2 H2' Kt hi e2 _ ⟨rfl, rfl⟩ kt
      refine ⟨rfl, _, rfl, _, rfl, by omega, by omega, fun D2 hD2 => ?_⟩
      refine lcA walk_rng gm_true (lt_sz (by omega)) (P := fun j v _ => v = .int (A j i)) mono_eq monoD_eq hD2 True.intro ?_ ?_
      · rintro j x H3 H3' Kt' hj e3 _ ⟨rfl, rfl⟩ _ kt'
        exact ⟨rfl, rd_lt (ht.ex (e2.trans e3)) rfl rfl rfl hj hi (kt' _ _ (Evl.Ex.refl _) rfl)⟩
      · intro H5 es' e5 h5 hl5 ha5
        rw [at_eq ha5 hl5] at h5
        exact kt D2 H5 e5 hD2 h5
    · intro H5 e5 r5
      exact ⟨by show 2 ≤ sizeLine; decide, fun tl htl => kk _ _ (e5.trans (Evl.Ex.new htl)) (RX.ltn (n := n) r5 hD e5 htl)⟩
def spLTurned : Sp := fun vs H Q _ => ∃ (t : V) (D : Int) (n : Nat) (A : Mth.Mat), vs = [t] ∧ LT H t D n A ∧ n ≤ 5 ∧ LTq H Q D n (Mth.off D A)
theorem sc_lturned : FnScope ["_law_table", "_law_size_here", "_law_rows_here", "_law_at", "_law_line", "_law_number"] ["_law_table"] (C8.fnScope (top 80)) := C8.fnScope_by (by decide +kernel)
theorem cal_lturned (B : Bt mg) (D : DD K mg "_law_turned" 80) : C8.Cal P w K mg base 1 "_law_turned" (spLTurned) [] := by
  refine cal_mk D sc_lturned (fun _ _ _ _ _ _ us hl => match us, hl with | [_], _ => rfl) (fun vs H Q E h => ?_) (fun f cdv A outer s H vs Q E hr h => ?_)
  · obtain ⟨t, D, n, A, rfl, _⟩ := h; rfl
  · obtain ⟨t, Db, n, A, rfl, ht, hn, kk⟩ := h
    have nd := sc_lturned.nd
    refine ⟨_, (pss_cons (pset 1 nd (pe_callB (call_lenK K) (by rfl) B.len PySem.boot_len (pa_cons (pe_ix (ix_listK K) (pv 0) pe_int (fun _ _ => rfl)) pa_nil)))
    (pss_cons (ps_setLc (i := 2) (own := [("_law_line", 4)]) rfl nd rfl rfl (sw_true rfl rfl rfl (by decide +kernel)) (pi_listK K (pe_ix (ix_listK K) (pv 0) pe_int (fun _ _ => rfl))) (blkOk_by (own := [("_law_line", 4)]) (N := ["_law_table", "_law_size_here", "_law_rows_here", "_law_at", "_law_line", "_law_number"]) (by kernel_rfl)) (fun _ _ _ _ _ => (pgn 4 nd)) (fun _ _ _ _ _ => pts_nil) (fun _ _ _ _ _ => (pe_lc (own := [("_law_number", 5)]) rfl nd (pi_listK K (pv 4)) (blkOk_by (own := [("_law_number", 5)]) (N := ["_law_table", "_law_size_here", "_law_rows_here", "_law_at", "_law_line", "_law_number"]) (by kernel_rfl)) (fun _ _ _ _ _ => (pgn 5 nd)) (fun _ _ _ _ _ => pts_nil) (fun _ _ _ _ _ => (pe_op op_sub pe_int (pv 5))))))
    (pss_cons (ps_for PassesOwn.never rfl (pi_range1 (by rfl) B.range (pa_cons (pv 1) pa_nil)) (pgn 3 nd)
      (pss_one (ps_asg (pe_op op_add (pe_ix (ix_listK K) (pe_ix (ix_listK K) (pv 2) (pv 3) (fun _ _ => rfl)) (pv 3) (fun _ _ => rfl)) (pe_ix (ix_listK K) (pv 0) pe_int (fun _ _ => rfl))) (pg_sub (pe_ix (ix_listK K) (pv 2) (pv 3) (fun _ _ => rfl)) (pv 3) set_list))))
    (pss_one (ps_ret (pe_lst (pa_cons (pe_ix (ix_listK K) (pv 0) pe_int (fun _ _ => rfl)) (pa_cons (pv 2) pa_nil)))))))), ?_⟩
    refine rd_ltN ht rfl (rd_lt1 ht rfl fun p rs hp hl hr => ⟨p, rfl, ⟨_, SqL.of hp⟩, fun D hD => ?_⟩)
    have wk : Walk (Itl K p) n (fun H => SqL K H p rs) (YAt rs) := by
      have := walk_list (K := K) (a := p) (xs := rs)
      rwa [hl] at this
    refine lcX wk (fun _ _ g e => Evl.ex_l e g) (lt_sz (by omega)) (m := n) (fun i j => 0 - A i j) hD (SqL.of hp) ?_ ?_
    · rintro i x H2 H2' Kt hi e2 _ ⟨rfl, ex⟩ kt
      obtain ⟨q, e1, hq⟩ := hr i hi
      rw [e1] at ex
      cases ex
      refine ⟨rfl, _, rfl, q, rfl, ⟨_, SqL.of (e2 _ _ hq)⟩, fun D2 hD2 => ?_⟩
      refine lcA (walk_list (xs := iRow n (A i))) (fun _ _ g e => Evl.ex_l e g) (by rw [iRow_len]; exact lt_sz (by omega)) (P := fun j v _ => v = .int (0 - A i j)) mono_eq monoD_eq hD2 (SqL.of (e2 _ _ hq)) ?_ ?_
      · rintro j x H3 H3' Kt' hj e3 _ ⟨rfl, ex'⟩ _ kt'
        rw [iRow_len] at hj
        rw [iRow_at hj] at ex'
        cases ex'
        exact ⟨rfl, _, rfl, _, _, rfl, rfl, kt' _ _ (Evl.Ex.refl _) rfl⟩
      · intro H5 es' e5 h5 hl5 ha5
        rw [at_eq ha5 (by rw [hl5, iRow_len])] at h5
        exact kt D2 H5 e5 hD2 h5
    · intro H5 e5 r5
      refine ⟨_, rfl, _, rfl, by omega, by omega, ?_⟩
      refine for_rg (a := 0) rfl (by omega : (n : Int).toNat = n) (Pv := fun k σ' H' => ∃ (a3 : Option V), σ' = [some t, some (.int (n : Nat)), some (.ref D), a3, none, none] ∧ Ex H H' ∧ RX H H' D n n (fun i j => if i < k ∧ i = j then 0 - A i j + Db else 0 - A i j))
        ⟨_, rfl, e5, r5.congr fun i _ j _ => by rw [if_neg (by omega)]⟩ ?_ ?_
      · rintro k σ' H6 hk ⟨a3, rfl, e6, r6⟩
        rw [Nat.zero_add]
        obtain ⟨qs, q, h1, h2, h3, h4, h5, h6, h7⟩ := r6.row hk
        refine ⟨_, rfl, _, rfl, D, qs, _, _, rfl, rfl, SqL.of h1, at_some h3, _, rfl, q, _, _, _, rfl, rfl, SqL.of h6, at_some (iRow_at hk), rd_ltD (ht.ex e6) rfl ⟨_, _, rfl, rfl, ?_⟩⟩
        refine ⟨_, rfl, _, rfl, D, qs, _, _, rfl, rfl, SqL.of h1, at_some h3, _, rfl, q, _, _, k, rfl, rfl, h6, Evl.ixN_nat (by rw [iRow_len]; exact hk), _, rfl, e6.mut h5, ?_⟩
        refine (h7 _ k hk).congr fun i hi j hj => ?_
        by_cases c : i = k ∧ j = k
        · obtain ⟨rfl, rfl⟩ := c
          rw [if_pos ⟨rfl, rfl⟩]
          show (if j < j ∧ j = j then 0 - A j j + Db else 0 - A j j) + Db = if j < j + 1 ∧ j = j then 0 - A j j + Db else 0 - A j j
          rw [if_neg (by omega), if_pos ⟨by omega, rfl⟩]
        · rw [if_neg c]
          by_cases c2 : i < k ∧ i = j
          · rw [if_pos c2, if_pos (by omega)]
          · rw [if_neg c2, if_neg (by omega)]
      · rintro σ' H6 ⟨a3, rfl, e6, r6⟩
        refine rd_ltD (ht.ex e6) rfl ⟨_, rfl, by show 2 ≤ sizeLine; decide, fun tl htl => kk _ _ (e6.trans (Evl.Ex.new htl)) (RX.ltn (r6.congr fun i hi j hj => ?_) hD e6 htl)⟩
        show _ = (if i = j then Db else 0) - A i j
        by_cases c : i = j
        · rw [if_pos ⟨hi, c⟩, if_pos c]; omega
        · rw [if_neg (fun z => c z.2), if_neg c]
def spDimmed : Sp := fun vs H Q _ => ∃ (t : V) (a b : Nat) (D : Int) (n : Nat) (A : Mth.Mat), vs = [t, .int a, .int b] ∧ LT H t D n A ∧ n ≤ 5 ∧ a < 7 ∧ b < 7 ∧ D.natAbs < 2 ^ 30 ∧ Bnd 30 n A ∧ LTq H Q (6 * D) n (fun i j => ((a : Int) - b) * A i j + if i = j then (b : Int) * D else 0)
theorem sc_dimmed : FnScope ["_law_table", "_law_inside", "_law_outside", "_law_rows_here", "_law_at", "_law_line", "_law_number"] ["_law_table", "_law_inside", "_law_outside"] (C8.fnScope (top 74)) := C8.fnScope_by (by decide +kernel)
theorem cal_dimmed (B : Bt mg) (D : DD K mg "_law_dimmed" 74) : C8.Cal P w K mg base 1 "_law_dimmed" (spDimmed) [] := by
  refine cal_mk D sc_dimmed (fun _ _ _ _ _ _ us hl => match us, hl with | [_, _, _], _ => rfl) (fun vs H Q E h => ?_) (fun f cdv A outer s H vs Q E hr h => ?_)
  · obtain ⟨t, a, b, D, n, A, rfl, _⟩ := h; rfl
  · obtain ⟨t, a, b, Db, n, A, rfl, ht, hn, ha, hb, hDb, hA, kk⟩ := h
    have nd := sc_dimmed.nd
    refine ⟨_, (pss_cons (pset 3 nd (pe_lst pa_nil))
    (pss_cons (ps_for PassesOwn.never rfl (pi_range1 (by rfl) B.range (pa_cons (pe_callB (call_lenK K) (by rfl) B.len PySem.boot_len (pa_cons (pe_ix (ix_listK K) (pv 0) pe_int (fun _ _ => rfl)) pa_nil)) pa_nil)) (pgn 4 nd)
      (pss_cons (ps_setLc (i := 5) (own := [("_law_number", 6)]) rfl nd rfl rfl (sw_true rfl rfl rfl (by decide +kernel)) (pi_listK K (pe_ix (ix_listK K) (pe_ix (ix_listK K) (pv 0) pe_int (fun _ _ => rfl)) (pv 4) (fun _ _ => rfl))) (blkOk_by (own := [("_law_number", 6)]) (N := ["_law_table", "_law_inside", "_law_outside", "_law_rows_here", "_law_at", "_law_line", "_law_number"]) (by kernel_rfl)) (fun _ _ _ _ _ => (pgn 6 nd)) (fun _ _ _ _ _ => pts_nil) (fun _ _ _ _ _ => (pe_op op_mulW (pe_op op_sub (pv 1) (pv 2)) (pv 6))))
      (pss_cons (ps_asg (pe_op op_add (pe_ix (ix_listK K) (pv 5) (pv 4) (fun _ _ => rfl)) (pe_op op_mulW (pv 2) (pe_ix (ix_listK K) (pv 0) pe_int (fun _ _ => rfl)))) (pg_sub (pv 5) (pv 4) set_list))
      (pss_one (ps_expr (pe_bm PySem.F.plainAttrs_list PySem.F.slot_list_append PySem.F.type_list_append mt_append (pv 3) (pa_cons (pv 5) pa_nil)))))))
    (pss_one (ps_ret (pe_lst (pa_cons (pe_op op_mulW pe_int (pe_ix (ix_listK K) (pv 0) pe_int (fun _ _ => rfl))) (pa_cons (pv 3) pa_nil))))))), ?_⟩
    have hab : ((a : Int) - b).natAbs < 2 ^ 3 := by omega
    refine ⟨by decide, fun p3 hp3 => ?_⟩
    have e3 := Evl.Ex.new (o := .lst []) hp3
    refine rd_ltN (ht.ex e3) rfl ⟨_, rfl, by omega, by omega, ?_⟩
    refine for_rg (a := 0) rfl (by omega : (n : Int).toNat = n) (Pv := fun k σ' H' => ∃ (a4 a5 : Option V), σ' = [some t, some (.int (a : Nat)), some (.int (b : Nat)), some (.ref p3), a4, a5, none] ∧ Ex H H' ∧ RX H H' p3 k n (fun i j => ((a : Int) - b) * A i j + if i = j then (b : Int) * Db else 0))
      ⟨_, _, rfl, e3, RX.nil upd_same⟩ ?_ ?_
    · rintro k σ' H2 hk ⟨a4, a5, rfl, e2, r2⟩
      rw [Nat.zero_add]
      have ht2 := ht.ex e2
      refine rd_ltR ht2 rfl rfl hk fun q hq => ⟨q, rfl, ⟨_, SqL.of hq⟩, fun D1 hD1 => ?_⟩
      refine lcA (walk_list (xs := iRow n (A k))) (fun _ _ g e => Evl.ex_l e g) (by rw [iRow_len]; exact lt_sz (by omega)) (P := fun j v _ => v = .int (((a : Int) - b) * A k j)) mono_eq monoD_eq hD1 (SqL.of hq) ?_ ?_
      · rintro j x H3 H3' Kt' hj e3 _ ⟨rfl, ex'⟩ _ kt'
        rw [iRow_len] at hj
        rw [iRow_at hj] at ex'
        cases ex'
        exact ⟨rfl, _, rfl, _, rfl, _, _, rfl, rfl, _, rfl, _, _, rfl, rfl, wmul hab (hA k hk j hj) (by decide) (by decide) (by decide), kt' _ _ (Evl.Ex.refl _) rfl⟩
      · intro H5 es' e5 h5 hl5 ha5
        rw [at_eq ha5 (by rw [hl5, iRow_len])] at h5
        have h5' : H5 D1 = some (.lst (iRow n fun j => ((a : Int) - b) * A k j)) := h5
        refine ⟨_, rfl, _, rfl, D1, _, _, _, rfl, rfl, SqL.of h5', at_some (iRow_at hk), _, rfl, rd_ltD (ht2.ex e5) rfl ⟨_, _, rfl, rfl, wmul (i := (b : Int)) (a := 3) (by omega) hDb (by decide) (by decide) (by decide), _, _, rfl, rfl, ?_⟩⟩
        refine ⟨_, rfl, _, rfl, D1, _, _, k, rfl, rfl, h5', Evl.ixN_nat (by rw [iRow_len]; exact hk), ?_⟩
        have hset : (iRow n fun j => ((a : Int) - b) * A k j).set k (.int (((a : Int) - b) * A k k + (b : Int) * Db)) = iRow n (fun j => ((a : Int) - b) * A k j + if k = j then (b : Int) * Db else 0) :=
          iRow_set hk (by rw [if_pos rfl]) fun j _ hjk => by rw [if_neg (fun z => hjk z.symm), Int.add_zero]
        have e26 : Ex H2 (upd H5 D1 (.lst ((iRow n fun j => ((a : Int) - b) * A k j).set k (.int (((a : Int) - b) * A k k + (b : Int) * Db))))) := e5.mut hD1
        obtain ⟨ys, hy, hyl⟩ := (r2.ex e26).lst
        refine ⟨_, rfl, lst_ty hy, _, rfl, p3, ys, _, rfl, rfl, hy, lt_sz (by omega), _, _, rfl, (e2.trans e26).mut hp3, r2.snoc e26 hD1 (Evl.fresh_back e2 hD1) ?_ hy⟩
        rw [upd_same, hset]
    · rintro σ' H2 ⟨a4, a5, rfl, e2, r2⟩
      exact rd_ltD (ht.ex e2) rfl ⟨_, _, rfl, rfl, wmul (i := 6) (a := 3) (by decide) hDb (by decide) (by decide) (by decide), _, rfl, by show 2 ≤ sizeLine; decide, fun tl htl => kk _ _ (e2.trans (Evl.Ex.new htl)) (r2.ltn hp3 e2 htl)⟩
end
end K18
end
section
set_option Elab.async false
set_option linter.all false
set_option maxRecDepth 100000
set_option maxHeartbeats 4000000
namespace K18
open PySem PySem.Spec PyProof.Rows L2
theorem at_ints {l : List Int} {c : Nat} (h : c < l.length) : (l.map V.int)[c]? = some (.int l[c]) := by rw [List.getElem?_map, List.getElem?_eq_getElem h]; rfl
section
variable {P : Program} {w : World} {K : PySem.W.Frag} {mg : Str → Option Value} {base : Heap} {C : Addr}
/-- a table that is made of digits -/
def LTd (d : Addr) (H : Hp) (Q : VK) (n : Nat) : Prop := ∀ v D A H', Ex (wo d H) (wo d H') → Dig d H' → LT (wo d H') v D n A → 0 < D → D.natAbs < 2 ^ 8 → Bnd 8 n A → Q v H'
def spFree : Sp := fun vs H Q _ => ∃ (d : Addr) (n : Nat), vs = [.ref d, .int n] ∧ n ≤ 5 ∧ Dig d H ∧ LTd d H Q n
theorem sc_free : FnScope ["_law_digits", "_law_size_here", "_law_rows_here", "_law_at", "_law_line", "_law_to", "_law_link"] ["_law_digits", "_law_size_here"] (C8.fnScope (top 75)) := C8.fnScope_by (by decide +kernel)
theorem cal_free (B : Bt mg) (D : DD K mg "_law_free" 75) (c_l_eat : C8.Cal P w K mg base 1 "_law_eat" (spEat) []) : C8.Cal P w K mg base 2 "_law_free" (spFree) [] := by
  refine cal_mk D sc_free (fun _ _ _ _ _ _ us hl => match us, hl with | [_, _], _ => rfl) (fun vs H Q E h => ?_) (fun f cdv A outer s H vs Q E hr h => ?_)
  · obtain ⟨d, n, rfl, _⟩ := h; rfl
  · obtain ⟨d, n, rfl, hn, hd, kk⟩ := h
    have nd := sc_free.nd
    refine ⟨_, (pss_cons (pset 2 nd (pe_lst pa_nil))
    (pss_cons (ps_for PassesOwn.never rfl (pi_range1 (by rfl) B.range (pa_cons (pv 1) pa_nil)) (pgn 3 nd)
      (pss_cons (pset 4 nd (pe_lst pa_nil))
      (pss_cons (ps_for PassesOwn.never rfl (pi_range1 (by rfl) B.range (pa_cons (pv 1) pa_nil)) (pgn 5 nd)
        (pss_cons (pset 6 nd (pe_ix (ix_listK K) (pe_lst (pa_cons pe_int (pa_cons pe_int (pa_cons (pe_un un_neg pe_int) (pa_cons pe_int (pa_cons (pe_un un_neg pe_int) (pa_cons pe_int (pa_cons (pe_un un_neg pe_int) (pa_cons pe_int (pa_cons pe_int pa_nil)))))))))) (C8.pe_c c_l_eat hr (by decide) (by rfl) (pa_cons (pv 0) (pa_cons pe_int pa_nil))) (fun _ _ => rfl)))
        (pss_one (ps_expr (pe_bm PySem.F.plainAttrs_list PySem.F.slot_list_append PySem.F.type_list_append mt_append (pv 4) (pa_cons (pe_ifExp (pt_cmpR op_eq (pv 3) (pv 5) (nomark _)) (pe_op op_add pe_int (pe_op op_mulW pe_int (C8.pe_c c_l_eat hr (by decide) (by rfl) (pa_cons (pv 0) (pa_cons pe_int pa_nil))))) (pv 6)) pa_nil))))))
      (pss_one (ps_expr (pe_bm PySem.F.plainAttrs_list PySem.F.slot_list_append PySem.F.type_list_append mt_append (pv 2) (pa_cons (pv 4) pa_nil)))))))
    (pss_one (ps_ret (pe_lst (pa_cons pe_int (pa_cons (pv 2) pa_nil))))))), ?_⟩
    refine ⟨by decide, fun p2 hp2 => ?_⟩
    have h2d := hd.ne hp2
    refine ⟨_, rfl, _, rfl, by omega, by omega, ?_⟩
    refine for_rg (a := 0) rfl (by omega : (n : Int).toNat = n) (Pv := fun k σ' H' => ∃ (a3 a4 a5 a6 : Option V) (A : Mth.Mat), σ' = [some (.ref d), some (.int n), some (.ref p2), a3, a4, a5, a6] ∧ Ex (wo d H) (wo d H') ∧ Dig d H' ∧ RX (wo d H) (wo d H') p2 k n A ∧ ∀ i, i < k → ∀ j, j < n → (A i j).natAbs < 2 ^ 8)
      ⟨_, _, _, _, fun _ _ => 0, rfl, wo_new hd hp2, hd.upd h2d, RX.nil (by rw [wo_at h2d, upd_same]), fun i h => by omega⟩ ?_ ?_
    · rintro k σ' H3 hk ⟨a3, a4, a5, a6, A, rfl, e3, hd3, r3, hb3⟩
      rw [Nat.zero_add]
      refine ⟨by decide, fun p4 hp4 => ?_⟩
      have h4d := hd3.ne hp4
      have hp40 : wo d H p4 = none := Evl.fresh_back e3 (wo_fresh hp4)
      refine ⟨_, rfl, _, rfl, by omega, by omega, ?_⟩
      refine for_rg (a := 0) rfl (by omega : (n : Int).toNat = n) (Pv := fun t σ' H' => ∃ (a5 a6 : Option V) (f : Nat → Int), σ' = [some (.ref d), some (.int n), some (.ref p2), some (.int (k : Nat)), some (.ref p4), a5, a6] ∧ Ex (wo d H3) (wo d H') ∧ Dig d H' ∧ H' p4 = some (.lst (iRow t f)) ∧ ∀ j, j < t → (f j).natAbs < 2 ^ 8)
        ⟨_, _, fun _ => 0, rfl, wo_new hd3 hp4, hd3.upd h4d, upd_same, fun i h => by omega⟩ ?_ ?_
      · rintro t σ' H5 ht ⟨a5', a6', f, rfl, e5, hd5, h5, hf5⟩
        rw [Nat.zero_add]
        refine ⟨_, rfl, _, rfl, _, rfl, by show 9 ≤ sizeLine; decide, fun pl hpl => ?_⟩
        have hld := hd5.ne hpl
        have e6 := wo_new (o := .lst (([0, 3, -4, 6, -8, 12, -12, 0, 2] : List Int).map V.int)) hd5 hpl
        refine ⟨_, rfl, d, 9, rfl, by decide, hd5.upd hld, fun c H6 hc e6' hd6 => ?_⟩
        have hl6 : H6 pl = some (.lst (([0, 3, -4, 6, -8, 12, -12, 0, 2] : List Int).map V.int)) := wo_keep hld e6' upd_same
        refine ⟨pl, _, _, _, rfl, rfl, SqL.of hl6, at_some (at_ints (l := [0, 3, -4, 6, -8, 12, -12, 0, 2]) hc), ?_⟩
        have hbz : (([0, 3, -4, 6, -8, 12, -12, 0, 2] : List Int)[c]'hc).natAbs < 2 ^ 8 := (by decide : ∀ z ∈ ([0, 3, -4, 6, -8, 12, -12, 0, 2] : List Int), z.natAbs < 2 ^ 8) _ (List.getElem_mem _)
        generalize ([0, 3, -4, 6, -8, 12, -12, 0, 2] : List Int)[c]'hc = z at hbz
        have e56 : Ex (wo d H5) (wo d H6) := e6.trans e6'
        have h6 := wo_keep h4d e56 h5
        have e36 := e5.trans e56
        have fin : ∀ (x : Int) (H7 : Hp), x.natAbs < 2 ^ 8 → Ex (wo d H6) (wo d H7) → Dig d H7 → ∃ l xs y, V.ref p4 = .ref l ∧ [V.int x] = [y] ∧ H7 l = some (.lst xs) ∧ xs.length < sizeLine ∧ ∃ (a5 a6 : Option V) (f : Nat → Int), ([some (.ref d), some (.int n), some (.ref p2), some (.int (k : Nat)), some (.ref p4), some (.int (t : Nat)), some (.int z)] : L2.St) = [some (.ref d), some (.int n), some (.ref p2), some (.int (k : Nat)), some (.ref p4), a5, a6] ∧ Ex (wo d H3) (wo d (upd H7 l (.lst (xs ++ [y])))) ∧ Dig d (upd H7 l (.lst (xs ++ [y]))) ∧ (upd H7 l (.lst (xs ++ [y]))) p4 = some (.lst (iRow (t + 1) f)) ∧ ∀ j, j < t + 1 → (f j).natAbs < 2 ^ 8 := fun x H7 hx e7 hd7 => by
          have h7 := wo_keep h4d e7 h6
          refine ⟨p4, _, _, rfl, rfl, h7, by rw [iRow_len]; exact lt_sz (by omega), _, _, fun j => if j = t then x else f j, rfl, wo_mut hd3 hp4 (e36.trans e7), hd7.upd h4d, ?_, fun j hj => ?_⟩
          · rw [upd_same, iRow_succ, if_pos rfl, iRow_congr (g := f) fun j hj => if_neg (by omega)]
          · show (if j = t then x else f j).natAbs < _
            split
            · exact hx
            · exact hf5 j (by omega)
        refine ⟨_, rfl, lst_ty h6, _, rfl, _, rfl, rfl, _, rfl, ?_⟩
        by_cases ck : k = t
        · subst ck
          rw [show decide (V.int ((k : Nat) : Int) = V.int ((k : Nat) : Int)) = true from decide_eq_true rfl]
          refine iteT ⟨_, rfl, d, 5, rfl, by decide, hd6, fun c2 H7 hc2 e7 hd7 => ⟨_, _, rfl, rfl, wmul (i := 12) (a := 4) (b := 3) (by decide) (by omega) (by decide) (by decide) (by decide), _, _, rfl, rfl, fin _ H7 (by omega) e7 hd7⟩⟩
        · rw [decide_eq_false (fun q => ck (by injection q with q; omega))]
          exact iteF ⟨_, rfl, fin _ H6 hbz (Evl.Ex.refl _) hd6⟩
      · rintro σ' H5 ⟨a5', a6', f, rfl, e5, hd5, h5, hf5⟩
        obtain ⟨ys, hy, hyl⟩ := (r3.ex e5).lst
        rw [wo_at h2d] at hy
        refine ⟨_, rfl, lst_ty hy, _, rfl, p2, ys, _, rfl, rfl, hy, lt_sz (by omega), _, _, _, _, fun i => if i = k then f else A i, rfl, wo_mut hd hp2 (e3.trans e5), hd5.upd h2d, ?_, fun i hi j hj => ?_⟩
        · have r3' : RX (wo d H) (wo d H3) p2 k n (fun i => if i = k then f else A i) := r3.congr fun i hi j _ => by rw [if_neg (by omega)]
          have := r3'.snoc (H' := wo d H5) e5 (wo_fresh hp4) hp40 (by rw [wo_at h4d, if_pos rfl]; exact h5) (by rw [wo_at h2d]; exact hy)
          rw [wo_upd h2d]
          exact this
        · show ((if i = k then f else A i) j).natAbs < _
          split
          · exact hf5 j hj
          · exact hb3 i (by omega) j hj
    · rintro σ' H3 ⟨a3, a4, a5, a6, A, rfl, e3, hd3, r3, hb3⟩
      refine ⟨_, rfl, by show 2 ≤ sizeLine; decide, fun tl htl => ?_⟩
      have htd := hd3.ne htl
      refine kk _ 144 A _ (e3.trans (wo_new hd3 htl)) (hd3.upd htd) ?_ (by decide) (by decide) hb3
      rw [wo_upd htd]
      exact RX.lt (r3.ex (Evl.Ex.new (wo_fresh htl))) upd_same
end
end K18
end
section
set_option Elab.async false
set_option linter.all false
set_option maxRecDepth 100000
set_option maxHeartbeats 4000000
namespace K18
open PySem PySem.Spec PyProof.Rows L2
section
variable {P : Program} {w : World} {K : PySem.W.Frag} {mg : Str → Option Value} {base : Heap} {C : Addr}
def PairP (K : PySem.W.Frag) (n : Nat) : Nat → V → Hp → Prop := fun _ v H => ∃ a b : Nat, a < b ∧ b < n ∧ TupV K H v [.int a, .int b]
theorem mono_pair {n : Nat} : Mono (PairP K n) := fun _ _ _ _ ⟨a, b, h1, h2, h3⟩ e => ⟨a, b, h1, h2, h3.ex e⟩
theorem monoD_pair {n : Nat} {D : Addr} : MonoD D (PairP K n) := fun _ _ _ _ _ hD e ⟨a, b, h1, h2, h3⟩ => ⟨a, b, h1, h2, h3.exD hD e⟩
/-- a test with some answer -/
def ST (d : Addr) (σ : L2.St) (t : TT) : Prop := ∀ H, Dig d H → ∀ Q : Bool → Hp → Prop, (∀ b H', Ex (wo d H) (wo d H') → Dig d H' → Q b H') → t σ H Q
section
variable {d : Addr} {σ : L2.St} {t u : TT} {i : Nat} {a c : Int}
theorem st_eq (h : σ[i]? = some (some (.int a))) : ST d σ (tTest (tOp rEq (tVar i) (tC (.int c)))) := fun H hd Q k => ⟨_, h, rfl, _, rfl, k _ H (Evl.Ex.refl _) hd⟩
theorem st_ne (h : σ[i]? = some (some (.int a))) : ST d σ (tTest (tOp rNe (tVar i) (tC (.int c)))) := fun H hd Q k => ⟨_, h, rfl, _, rfl, k _ H (Evl.Ex.refl _) hd⟩
theorem st_B {b : Bool} (h : σ[i]? = some (some (.bl b))) : ST d σ (tB (tVar i)) := fun H hd Q k => ⟨_, h, _, rfl, k _ H (Evl.Ex.refl _) hd⟩
theorem st_and (h : ST d σ t) (g : ST d σ u) : ST d σ (tAnd t u) := fun H hd Q k => h H hd _ fun b H' e hd' => by
  cases b with
  | true => exact iteT (g H' hd' _ fun b H2 e2 hd2 => k b H2 (e.trans e2) hd2)
  | false => exact iteF (k false H' e hd')
theorem st_or (h : ST d σ t) (g : ST d σ u) : ST d σ (tOr t u) := fun H hd Q k => h H hd _ fun b H' e hd' => by
  cases b with
  | true => exact iteT (k true H' e hd')
  | false => exact iteF (g H' hd' _ fun b H2 e2 hd2 => k b H2 (e.trans e2) hd2)
end
/-- the pairs so far -/
structure WG (K : PySem.W.Frag) (d p : Addr) (n L : Nat) (H0 H : Hp) : Prop where
  e : Ex (wo d H0) (wo d H)
  dig : Dig d H
  ex : ∃ ys, H p = some (.lst ys) ∧ At (PairP K n) ys (wo d H) ∧ ys.length ≤ L
/-- a statement that lays one pair or none -/
def SS (K : PySem.W.Frag) (d p : Addr) (n L : Nat) (H0 : Hp) (σ : L2.St) (t : TS) : Prop := ∀ (D : Ends) (H : Hp), WG K d p n L H0 H → (∀ H', WG K d p n (L + 1) H0 H' → D.nx σ H') → t D σ H
theorem ss_if {K : PySem.W.Frag} {d p : Addr} {n L : Nat} {H0 : Hp} {σ : L2.St} {c : TT} {t u : TS} (hpd : p ≠ d) (hc : ST d σ c) (ht : SS K d p n L H0 σ t) (hu : SS K d p n L H0 σ u) : SS K d p n L H0 σ (tIfS c t u) := fun D H g k => hc H g.dig _ fun b H' e hd' => by
  have g' : WG K d p n L H0 H' := ⟨g.e.trans e, hd', let ⟨ys, h1, h2, h3⟩ := g.ex; ⟨ys, wo_keep hpd e h1, h2.ex mono_pair e, h3⟩⟩
  cases b with
  | true => exact iteT (ht D H' g' k)
  | false => exact iteF (hu D H' g' k)
theorem ss_next {K : PySem.W.Frag} {d p : Addr} {n L : Nat} {H0 : Hp} {σ : L2.St} : SS K d p n L H0 σ tNext := fun D H g k => k H ⟨g.e, g.dig, let ⟨ys, h1, h2, h3⟩ := g.ex; ⟨ys, h1, h2, by omega⟩⟩
theorem ss_app {K : PySem.W.Frag} {d p : Addr} {n L : Nat} {H0 : Hp} {σ : L2.St} {a b : Nat} (hpd : p ≠ d) (hp0 : wo d H0 p = none) (hL : L < 1000) (h3 : σ[3]? = some (some (.ref p))) (h4 : σ[4]? = some (some (.int (a : Nat)))) (h5 : σ[5]? = some (some (.int (b : Nat)))) (hab : a < b) (hb : b < n) :
    SS K d p n L H0 σ (tDrop (tBM K "list" rAppend (tVar 3) (tCons (tTup (tCons (tVar 4) (tCons (tVar 5) tNil))) tNil))) := fun D H g k => by
  obtain ⟨ys, h1, h2, hl⟩ := g.ex
  refine ⟨_, h3, lst_ty h1, _, h4, _, h5, by show 2 ≤ sizeLine; decide, fun q hq => ?_⟩
  have hqd := g.dig.ne hq
  have eq := wo_new (o := .tup [.int (a : Nat), .int (b : Nat)]) g.dig hq
  have h1' : (upd H q (.tup [.int (a : Nat), .int (b : Nat)])) p = some (.lst ys) := wo_keep hpd eq h1
  refine ⟨p, ys, _, rfl, rfl, h1', lt_sz (by omega), k _ ⟨?_, (g.dig.upd hqd).upd hpd, ys ++ [.ref q], upd_same, ?_, by rw [List.length_append]; show _ + 1 ≤ _; omega⟩⟩
  · rw [wo_upd hpd]
    exact (g.e.trans eq).mut hp0
  · rw [wo_upd hpd]
    have up : ∀ b' o, b' ≠ p → (wo d (upd H q (.tup [.int (a : Nat), .int (b : Nat)]))) b' = some o → (upd (wo d (upd H q (.tup [.int (a : Nat), .int (b : Nat)]))) p (.lst (ys ++ [.ref q]))) b' = some o := fun b' o hb q => by rw [upd_ne hb]; exact q
    have hpw : wo d (upd H q (.tup [.int (a : Nat), .int (b : Nat)])) p = some (.lst ys) := by rw [wo_at hpd]; exact h1'
    refine At.snoc (monoD_pair.at_ hpw up (h2.ex mono_pair eq)) ⟨a, b, hab, hb, TupV.exD hpw up ⟨q, rfl, SqT.of ?_⟩⟩
    rw [wo_at hqd, upd_same]
def spWeb (K : PySem.W.Frag) : Sp := fun vs H Q _ => ∃ (d : Addr) (n : Nat), vs = [.ref d, .int n] ∧ n ≤ 5 ∧ Dig d H ∧ ∀ p ys H', Ex (wo d H) (wo d H') → Dig d H' → H p = none → H' p = some (.lst ys) → At (PairP K n) ys (wo d H') → ys.length ≤ 25 → Q (.ref p) H'
theorem sc_web : FnScope ["_law_digits", "_law_size_here", "_law_word", "_law_pairs", "_law_at", "_law_to", "_law_near"] ["_law_digits", "_law_size_here"] (C8.fnScope (top 71)) := C8.fnScope_by (by decide +kernel)
theorem cal_web (B : Bt mg) (D : DD K mg "_law_web" 71) (c_l_eat : C8.Cal P w K mg base 1 "_law_eat" (spEat) []) : C8.Cal P w K mg base 2 "_law_web" (spWeb K) [] := by
  refine cal_mk D sc_web (fun _ _ _ _ _ _ us hl => match us, hl with | [_, _], _ => rfl) (fun vs H Q E h => ?_) (fun f cdv A outer s H vs Q E hr h => ?_)
  · obtain ⟨d, n, rfl, _⟩ := h; rfl
  · obtain ⟨d, n, rfl, hn, hd, kk⟩ := h
    have nd := sc_web.nd
    refine ⟨_, (pss_cons (pset 2 nd (C8.pe_c c_l_eat hr (by decide) (by rfl) (pa_cons (pv 0) (pa_cons pe_int pa_nil))))
    (pss_cons (pset 3 nd (pe_lst pa_nil))
    (pss_cons (ps_for PassesOwn.never rfl (pi_range1 (by rfl) B.range (pa_cons (pv 1) pa_nil)) (pgn 4 nd)
      (pss_one (ps_for PassesOwn.never rfl (pi_range2 (by rfl) B.range (pa_cons (pe_op op_add (pv 4) pe_int) (pa_cons (pv 1) pa_nil))) (pgn 5 nd)
        (pss_cons (pset 6 nd (pe_cmpR op_eq (pv 5) (pe_op op_add (pv 4) pe_int) (nomark _)))
        (pss_one (ps_if (PW.pt (pw_and (pt_cmpR op_eq (pv 2) pe_int (nomark _)) (pw_and1 (pt_val (pv 6))))) (pss_one (ps_expr (pe_bm PySem.F.plainAttrs_list PySem.F.slot_list_append PySem.F.type_list_append mt_append (pv 3) (pa_cons (pe_tup (pa_cons (pv 4) (pa_cons (pv 5) pa_nil))) pa_nil)))) (pss_one (ps_if (PW.pt (pw_and (pt_cmpR op_eq (pv 2) pe_int (nomark _)) (pw_and1 (PW.pt (pw_or (pt_val (pv 6)) (pw_or1 (PW.pt (pw_and (pt_cmpR op_eq (pv 4) pe_int (nomark _)) (pw_and1 (pt_cmpR op_eq (pv 5) (pe_op op_sub (pv 1) pe_int) (nomark _))))))))))) (pss_one (ps_expr (pe_bm PySem.F.plainAttrs_list PySem.F.slot_list_append PySem.F.type_list_append mt_append (pv 3) (pa_cons (pe_tup (pa_cons (pv 4) (pa_cons (pv 5) pa_nil))) pa_nil)))) (pss_one (ps_if (PW.pt (pw_or (pt_cmpR op_eq (pv 2) pe_int (nomark _)) (pw_or1 (PW.pt (pw_and (pt_cmpR op_eq (pv 2) pe_int (nomark _)) (pw_and1 (pt_cmpR op_gt (C8.pe_c c_l_eat hr (by decide) (by rfl) (pa_cons (pv 0) (pa_cons pe_int pa_nil))) pe_int (nomark _)))))))) (pss_one (ps_expr (pe_bm PySem.F.plainAttrs_list PySem.F.slot_list_append PySem.F.type_list_append mt_append (pv 3) (pa_cons (pe_tup (pa_cons (pv 4) (pa_cons (pv 5) pa_nil))) pa_nil)))) (pss_one (ps_if (PW.pt (pw_and (pt_cmpR op_eq (pv 2) pe_int (nomark _)) (pw_and1 (pt_cmpR op_eq (pv 4) pe_int (nomark _))))) (pss_one (ps_expr (pe_bm PySem.F.plainAttrs_list PySem.F.slot_list_append PySem.F.type_list_append mt_append (pv 3) (pa_cons (pe_tup (pa_cons (pv 4) (pa_cons (pv 5) pa_nil))) pa_nil)))) (pss_one (ps_if (PW.pt (pw_and (pt_cmpR op_eq (pv 2) pe_int (nomark _)) (pw_and (pt_val (pv 6)) (pw_and1 (pt_cmpR op_ne (pv 4) pe_int (nomark _)))))) (pss_one (ps_expr (pe_bm PySem.F.plainAttrs_list PySem.F.slot_list_append PySem.F.type_list_append mt_append (pv 3) (pa_cons (pe_tup (pa_cons (pv 4) (pa_cons (pv 5) pa_nil))) pa_nil)))) pss_nil))))))))))))))
    (pss_one (ps_ret (pv 3)))))), ?_⟩
    refine ⟨_, rfl, d, 6, rfl, by decide, hd, fun wd H1 _ e1 hd1 => ?_⟩
    refine ⟨by decide, fun p hp => ?_⟩
    have hpd := hd1.ne hp
    have hp0 : wo d H p = none := Evl.fresh_back e1 (wo_fresh hp)
    have hpH : H p = none := by rw [wo_at hpd] at hp0; exact hp0
    refine ⟨_, rfl, _, rfl, by omega, by omega, ?_⟩
    refine for_rg (a := 0) rfl (by omega : (n : Int).toNat = n) (Pv := fun i σ' H' => ∃ (a4 a5 a6 : Option V) (ys : List V), σ' = [some (.ref d), some (.int n), some (.int wd), some (.ref p), a4, a5, a6] ∧ Ex (wo d H) (wo d H') ∧ Dig d H' ∧ H' p = some (.lst ys) ∧ At (PairP K n) ys (wo d H') ∧ ys.length ≤ i * 5)
      ⟨_, _, _, [], rfl, e1.trans (wo_new hd1 hp), hd1.upd hpd, upd_same, At.nil, Nat.zero_le _⟩ ?_ ?_
    · rintro i σ' H2 hi ⟨a4, a5, a6, ys, rfl, e2, hd2, h2, ha2, hl2⟩
      rw [Nat.zero_add]
      refine ⟨_, rfl, _, _, rfl, rfl, _, rfl, _, _, rfl, ⟨by omega, by omega, by omega, by omega⟩, ?_⟩
      refine for_rg (a := i + 1) (show ((i : Int) + 1) = ((i + 1 : Nat) : Int) from rfl) (by show ((n : Int) - ((i : Int) + 1)).toNat = n - (i + 1); omega) (Pv := fun j σ' H' => ∃ (a5 a6 : Option V) (ys : List V), σ' = [some (.ref d), some (.int n), some (.int wd), some (.ref p), some (.int (i : Nat)), a5, a6] ∧ Ex (wo d H) (wo d H') ∧ Dig d H' ∧ H' p = some (.lst ys) ∧ At (PairP K n) ys (wo d H') ∧ ys.length ≤ i * 5 + j)
        ⟨_, _, ys, rfl, e2, hd2, h2, ha2, hl2⟩ ?_ ?_
      · rintro j σ' H3 hj ⟨a5', a6', ys3, rfl, e3, hd3, h3, ha3, hl3⟩
        refine ⟨_, rfl, _, rfl, _, _, rfl, rfl, rfl, ?_⟩
        have hjn : i + 1 + j < n := by omega
        generalize hnear : decide (V.int ((i + 1 + j : Nat) : Int) = (fun i j => V.int (i + j)) (i : Int) 1) = near
        have app := ss_app (K := K) (L := i * 5 + j) (H0 := H) (σ := [some (.ref d), some (.int n), some (.int wd), some (.ref p), some (.int (i : Nat)), some (.int ((i + 1 + j : Nat) : Int)), some (.bl near)]) hpd hp0 (by omega) rfl rfl rfl (by omega : i < i + 1 + j) hjn
        refine ss_if hpd (st_and (st_eq rfl) (st_B rfl)) app (ss_if hpd (st_and (st_eq rfl) (st_or (st_B rfl) (st_and (st_eq rfl) ?_))) app (ss_if hpd (st_or (st_eq rfl) (st_and (st_eq rfl) ?_)) app (ss_if hpd (st_and (st_eq rfl) (st_eq rfl)) app (ss_if hpd (st_and (st_eq rfl) (st_and (st_B rfl) (st_ne rfl))) app ss_next)))) _ H3 ⟨e3, hd3, ys3, h3, ha3, hl3⟩ fun H4 g => ?_
        · exact fun H hd Q k => ⟨_, rfl, _, rfl, _, _, rfl, rfl, rfl, _, rfl, k _ H (Evl.Ex.refl _) hd⟩
        · exact fun H hd Q k => ⟨_, rfl, d, 3, rfl, by decide, hd, fun c H' _ e hd' => ⟨_, _, rfl, rfl, _, rfl, k _ H' e hd'⟩⟩
        · obtain ⟨ys4, h1, h2', h3'⟩ := g.ex
          exact ⟨_, _, ys4, rfl, g.e, g.dig, h1, h2', by omega⟩
      · rintro σ' H3 ⟨a5', a6', ys3, rfl, e3, hd3, h3, ha3, hl3⟩
        exact ⟨_, _, _, ys3, rfl, e3, hd3, h3, ha3, by rw [Nat.add_mul]; omega⟩
    · rintro σ' H2 ⟨a4, a5, a6, ys, rfl, e2, hd2, h2, ha2, hl2⟩
      exact ⟨_, rfl, kk p ys H2 e2 hd2 hpH h2 ha2 (by omega)⟩
end
end K18
end
section
set_option Elab.async false
set_option linter.all false
set_option maxRecDepth 100000
set_option maxHeartbeats 4000000
namespace K18
open PySem PySem.Spec PyProof.Rows L2
section
variable {H0 H : Hp} {p d : Addr} {n m i j : Nat} {A : Mth.Mat}
theorem RX.sans (h : RX H0 H p n m A) (hd : Dig d H0) (hp : H0 p = none) : RX (wo d H0) (wo d H) p n m A := by
  obtain ⟨qs, h1, h2, h3, h4, h5⟩ := h
  refine ⟨qs, by rw [wo_at (hd.ne hp)]; exact h1, h2, h3, fun q hq => ⟨(h4 q hq).1, wo_fresh (h4 q hq).2⟩, fun i q hq => ?_⟩
  rw [wo_at (hd.ne (h4 q (List.mem_of_getElem? hq)).2)]
  exact h5 i q hq
theorem RX.avoid {x : Addr} {o : HO} (h : RX H0 H p n m A) (hx : H x = none) : RX (L2.upd H0 x o) H p n m A := by
  obtain ⟨qs, h1, h2, h3, h4, h5⟩ := h
  refine ⟨qs, h1, h2, h3, fun q hq => ⟨(h4 q hq).1, ?_⟩, h5⟩
  obtain ⟨k, hk, ek⟩ := List.mem_iff_getElem.mp hq
  have := h5 k q (by rw [List.getElem?_eq_getElem hk, ek])
  rw [upd_ne (fun z => by rw [z, hx] at this; cases this)]
  exact (h4 q hq).2
theorem RX.unbase {x : Addr} {o : HO} (h : RX (L2.upd H0 x o) H p n m A) (hx : H0 x = none) : RX H0 H p n m A := h.base fun q hq => by
  by_cases e : q = x
  · rw [e]; exact hx
  · rw [upd_ne e] at hq; exact hq
theorem RX.setw (h : RX H0 (wo d H) p n m A) (hi : i < n) : ∃ qs q, H p = some (.lst qs) ∧ qs.length = n ∧ qs[i]? = some (.ref q) ∧ q ≠ p ∧ q ≠ d ∧ H0 q = none ∧ H q = some (.lst (iRow m (A i))) ∧
    ∀ x j, j < m → RX H0 (wo d (L2.upd H q (.lst ((iRow m (A i)).set j (.int x))))) p n m (fun r c => if r = i ∧ c = j then x else A r c) := by
  obtain ⟨qs, q, h1, h2, h3, h4, h5, h6, h7⟩ := h.row hi
  have hqd : q ≠ d := fun z => by rw [z, wo_none] at h6; cases h6
  have hpd : p ≠ d := fun z => by rw [z, wo_none] at h1; cases h1
  rw [wo_at hpd] at h1
  rw [wo_at hqd] at h6
  exact ⟨qs, q, h1, h2, h3, h4, hqd, h5, h6, fun x j hj => by rw [wo_upd hqd]; exact h7 x j hj⟩
end
section
variable {P : Program} {w : World} {K : PySem.W.Frag} {mg : Str → Option Value} {base : Heap} {C : Addr}
def spSparse : Sp := fun vs H Q _ => ∃ (d hp : Addr) (n : Nat) (f : Nat → Int), vs = [.ref d, .int n, .ref hp] ∧ n ≤ 5 ∧ Dig d H ∧ hp ≠ d ∧ H hp = some (.lst (iRow n f)) ∧ (∀ i, i < n → 1 ≤ f i ∧ f i ≤ 3) ∧ LTd d H Q n
theorem sc_sparse : FnScope ["_law_digits", "_law_size_here", "_law_heavy_here", "_law_rows_here", "_law_pair", "_law_link", "_law_at", "_law_to"] ["_law_digits", "_law_size_here", "_law_heavy_here"] (C8.fnScope (top 72)) := C8.fnScope_by (by decide +kernel)
theorem cal_sparse (B : Bt mg) (D : DD K mg "_law_sparse" 72) (c_l_web : C8.Cal P w K mg base 2 "_law_web" (spWeb K) []) (c_l_eat : C8.Cal P w K mg base 1 "_law_eat" (spEat) []) : C8.Cal P w K mg base 3 "_law_sparse" (spSparse) [] := by
  refine cal_mk D sc_sparse (fun _ _ _ _ _ _ us hl => match us, hl with | [_, _, _], _ => rfl) (fun vs H Q E h => ?_) (fun f cdv A outer s H vs Q E hr h => ?_)
  · obtain ⟨d, hp, n, f, rfl, _⟩ := h; rfl
  · obtain ⟨d, ph, n, f, rfl, hn, hd, hphd, hph, hf, kk⟩ := h
    have nd := sc_sparse.nd
    refine ⟨_, (pss_cons (ps_setLc (i := 3) (own := [("_law_at", 6)]) rfl nd rfl rfl (sw_true rfl rfl rfl (by decide +kernel)) (pi_range1 (by rfl) B.range (pa_cons (pv 1) pa_nil)) (blkOk_by (own := [("_law_at", 6)]) (N := ["_law_digits", "_law_size_here", "_law_heavy_here", "_law_rows_here", "_law_pair", "_law_link", "_law_at", "_law_to"]) (by kernel_rfl)) (fun _ _ _ _ _ => (pgn 6 nd)) (fun _ _ _ _ _ => pts_nil) (fun _ _ _ _ _ => (pe_lc (own := [("_law_to", 7)]) rfl nd (pi_range1 (by rfl) B.range (pa_cons (pv 1) pa_nil)) (blkOk_by (own := [("_law_to", 7)]) (N := ["_law_digits", "_law_size_here", "_law_heavy_here", "_law_rows_here", "_law_pair", "_law_link", "_law_at", "_law_to"]) (by kernel_rfl)) (fun _ _ _ _ _ => (pgn 7 nd)) (fun _ _ _ _ _ => pts_nil) (fun _ _ _ _ _ => pe_int))))
    (pss_cons (ps_for PassesOwn.never rfl (pi_listK K (C8.pe_c c_l_web hr (by decide) (by rfl) (pa_cons (pv 0) (pa_cons (pv 1) pa_nil)))) (pgn 4 nd)
      (pss_cons (pset 5 nd (pe_ix (ix_listK K) (pe_lst (pa_cons pe_int (pa_cons (pe_un un_neg pe_int) (pa_cons pe_int (pa_cons (pe_un un_neg pe_int) pa_nil))))) (C8.pe_c c_l_eat hr (by decide) (by rfl) (pa_cons (pv 0) (pa_cons pe_int pa_nil))) (fun _ _ => rfl)))
      (pss_cons (ps_asg (pe_op op_fdivZ (pe_op op_mulW (pv 5) pe_int) (pe_ix (ix_listK K) (pv 2) (pe_ix (ix_tupK K) (pv 4) pe_int (fun _ _ => rfl)) (fun _ _ => rfl))) (pg_sub (pe_ix (ix_listK K) (pv 3) (pe_ix (ix_tupK K) (pv 4) pe_int (fun _ _ => rfl)) (fun _ _ => rfl)) (pe_ix (ix_tupK K) (pv 4) pe_int (fun _ _ => rfl)) set_list))
      (pss_one (ps_asg (pe_op op_fdivZ (pe_op op_mulW (pv 5) pe_int) (pe_ix (ix_listK K) (pv 2) (pe_ix (ix_tupK K) (pv 4) pe_int (fun _ _ => rfl)) (fun _ _ => rfl))) (pg_sub (pe_ix (ix_listK K) (pv 3) (pe_ix (ix_tupK K) (pv 4) pe_int (fun _ _ => rfl)) (fun _ _ => rfl)) (pe_ix (ix_tupK K) (pv 4) pe_int (fun _ _ => rfl)) set_list))))))
    (pss_cons (ps_for PassesOwn.never rfl (pi_range1 (by rfl) B.range (pa_cons (pv 1) pa_nil)) (pgn 6 nd)
      (pss_one (ps_asg (pe_op op_add pe_int (pe_op op_mulW pe_int (C8.pe_c c_l_eat hr (by decide) (by rfl) (pa_cons (pv 0) (pa_cons pe_int pa_nil))))) (pg_sub (pe_ix (ix_listK K) (pv 3) (pv 6) (fun _ _ => rfl)) (pv 6) set_list))))
    (pss_one (ps_ret (pe_lst (pa_cons pe_int (pa_cons (pv 3) pa_nil)))))))), ?_⟩
    refine ⟨_, rfl, _, rfl, by omega, by omega, fun D hD => ?_⟩
    have hDd := hd.ne hD
    refine lcX walk_rng gm_true (lt_sz (by omega)) (m := n) (fun _ _ => 0) hD True.intro ?_ ?_
    · rintro i x H2 H2' Kt hi e2 _ ⟨rfl, rfl⟩ kt
      refine ⟨rfl, _, rfl, _, rfl, by omega, by omega, fun D2 hD2 => ?_⟩
      refine lcA walk_rng gm_true (lt_sz (by omega)) (P := fun j v _ => v = .int 0) mono_eq monoD_eq hD2 True.intro ?_ ?_
      · rintro j x H3 H3' Kt' hj e3 _ ⟨rfl, rfl⟩ _ kt'
        exact ⟨rfl, kt' _ _ (Evl.Ex.refl _) rfl⟩
      · intro H5 es' e5 h5 hl5 ha5
        rw [at_eq ha5 hl5] at h5
        exact kt D2 H5 e5 hD2 h5
    intro H5 e5 r5
    have hd5 := hd.ex e5
    have r5w := RX.sans (n := n) r5 hd hD
    refine ⟨_, rfl, _, rfl, d, n, rfl, hn, hd5, fun pw ys H6 e6 hd6 hpw5 hpw ha6 hly => ?_⟩
    have hpwd := hd5.ne hpw5
    have r6 := (r5w.avoid (o := .lst ys) (wo_fresh (d := d) hpw5)).ex e6
    refine ⟨pw, rfl, ⟨_, SqL.of hpw⟩, ?_⟩
    have e06 : Ex (wo d H) (wo d H6) := (wo_ex e5).trans e6
    have hpw0 : wo d H pw = none := Evl.fresh_back (wo_ex e5) (wo_fresh hpw5)
    refine for_it walk_list (Pv := fun i σ' H' => ∃ (a4 a5 : Option V) (A : Mth.Mat), σ' = [some (.ref d), some (.int n), some (.ref ph), some (.ref D), a4, a5, none, none] ∧ Ex (wo d H) (wo d H') ∧ Dig d H' ∧ RX (upd (wo d H) pw (.lst ys)) (wo d H') D n n A ∧ (∀ i, i < n → ∀ j, j < n → (A i j).natAbs < 2 ^ 8) ∧ H' pw = some (.lst ys) ∧ At (PairP K n) ys (wo d H'))
      ⟨_, _, _, rfl, e06, hd6, r6, fun _ _ _ _ => by show 0 < 2 ^ 8; decide, hpw, ha6⟩ (fun i σ' H' _ h => by obtain ⟨_, _, _, _, _, _, _, _, h, _⟩ := h; exact SqL.of h) ?_ ?_
    · rintro i x σ' H7 H7' hi ⟨a4, a5, A, rfl, e7, hd7, r7, hA7, hpw7, ha7⟩ ⟨rfl, ex⟩
      obtain ⟨a, b, hab, hbn, pt, rfl, hpt⟩ := ha7 i x ex
      have han : a < n := by omega
      refine ⟨_, rfl, _, rfl, by show 4 ≤ sizeLine; decide, fun pl hpl => ?_⟩
      have hld := hd7.ne hpl
      have e8 := wo_new (o := .lst (([1, -1, 2, -2] : List Int).map V.int)) hd7 hpl
      refine ⟨_, rfl, d, 4, rfl, by decide, hd7.upd hld, fun c H8 hc e8' hd8 => ?_⟩
      have hl8 : H8 pl = some (.lst (([1, -1, 2, -2] : List Int).map V.int)) := wo_keep hld e8' upd_same
      refine ⟨pl, _, _, _, rfl, rfl, SqL.of hl8, at_some (at_ints (l := [1, -1, 2, -2]) hc), ?_⟩
      have hbz : (([1, -1, 2, -2] : List Int)[c]'hc).natAbs < 2 ^ 2 := (by decide : ∀ z ∈ ([1, -1, 2, -2] : List Int), z.natAbs < 2 ^ 2) _ (List.getElem_mem _)
      generalize ([1, -1, 2, -2] : List Int)[c]'hc = z at hbz
      have e78 : Ex (wo d H7') (wo d H8) := e8.trans e8'
      have hpt8 := Evl.ex_t e78 hpt
      have e08 := e7.trans e78
      have hph8 : H8 ph = some (.lst (iRow n f)) := wo_keep hphd e08 hph
      have r8 := r7.ex e78
      have hpw8 : H8 pw = some (.lst ys) := wo_keep hpwd e78 hpw7
      have ha8 := ha7.ex mono_pair e78
      have hval : ∀ r, r < n → ((z * 6).fdiv (f r)).natAbs < 2 ^ 8 := fun r hr => by
        have hfr := hf r hr
        exact Nat.lt_of_le_of_lt (fdiv_le (by omega)) (by omega)
      -- the first entry
      obtain ⟨qs, q, h1, h2, h3, h4, h5, h6, h7, h8⟩ := r8.setw han
      have hqpw : q ≠ pw := fun zz => by rw [zz, upd_same] at h6; cases h6
      have hphpw : ph ≠ pw := fun z2 => by
        have := e5 _ _ hph
        rw [z2, hpw5] at this
        cases this
      have hqph : q ≠ ph := fun zz => by
        rw [zz, upd_ne hphpw, wo_at hphd, hph] at h6
        cases h6
      have hq0 : wo d H q = none := by rw [upd_ne hqpw] at h6; exact h6
      have hf1 := hf a han
      have hf2 := hf b hbn
      refine ⟨_, rfl, _, _, rfl, rfl, wmul hbz (j := 6) (b := 3) (by decide) (by decide) (by decide) (by decide), _, rfl, _, rfl, pt, _, 0, _, rfl, rfl, Evl.ex_t wo_sub hpt8, rfl, ph, _, _, _, rfl, rfl, SqL.of hph8, at_some (iRow_at han), _, _, rfl, rfl, cdivz (by omega) (Nat.lt_of_le_of_lt (by omega : (f a).natAbs ≤ 3) (Mth.lt_mono (a := 2) (by decide) (by decide))), ?_⟩
      refine ⟨_, rfl, _, rfl, pt, _, 0, _, rfl, rfl, Evl.ex_t wo_sub hpt8, rfl, D, qs, _, _, rfl, rfl, SqL.of h1, at_some h3, _, rfl, pt, _, 1, _, rfl, rfl, Evl.ex_t wo_sub hpt8, rfl, q, _, _, b, rfl, rfl, h7, Evl.ixN_nat (by rw [iRow_len]; exact hbn), ?_⟩
      have r9 := h8 ((z * 6).fdiv (f a)) b hbn
      have hd9 : Dig d (upd H8 q (.lst ((iRow n (A a)).set b (.int ((z * 6).fdiv (f a)))))) := hd8.upd h5
      have e09 : Ex (wo d H) (wo d (upd H8 q (.lst ((iRow n (A a)).set b (.int ((z * 6).fdiv (f a))))))) := by rw [wo_upd h5]; exact e08.mut hq0
      have hpt9 : SqT K (wo d (upd H8 q (.lst ((iRow n (A a)).set b (.int ((z * 6).fdiv (f a))))))) pt [.int (a : Nat), .int (b : Nat)] := by
        rw [wo_upd h5]
        exact SqT.exD (D := q) (ys := iRow n (A a)) (by rw [wo_at h5]; exact h7) (fun b' o hb' hq => by rw [upd_ne hb']; exact hq) hpt8
      have ha9 : At (PairP K n) ys (wo d (upd H8 q (.lst ((iRow n (A a)).set b (.int ((z * 6).fdiv (f a))))))) := by
        rw [wo_upd h5]
        exact monoD_pair.at_ (D := q) (ys := iRow n (A a)) (by rw [wo_at h5]; exact h7) (fun b' o hb' hq => by rw [upd_ne hb']; exact hq) ha8
      have hpw9 : (upd H8 q (.lst ((iRow n (A a)).set b (.int ((z * 6).fdiv (f a)))))) pw = some (.lst ys) := by rw [upd_ne (fun zz => hqpw zz.symm)]; exact hpw8
      have hph9 : (upd H8 q (.lst ((iRow n (A a)).set b (.int ((z * 6).fdiv (f a)))))) ph = some (.lst (iRow n f)) := by rw [upd_ne (fun zz => hqph zz.symm)]; exact hph8
      generalize upd H8 q (.lst ((iRow n (A a)).set b (.int ((z * 6).fdiv (f a))))) = H9 at *
      -- the second
      obtain ⟨qs', q', g1, g2, g3, g4, g5, g6, g7, g8⟩ := r9.setw hbn
      have hqpw' : q' ≠ pw := fun zz => by rw [zz, upd_same] at g6; cases g6
      have hq0' : wo d H q' = none := by rw [upd_ne hqpw'] at g6; exact g6
      refine ⟨_, rfl, _, _, rfl, rfl, wmul hbz (j := 6) (b := 3) (by decide) (by decide) (by decide) (by decide), _, rfl, _, rfl, pt, _, 1, _, rfl, rfl, Evl.ex_t wo_sub hpt9, rfl, ph, _, _, _, rfl, rfl, SqL.of hph9, at_some (iRow_at hbn), _, _, rfl, rfl, cdivz (by omega) (Nat.lt_of_le_of_lt (by omega : (f b).natAbs ≤ 3) (Mth.lt_mono (a := 2) (by decide) (by decide))), ?_⟩
      refine ⟨_, rfl, _, rfl, pt, _, 1, _, rfl, rfl, Evl.ex_t wo_sub hpt9, rfl, D, qs', _, _, rfl, rfl, SqL.of g1, at_some g3, _, rfl, pt, _, 0, _, rfl, rfl, Evl.ex_t wo_sub hpt9, rfl, q', _, _, a, rfl, rfl, g7, Evl.ixN_nat (by rw [iRow_len]; exact han), ?_⟩
      refine ⟨_, _, _, rfl, by rw [wo_upd g5]; exact e09.mut hq0', hd9.upd g5, g8 ((z * 6).fdiv (f b)) a han, fun r hr c' hc' => ?_, by rw [upd_ne (fun zz => hqpw' zz.symm)]; exact hpw9, ?_⟩
      · show (if r = b ∧ c' = a then (z * 6).fdiv (f b) else if r = a ∧ c' = b then (z * 6).fdiv (f a) else A r c').natAbs < _
        split
        · exact hval b hbn
        · split
          · exact hval a han
          · exact hA7 r hr c' hc'
      · rw [wo_upd g5]
        exact monoD_pair.at_ (D := q') (by rw [wo_at g5]; exact g7) (fun b' o hb' hq => by rw [upd_ne hb']; exact hq) ha9
    · rintro σ' H7 ⟨a4, a5, A, rfl, e7, hd7, r7, hA7, hpw7, ha7⟩
      have r7' := r7.unbase hpw0
      refine ⟨_, rfl, _, rfl, by omega, by omega, ?_⟩
      refine for_rg (a := 0) rfl (by omega : (n : Int).toNat = n) (Pv := fun k σ' H' => ∃ (a6 : Option V) (A : Mth.Mat), σ' = [some (.ref d), some (.int n), some (.ref ph), some (.ref D), a4, a5, a6, none] ∧ Ex (wo d H) (wo d H') ∧ Dig d H' ∧ RX (wo d H) (wo d H') D n n A ∧ (∀ i, i < n → ∀ j, j < n → (A i j).natAbs < 2 ^ 8))
        ⟨_, A, rfl, e7, hd7, r7', hA7⟩ ?_ ?_
      · rintro k σ' H8 hk ⟨a6, A8, rfl, e8, hd8, r8, hA8⟩
        rw [Nat.zero_add]
        refine ⟨_, rfl, d, 5, rfl, by decide, hd8, fun c H9 hc e9 hd9 => ?_⟩
        obtain ⟨qs, q, h1, h2, h3, h4, h5, h6, h7, h8⟩ := (r8.ex e9).setw hk
        refine ⟨_, _, rfl, rfl, wmul (i := 12) (a := 4) (b := 3) (by decide) (by omega) (by decide) (by decide) (by decide), _, _, rfl, rfl, ?_⟩
        refine ⟨_, rfl, _, rfl, D, qs, _, _, rfl, rfl, SqL.of h1, at_some h3, _, rfl, q, _, _, k, rfl, rfl, h7, Evl.ixN_nat (by rw [iRow_len]; exact hk), ?_⟩
        refine ⟨_, _, rfl, by rw [wo_upd h5]; exact (e8.trans e9).mut h6, hd9.upd h5, h8 _ k hk, fun r hr c' hc' => ?_⟩
        show (if r = k ∧ c' = k then _ else A8 r c').natAbs < _
        split
        · show (48 + 12 * (c : Int)).natAbs < _; omega
        · exact hA8 r hr c' hc'
      · rintro σ' H8 ⟨a6, A8, rfl, e8, hd8, r8, hA8⟩
        refine ⟨_, rfl, by show 2 ≤ sizeLine; decide, fun tl htl => ?_⟩
        have htd := hd8.ne htl
        refine kk _ 144 A8 _ (e8.trans (wo_new hd8 htl)) (hd8.upd htd) ?_ (by decide) (by decide) hA8
        rw [wo_upd htd]
        exact RX.lt (r8.ex (Evl.Ex.new (wo_fresh htl))) upd_same
end
end K18
end
section
set_option Elab.async false
set_option linter.all false
set_option maxRecDepth 100000
set_option maxHeartbeats 4000000
namespace K18
open PySem PySem.Spec PyProof.Rows L2
theorem sum_bd {F : Nat → Int} (h : ∀ i, 0 ≤ F i ∧ F i ≤ 12) : ∀ n : Nat, 0 ≤ ((List.range n).map F).sum ∧ ((List.range n).map F).sum ≤ 12 * n
  | 0 => ⟨Int.le_refl _, Int.le_refl _⟩
  | n + 1 => by
    have ih := sum_bd h n
    have := h n
    rw [List.range_succ, List.map_append, List.sum_append]
    show 0 ≤ _ + (F n + 0) ∧ _ + (F n + 0) ≤ _
    omega
theorem iRow_ints {n : Nat} {F : Nat → Int} : iRow n F = ((List.range n).map F).map V.int := by unfold iRow; rw [List.map_map]; rfl
theorem sq_bd {g f : Int} (hg : g.natAbs ≤ 2) (hf : 1 ≤ f ∧ f ≤ 3) : 0 ≤ g * g * f ∧ g * g * f ≤ 12 := by
  have h1 : g = -2 ∨ g = -1 ∨ g = 0 ∨ g = 1 ∨ g = 2 := by omega
  have h2 : f = 1 ∨ f = 2 ∨ f = 3 := by omega
  rcases h1 with rfl | rfl | rfl | rfl | rfl <;> rcases h2 with rfl | rfl | rfl <;> decide
theorem pr_bd {g h f : Int} (hg : g.natAbs ≤ 2) (hh : h.natAbs ≤ 2) (hf : 1 ≤ f ∧ f ≤ 3) : (g * h * f).natAbs ≤ 12 := by
  have h1 : g = -2 ∨ g = -1 ∨ g = 0 ∨ g = 1 ∨ g = 2 := by omega
  have h3 : h = -2 ∨ h = -1 ∨ h = 0 ∨ h = 1 ∨ h = 2 := by omega
  have h2 : f = 1 ∨ f = 2 ∨ f = 3 := by omega
  rcases h1 with rfl | rfl | rfl | rfl | rfl <;> rcases h3 with rfl | rfl | rfl | rfl | rfl <;> rcases h2 with rfl | rfl | rfl <;> decide
section
variable {P : Program} {w : World} {K : PySem.W.Frag} {mg : Str → Option Value} {base : Heap} {C : Addr}
def spPlain : Sp := fun vs H Q _ => ∃ (d : Addr) (n : Nat), vs = [.ref d, .int n] ∧ n ≤ 5 ∧ Dig d H ∧ LTd d H Q n
theorem sc_plain : FnScope ["_law_draws_here", "_law_size_here", "_law_heavy_here", "_law_word", "_law_line", "_law_below", "_law_rows_here", "_law_at", "_law_to"] ["_law_draws_here", "_law_size_here"] (C8.fnScope (top 79)) := C8.fnScope_by (by decide +kernel)
theorem cal_plain (B : Bt mg) (D : DD K mg "_law_plain" 79) (c_l_heavy : C8.Cal P w K mg base 2 "_law_heavy" (spHeavy) []) (c_l_eat : C8.Cal P w K mg base 1 "_law_eat" (spEat) []) (c_l_sparse : C8.Cal P w K mg base 3 "_law_sparse" (spSparse) []) : C8.Cal P w K mg base 4 "_law_plain" (spPlain) [] := by
  refine cal_mk D sc_plain (fun _ _ _ _ _ _ us hl => match us, hl with | [_, _], _ => rfl) (fun vs H Q E h => ?_) (fun f cdv A outer s H vs Q E hr h => ?_)
  · obtain ⟨d, n, rfl, _⟩ := h; rfl
  · obtain ⟨d, n, rfl, hn, hd, kk⟩ := h
    have nd := sc_plain.nd
    refine ⟨_, (pss_cons (pset 2 nd (C8.pe_c c_l_heavy hr (by decide) (by rfl) (pa_cons (pv 0) (pa_cons (pv 1) pa_nil))))
    (pss_cons (pset 3 nd (C8.pe_c c_l_eat hr (by decide) (by rfl) (pa_cons (pv 0) (pa_cons pe_int pa_nil))))
    (pss_cons (ps_if (pt_cmpR op_lt (pv 3) pe_int (nomark _)) (pss_one (ps_ret (C8.pe_c c_l_sparse hr (by decide) (by rfl) (pa_cons (pv 0) (pa_cons (pv 1) (pa_cons (pv 2) pa_nil)))))) pss_nil)
    (pss_cons (pset 4 nd (pe_lc (own := [("_law_at", 7)]) rfl nd (pi_range1 (by rfl) B.range (pa_cons (pv 1) pa_nil)) (blkOk_by (own := [("_law_at", 7)]) (N := ["_law_draws_here", "_law_size_here", "_law_heavy_here", "_law_word", "_law_line", "_law_below", "_law_rows_here", "_law_at", "_law_to"]) (by kernel_rfl)) (fun _ _ _ _ _ => (pgn 7 nd)) (fun _ _ _ _ _ => pts_nil) (fun _ _ _ _ _ => (pe_ix (ix_listK K) (pe_lst (pa_cons pe_int (pa_cons pe_int (pa_cons (pe_un un_neg pe_int) (pa_cons pe_int pa_nil))))) (C8.pe_c c_l_eat hr (by decide) (by rfl) (pa_cons (pv 0) (pa_cons pe_int pa_nil))) (fun _ _ => rfl)))))
    (pss_cons (pset 5 nd (pe_callB (call_max2 rfl) (by rfl) B.max PyProof.Rows.boot_max (pa_cons pe_int (pa_cons (pe_callB (cr_sumK K rfl) (by rfl) B.sum PyProof.Rows.boot_sum (pa_cons (pe_lc (own := [("_law_at", 7)]) rfl nd (pi_range1 (by rfl) B.range (pa_cons (pv 1) pa_nil)) (blkOk_by (own := [("_law_at", 7)]) (N := ["_law_draws_here", "_law_size_here", "_law_heavy_here", "_law_word", "_law_line", "_law_below", "_law_rows_here", "_law_at", "_law_to"]) (by kernel_rfl)) (fun _ _ _ _ _ => (pgn 7 nd)) (fun _ _ _ _ _ => pts_nil) (fun _ _ _ _ _ => (pe_op op_mulW (pe_op op_mulW (pe_ix (ix_listK K) (pv 4) (pv 7) (fun _ _ => rfl)) (pe_ix (ix_listK K) (pv 4) (pv 7) (fun _ _ => rfl))) (pe_ix (ix_listK K) (pv 2) (pv 7) (fun _ _ => rfl))))) pa_nil)) pa_nil))))
    (pss_cons (pset 6 nd (pe_lc (own := [("_law_at", 7)]) rfl nd (pi_range1 (by rfl) B.range (pa_cons (pv 1) pa_nil)) (blkOk_by (own := [("_law_at", 7)]) (N := ["_law_draws_here", "_law_size_here", "_law_heavy_here", "_law_word", "_law_line", "_law_below", "_law_rows_here", "_law_at", "_law_to"]) (by kernel_rfl)) (fun _ _ _ _ _ => (pgn 7 nd)) (fun _ _ _ _ _ => pts_nil) (fun _ _ _ _ _ => (pe_lc (own := [("_law_to", 8)]) rfl nd (pi_range1 (by rfl) B.range (pa_cons (pv 1) pa_nil)) (blkOk_by (own := [("_law_to", 8)]) (N := ["_law_draws_here", "_law_size_here", "_law_heavy_here", "_law_word", "_law_line", "_law_below", "_law_rows_here", "_law_at", "_law_to"]) (by kernel_rfl)) (fun _ _ _ _ _ => (pgn 8 nd)) (fun _ _ _ _ _ => pts_nil) (fun _ _ _ _ _ => (pe_op op_mulW (pe_op op_mulW (pe_ix (ix_listK K) (pv 4) (pv 7) (fun _ _ => rfl)) (pe_ix (ix_listK K) (pv 4) (pv 8) (fun _ _ => rfl))) (pe_ix (ix_listK K) (pv 2) (pv 8) (fun _ _ => rfl))))))))
    (C8.pss_cut (ps_if (pt_cmpR op_eq (pv 3) pe_int (nomark _)) (pss_one (pset 6 nd (pe_lc (own := [("_law_at", 7)]) rfl nd (pi_range1 (by rfl) B.range (pa_cons (pv 1) pa_nil)) (blkOk_by (own := [("_law_at", 7)]) (N := ["_law_draws_here", "_law_size_here", "_law_heavy_here", "_law_word", "_law_line", "_law_below", "_law_rows_here", "_law_at", "_law_to"]) (by kernel_rfl)) (fun _ _ _ _ _ => (pgn 7 nd)) (fun _ _ _ _ _ => pts_nil) (fun _ _ _ _ _ => (pe_lc (own := [("_law_to", 8)]) rfl nd (pi_range1 (by rfl) B.range (pa_cons (pv 1) pa_nil)) (blkOk_by (own := [("_law_to", 8)]) (N := ["_law_draws_here", "_law_size_here", "_law_heavy_here", "_law_word", "_law_line", "_law_below", "_law_rows_here", "_law_at", "_law_to"]) (by kernel_rfl)) (fun _ _ _ _ _ => (pgn 8 nd)) (fun _ _ _ _ _ => pts_nil) (fun _ _ _ _ _ => (pe_op op_sub (pe_op op_mulW (pv 5) (pe_callTy call_int1 (by rfl) B.int PyProof.Rows.boot_int (pa_cons (pe_cmpR op_eq (pv 7) (pv 8) (nomark _)) pa_nil))) (pe_ix (ix_listK K) (pe_ix (ix_listK K) (pv 6) (pv 7) (fun _ _ => rfl)) (pv 8) (fun _ _ => rfl))))))))) pss_nil)
    (pss_one (ps_ret (pe_lst (pa_cons (pv 5) (pa_cons (pv 6) pa_nil)))))))))))), ?_⟩
    refine ⟨_, rfl, _, rfl, d, n, rfl, by omega, hd, fun ph f H1 e1 hd1 hph0 hph1 hf => ?_⟩
    have hphd := hd.ne hph0
    refine ⟨_, rfl, d, 4, rfl, by decide, hd1, fun wd H2 hw e2 hd2 => ?_⟩
    have e12 := e1.trans e2
    have hph2 := wo_keep hphd e2 hph1
    refine ⟨_, rfl, _, _, rfl, rfl, _, rfl, ?_⟩
    by_cases hw2 : (wd : Int) < 2
    · rw [decide_eq_true hw2]
      exact iteT ⟨_, rfl, _, rfl, _, rfl, d, ph, n, f, rfl, hn, hd2, hphd, hph2, hf, fun v D A H' e h1 h2 h3 h4 h5 => kk v D A H' (e12.trans e) h1 h2 h3 h4 h5⟩
    rw [decide_eq_false hw2]
    refine iteF ⟨_, rfl, _, rfl, by omega, by omega, fun D4 hD4 => ?_⟩
    have h4d := hd2.ne hD4
    refine it_gen walk_rng (Pv := fun i H' => ∃ g : Nat → Int, Ex (wo d H2) (wo d H') ∧ Dig d H' ∧ H' D4 = some (.lst (iRow i g)) ∧ ∀ j, (g j).natAbs ≤ 2) ⟨fun _ => 0, wo_new hd2 hD4, hd2.upd h4d, upd_same, fun j => by show 0 ≤ 2; decide⟩ (fun _ _ _ _ => True.intro) ?_ ?_
    · rintro i x H3 H3' hi ⟨g, e3, hd3, h3, hg⟩ ⟨rfl, rfl⟩
      have hi' : i < n := hi
      refine ⟨rfl, _, rfl, by show 4 ≤ sizeLine; decide, fun pl hpl => ?_⟩
      have hld := hd3.ne hpl
      have e4 := wo_new (o := .lst (([0, 1, -1, 2] : List Int).map V.int)) hd3 hpl
      refine ⟨_, rfl, d, 4, rfl, by decide, hd3.upd hld, fun c H5 hc e5 hd5 => ?_⟩
      have hl5 : H5 pl = some (.lst (([0, 1, -1, 2] : List Int).map V.int)) := wo_keep hld e5 upd_same
      refine ⟨pl, _, _, _, rfl, rfl, SqL.of hl5, at_some (at_ints (l := [0, 1, -1, 2]) hc), ?_⟩
      have hbz : (([0, 1, -1, 2] : List Int)[c]'hc).natAbs ≤ 2 := (by decide : ∀ z ∈ ([0, 1, -1, 2] : List Int), z.natAbs ≤ 2) _ (List.getElem_mem _)
      generalize ([0, 1, -1, 2] : List Int)[c]'hc = z at hbz
      have e35 : Ex (wo d H3') (wo d H5) := e4.trans e5
      refine ⟨_, wo_keep h4d e35 h3, by rw [iRow_len]; exact lt_sz (by omega), fun j => if j = i then z else g j, wo_mut hd2 hD4 (e3.trans e35), hd5.upd h4d, ?_, fun j => ?_⟩
      · rw [upd_same, iRow_succ, if_pos rfl, iRow_congr (g := g) fun j hj => if_neg (by omega)]
      · show (if j = i then z else g j).natAbs ≤ 2
        split
        · exact hbz
        · exact hg j
    rintro H4 ⟨g, e4, hd4, h4, hg⟩
    have h4' : H4 D4 = some (.lst (iRow n g)) := h4
    have e04 := e12.trans e4
    have hph4 := wo_keep hphd e4 hph2
    have hf' : ∀ i, 1 ≤ (if i < n then f i else 1) ∧ (if i < n then f i else 1) ≤ 3 := fun i => by
      split
      · rename_i h; exact hf i h
      · omega
    refine ⟨_, rfl, _, rfl, by omega, by omega, fun D5 hD5 => ?_⟩
    refine lcA walk_rng gm_true (lt_sz (by omega)) (P := fun i v _ => v = .int (g i * g i * (if i < n then f i else 1))) mono_eq monoD_eq hD5 True.intro ?_ ?_
    · rintro i x H5 H5' Kt hi e5 _ ⟨rfl, rfl⟩ _ kt
      have hi' : i < n := hi
      have b1 := hg i
      have b2 := hf i hi'
      have h45 := e5 _ _ h4'
      have hp45 := e5 _ _ hph4
      refine ⟨rfl, rd_irow h45 rfl rfl hi' (rd_irow h45 rfl rfl hi' ⟨_, _, rfl, rfl, wmul (a := 2) (b := 2) (by omega) (by omega) (by decide) (by decide) (by decide), rd_irow hp45 rfl rfl hi' ⟨_, _, rfl, rfl, wmul (a := 4) (b := 2) (Mth.mul_lt (a := 2) (b := 2) (by omega) (by omega)) (by omega) (by decide) (by decide) (by decide), kt _ _ (Evl.Ex.refl _) (by rw [if_pos hi'])⟩⟩)⟩
    intro H5 ys5 e5 h5 hl5 ha5
    let F5 : Nat → Int := fun i => g i * g i * (if i < n then f i else 1)
    have hys : ys5 = ((List.range n).map F5).map V.int := by
      rw [List.map_map]
      exact at_eq ha5 hl5
    rw [hys] at h5
    have sb := sum_bd (F := F5) (fun i => sq_bd (hg i) (hf' i)) n
    refine ⟨D5, _, rfl, SqL.of h5, _, _, rfl, ?_⟩
    obtain ⟨be, hbe⟩ : ∃ be : Int, be = (if ((List.range n).map F5).sum > 1 then ((List.range n).map F5).sum else 1) := ⟨_, rfl⟩
    have hbe1 : 1 ≤ be ∧ be ≤ 60 := by
      rw [hbe]
      split <;> omega
    have hp5 := e5 _ _ hph4
    have h45 := e5 _ _ h4'
    rw [← hbe]
    refine ⟨_, rfl, _, rfl, by omega, by omega, fun D6 hD6 => ?_⟩
    refine lcX walk_rng gm_true (lt_sz (by omega)) (m := n) (fun i j => g i * g j * (if j < n then f j else 1)) hD6 True.intro ?_ ?_
    · rintro i x H6 H6' Kt hi e6 _ ⟨rfl, rfl⟩ kt
      have hi' : i < n := hi
      refine ⟨rfl, _, rfl, _, rfl, by omega, by omega, fun D7 hD7 => ?_⟩
      refine lcA walk_rng gm_true (lt_sz (by omega)) (P := fun j v _ => v = .int (g i * g j * (if j < n then f j else 1))) mono_eq monoD_eq hD7 True.intro ?_ ?_
      · rintro j x H7 H7' Kt' hj e7 _ ⟨rfl, rfl⟩ _ kt'
        have hj' : j < n := hj
        have b1 := hg i
        have b2 := hg j
        have b3 := hf j hj'
        have h47 := (e6.trans e7) _ _ h45
        have hp7 := (e6.trans e7) _ _ hp5
        exact ⟨rfl, rd_irow h47 rfl rfl hi' (rd_irow h47 rfl rfl hj' ⟨_, _, rfl, rfl, wmul (a := 2) (b := 2) (by omega) (by omega) (by decide) (by decide) (by decide), rd_irow hp7 rfl rfl hj' ⟨_, _, rfl, rfl, wmul (a := 4) (b := 2) (Mth.mul_lt (a := 2) (b := 2) (by omega) (by omega)) (by omega) (by decide) (by decide) (by decide), kt' _ _ (Evl.Ex.refl _) (by rw [if_pos hj'])⟩⟩)⟩
      · intro H8 es' e8 h8 hl8 ha8
        rw [at_eq ha8 hl8] at h8
        exact kt D7 H8 e8 hD7 h8
    intro H6 e6 r6
    have e46 := e5.trans e6
    have bB : ∀ i j, ((g i * g j * (if j < n then f j else 1)) : Int).natAbs ≤ 12 := fun i j => pr_bd (hg i) (hg j) (hf' j)
    refine ⟨fun σ' H' => ∃ (p : Addr) (B : Mth.Mat), σ' = [some (.ref d), some (.int n), some (.ref ph), some (.int wd), some (.ref D4), some (.int be), some (.ref p), none, none] ∧ Ex H4 H' ∧ H4 p = none ∧ RX H4 H' p n n B ∧ Bnd 8 n B, ?_, ?_⟩
    · refine ⟨_, rfl, rfl, _, rfl, ?_⟩
      have r6' : RX H4 H6 D6 n n (fun i j => g i * g j * (if j < n then f j else 1)) := r6.base fun q hq => Evl.fresh_back e5 hq
      by_cases hw3 : wd = 3
      · rw [show decide (V.int (wd : Int) = V.int 3) = true by rw [hw3]; exact decide_eq_true rfl]
        refine iteT ⟨_, rfl, _, rfl, by omega, by omega, fun D8 hD8 => ?_⟩
        refine lcX walk_rng gm_true (lt_sz (by omega)) (m := n) (fun i j => be * (if i = j then 1 else 0) - g i * g j * (if j < n then f j else 1)) hD8 True.intro ?_ ?_
        · rintro i x H7 H7' Kt hi e7 _ ⟨rfl, rfl⟩ kt
          have hi' : i < n := hi
          refine ⟨rfl, _, rfl, _, rfl, by omega, by omega, fun D9 hD9 => ?_⟩
          refine lcA walk_rng gm_true (lt_sz (by omega)) (P := fun j v _ => v = .int (be * (if i = j then 1 else 0) - g i * g j * (if j < n then f j else 1))) mono_eq monoD_eq hD9 True.intro ?_ ?_
          · rintro j x H8 H8' Kt' hj e8 _ ⟨rfl, rfl⟩ _ kt'
            have hj' : j < n := hj
            obtain ⟨qs, q, h1, h2, h3, _, _, h6, _⟩ := (r6'.ex (e7.trans e8)).row hi'
            have one : ((if decide (V.int (i : Nat) = V.int (j : Nat)) = true then (1 : Int) else 0)).natAbs < 2 ^ 1 := by split <;> decide
            refine ⟨rfl, _, rfl, _, rfl, _, rfl, rfl, .inr ⟨_, rfl, _, _, rfl, rfl, wmul (a := 6) (by omega) one (by decide) (by decide) (by decide), ?_⟩⟩
            refine ⟨_, rfl, _, rfl, D6, qs, _, _, rfl, rfl, SqL.of h1, at_some h3, _, rfl, q, _, _, _, rfl, rfl, SqL.of h6, at_some (iRow_at hj'), _, _, rfl, rfl, kt' _ _ (Evl.Ex.refl _) ?_⟩
            show V.int (be * (if decide (V.int ((i : Nat) : Int) = V.int ((j : Nat) : Int)) = true then (1 : Int) else 0) - _) = _
            by_cases c : i = j
            · subst c; rw [decide_eq_true rfl, if_pos rfl, if_pos rfl]
            · rw [decide_eq_false (fun q => c (by injection q with q; omega)), if_neg Bool.false_ne_true, if_neg c]
          · intro H8 es' e8 h8 hl8 ha8
            rw [at_eq ha8 hl8] at h8
            exact kt D9 H8 e8 hD9 h8
        intro H7 e7 r7
        refine ⟨D8, _, rfl, e46.trans e7, Evl.fresh_back e46 hD8, RX.base (n := n) r7 (fun q hq => Evl.fresh_back e46 hq), fun i hi j hj => ?_⟩
        have := bB i j
        show (be * (if i = j then 1 else 0) - g i * g j * (if j < n then f j else 1)).natAbs < 2 ^ 8
        generalize (g i * g j * (if j < n then f j else 1) : Int) = x at this
        split <;> omega
      · rw [decide_eq_false (fun q => hw3 (by injection q with q; omega))]
        exact iteF ⟨D6, _, rfl, e46, Evl.fresh_back e5 hD6, r6', fun i hi j hj => by have := bB i j; show (g i * g j * (if j < n then f j else 1)).natAbs < 2 ^ 8; omega⟩
    · rintro σ' H7 ⟨p, B, rfl, e7, hp0, r7, hB⟩
      refine ⟨_, rfl, _, rfl, by show 2 ≤ sizeLine; decide, fun tl htl => ?_⟩
      have hd7 := hd4.ex e7
      have htd := hd7.ne htl
      refine kk _ be B _ (e04.trans ((wo_ex e7).trans (wo_new hd7 htl))) (hd7.upd htd) ?_ (by omega) (by omega) hB
      rw [wo_upd htd]
      exact RX.lt ((r7.sans hd4 hp0).ex (Evl.Ex.new (wo_fresh htl))) upd_same
end
end K18
end
section
set_option Elab.async false
set_option linter.all false
set_option maxRecDepth 100000
set_option maxHeartbeats 4000000
namespace K18
open PySem PySem.Spec PyProof.Rows L2
theorem rg_nV (n : Nat) : rgV 0 (n : Int) = nV (List.range n) := by
  unfold rgV nV
  rw [show ((n : Int) - 0).toNat = n by omega]
  exact List.map_congr_left fun i _ => by rw [Int.zero_add]
theorem erase_map {α β : Type} (f : α → β) : ∀ (l : List α) (c : Nat), (l.map f).eraseIdx c = (l.eraseIdx c).map f
  | [], c => by cases c <;> rfl
  | x :: xs, 0 => rfl
  | x :: xs, c + 1 => by
    show f x :: (xs.map f).eraseIdx c = f x :: (xs.eraseIdx c).map f
    rw [erase_map f xs c]
theorem erase_perm : ∀ (l : List Nat) (c : Nat) (h : c < l.length), (l[c] :: l.eraseIdx c).Perm l
  | [], c, h => absurd h (Nat.not_lt_zero _)
  | x :: xs, 0, _ => List.Perm.refl _
  | x :: xs, c + 1, h => by
    have h' : c < xs.length := by simpa using h
    show (xs[c] :: x :: xs.eraseIdx c).Perm (x :: xs)
    exact (List.Perm.swap x xs[c] _).trans ((erase_perm xs c h').cons x)
section
variable {P : Program} {w : World} {K : PySem.W.Frag} {mg : Str → Option Value} {base : Heap} {C : Addr}
def spPerm : Sp := fun vs H Q _ => ∃ (d : Addr) (n : Nat), vs = [.ref d, .int n] ∧ n ≤ 5 ∧ Dig d H ∧ ∀ p (l : List Nat) H', Ex (wo d H) (wo d H') → Dig d H' → H p = none → H' p = some (.lst (nV l)) → l.Perm (List.range n) → Q (.ref p) H'
theorem sc_perm : FnScope ["_law_digits", "_law_size_here", "_law_left", "_law_found", "_law_turn"] ["_law_digits", "_law_size_here"] (C8.fnScope (top 76)) := C8.fnScope_by (by decide +kernel)
theorem cal_perm (B : Bt mg) (D : DD K mg "_law_perm" 76) (c_l_eat : C8.Cal P w K mg base 1 "_law_eat" (spEat) []) : C8.Cal P w K mg base 2 "_law_perm" (spPerm) [] := by
  refine cal_mk D sc_perm (fun _ _ _ _ _ _ us hl => match us, hl with | [_, _], _ => rfl) (fun vs H Q E h => ?_) (fun f cdv A outer s H vs Q E hr h => ?_)
  · obtain ⟨d, n, rfl, _⟩ := h; rfl
  · obtain ⟨d, n, rfl, hn, hd, kk⟩ := h
    have nd := sc_perm.nd
    refine ⟨_, (pss_cons (pset 2 nd (pe_listRg rfl (by rfl) B.list (prg_1 (by rfl) B.range (pv 1))))
    (pss_cons (pset 3 nd (pe_lst pa_nil))
    (pss_cons (ps_for PassesOwn.never rfl (pi_range1 (by rfl) B.range (pa_cons (pv 1) pa_nil)) (pgn 4 nd)
      (pss_one (ps_expr (pe_bm PySem.F.plainAttrs_list PySem.F.slot_list_append PySem.F.type_list_append mt_append (pv 3) (pa_cons (pe_bm PySem.F.plainAttrs_list PySem.F.slot_list_pop PySem.F.type_list_pop mt_popAt (pv 2) (pa_cons (C8.pe_c c_l_eat hr (by decide) (by rfl) (pa_cons (pv 0) (pa_cons (pe_callB (call_lenK K) (by rfl) B.len PySem.boot_len (pa_cons (pv 2) pa_nil)) pa_nil))) pa_nil)) pa_nil)))))
    (pss_one (ps_ret (pv 3)))))), ?_⟩
    refine ⟨_, rfl, _, rfl, RgOk.of_le (by omega) (by omega) (by omega) (by omega), fun p2 hp2 => ?_⟩
    rw [rg_nV]
    have h2d := hd.ne hp2
    have hd1 := (hd.upd h2d : Dig d (upd H p2 (.lst (nV (List.range n)))))
    refine ⟨by decide, fun p3 hp3 => ?_⟩
    have h3d := hd1.ne hp3
    have h23 : p2 ≠ p3 := fun z => by rw [← z, upd_same] at hp3; cases hp3
    have hp3H : H p3 = none := by rw [upd_ne (fun z => h23 z.symm)] at hp3; exact hp3
    refine ⟨_, rfl, _, rfl, by omega, by omega, ?_⟩
    refine for_rg (a := 0) rfl (by omega : (n : Int).toNat = n) (Pv := fun i σ' H' => ∃ (a4 : Option V) (l f : List Nat), σ' = [some (.ref d), some (.int n), some (.ref p2), some (.ref p3), a4] ∧ Ex (wo d H) (wo d H') ∧ Dig d H' ∧ H' p2 = some (.lst (nV l)) ∧ H' p3 = some (.lst (nV f)) ∧ (f ++ l).Perm (List.range n) ∧ f.length = i)
      ⟨_, List.range n, [], rfl, by rw [wo_upd h3d, wo_upd h2d]; exact (Evl.Ex.new (wo_fresh hp2)).mut (wo_fresh hp3H), hd1.upd h3d, by rw [upd_ne h23, upd_same], upd_same, List.Perm.refl _, rfl⟩ ?_ ?_
    · rintro i σ' H2 hi ⟨a4, l, f, rfl, e2, hd2, h2, h3, hpm, hfl⟩
      have hlen : f.length + l.length = n := by have := hpm.length_eq; rw [List.length_append, List.length_range] at this; exact this
      have hl0 : 0 < (nV l).length := by rw [nV_len]; omega
      refine ⟨_, rfl, lst_ty h3, _, rfl, lst_ty h2, _, rfl, _, rfl, p2, _, rfl, .inl (SqL.of h2), d, (nV l).length, rfl, hl0, hd2, fun c H4 hc e4 hd4 => ?_⟩
      rw [nV_len] at hc
      have h24 := wo_keep h2d e4 h2
      have h34 := wo_keep h3d e4 h3
      have hcl : (nV l)[c]? = some (.int (l[c] : Nat)) := by unfold nV; rw [List.getElem?_map, List.getElem?_eq_getElem hc]; rfl
      refine ⟨p2, _, (c : Int), c, _, rfl, rfl, h24, by omega, by omega, ?_, hcl, ?_⟩
      · exact (ixN_seq (Evl.ixN_nat (by rw [nV_len]; exact hc))).1
      have h34' : (upd H4 p2 (.lst ((nV l).eraseIdx c))) p3 = some (.lst (nV f)) := by rw [upd_ne (fun z => h23 z.symm)]; exact h34
      refine ⟨p3, _, _, rfl, rfl, h34', by rw [nV_len]; exact lt_sz (by omega), _, l.eraseIdx c, f ++ [l[c]], rfl, ?_, (hd4.upd h2d).upd h3d, ?_, ?_, ?_, ?_⟩
      · rw [wo_upd h3d, wo_upd h2d]
        exact ((e2.trans e4).mut (wo_fresh hp2)).mut (wo_fresh hp3H)
      · rw [upd_ne h23, upd_same]
        unfold nV
        rw [erase_map]
      · rw [upd_same]; simp [nV]
      · rw [List.append_assoc]
        exact (List.Perm.append_left f (erase_perm l c hc)).trans hpm
      · rw [List.length_append, hfl]; rfl
    · rintro σ' H2 ⟨a4, l, f, rfl, e2, hd2, h2, h3, hpm, hfl⟩
      have hlen : f.length + l.length = n := by have := hpm.length_eq; rw [List.length_append, List.length_range] at this; exact this
      have hl : l = [] := List.length_eq_zero_iff.mp (by omega)
      rw [hl, List.append_nil] at hpm
      exact ⟨_, rfl, kk p3 f H2 e2 hd2 hp3H h3 hpm⟩
end
end K18
end
section
set_option Elab.async false
set_option linter.all false
set_option maxRecDepth 100000
set_option maxHeartbeats 4000000
namespace K18
open PySem PySem.Spec PyProof.Rows L2
theorem sumN_bd {g : Nat → Int} {b : Nat} : ∀ {i : Nat}, (∀ m, m < i → (g m).natAbs < 2 ^ b) → (Mth.sumN i g).natAbs ≤ i * 2 ^ b
  | 0, _ => by show 0 ≤ _; exact Nat.zero_le _
  | i + 1, h => by
    have ih := sumN_bd (i := i) fun m hm => h m (by omega)
    have h1 := h i (by omega)
    show (Mth.sumN i g + g i).natAbs ≤ _
    rw [Nat.add_mul, Nat.one_mul]
    omega
theorem fr_sum {c : Nat → Int} {d : Int} (hd : d ≠ 0) : ∀ i, Mth.rs (fun m => Mth.fr (c m) d) (List.range i) = Mth.fr (Mth.sumN i c) d
  | 0 => by
    show (0 : Rat) = Mth.fr 0 d
    unfold Mth.fr
    rw [show ((0 : Int) : Rat) = 0 from rfl]
    grind
  | i + 1 => by
    rw [List.range_succ, Mth.rs_app, fr_sum hd i]
    show _ + (Mth.fr (c i) d + 0) = Mth.fr (Mth.sumN i c + c i) d
    unfold Mth.fr
    rw [Rat.intCast_add]
    grind
theorem fr_mulI (c x d : Int) (hd : d ≠ 0) : Mth.fr x d * (c : Rat) = Mth.fr (c * x) d := by
  unfold Mth.fr
  rw [Rat.intCast_mul]
  grind
theorem cnt_filter {n m : Nat} : ∀ {S : List Nat}, (∀ a ∈ S, a < n) → (((S.filter fun i => decide (i ∈ lp n m)).length : Nat) : Int) = Mth.cnt S m
  | [], _ => rfl
  | a :: S, h => by
    have ih := cnt_filter (n := n) (m := m) (S := S) fun x hx => h x (List.mem_cons_of_mem _ hx)
    have ha := h a List.mem_cons_self
    show _ = Mth.bitI m a + Mth.cnt S m
    unfold Mth.bitI
    cases hb : m.testBit a with
    | true =>
      rw [List.filter_cons_of_pos (p := fun i => decide (i ∈ lp n m)) (decide_eq_true (mem_lp.mpr ⟨ha, hb⟩)), if_pos rfl, List.length_cons]
      omega
    | false =>
      rw [List.filter_cons_of_neg (p := fun i => decide (i ∈ lp n m)) (by rw [decide_eq_false (fun q => by have := (mem_lp.mp q).2; rw [hb] at this; cases this)]; exact Bool.false_ne_true), if_neg Bool.false_ne_true]
      omega
def FS (n : Nat) (D : Int) (A : Mth.Mat) (c : Nat → Int) : Nat → Rat := fun m => Mth.fr (c m * Mth.cN n D A m) (D ^ n)
theorem FS_P {n : Nat} {D : Int} {A : Mth.Mat} {c : Nat → Int} (hD : D ^ n ≠ 0) : Mth.rs (FS n D A c) (List.range (2 ^ n)) = Mth.P n D A c := by
  unfold FS
  rw [fr_sum (c := fun m => c m * Mth.cN n D A m) hD]
  unfold Mth.P Mth.fr Mth.E
  rw [Rat.intCast_pow]
theorem FS_sz {n : Nat} {D : Int} {A : Mth.Mat} {c : Nat → Int} (hD : 0 < D ^ n) (hDn : (D ^ n).natAbs < 2 ^ 200) (hn : n ≤ 5) (hc : ∀ m, m < 2 ^ n → (c m).natAbs < 2 ^ 8) (hb : ∀ m, m < 2 ^ n → (Mth.cN n D A m).natAbs < 2 ^ 1024) :
    (∀ i, i < 2 ^ n → Mth.Sz 1040 (FS n D A c i)) ∧ (∀ i, i ≤ 2 ^ n → Mth.Sz 1040 (Mth.rs (FS n D A c) (List.range i))) := by
  have hm : ∀ m, m < 2 ^ n → (c m * Mth.cN n D A m).natAbs < 2 ^ (8 + 1024) := fun m h => Mth.mul_lt (hc m h) (hb m h)
  have h25 : 2 ^ n ≤ 2 ^ 5 := Nat.pow_le_pow_right (by decide) hn
  refine ⟨fun i hi => Mth.Sz.fr hD (Mth.lt_mono (hm i hi) (by decide)) (Mth.lt_mono hDn (by decide)), fun i hi => ?_⟩
  have e := fr_sum (c := fun m => c m * Mth.cN n D A m) (d := D ^ n) (by omega) i
  show Mth.Sz 1040 (Mth.rs (fun m => Mth.fr (c m * Mth.cN n D A m) (D ^ n)) (List.range i))
  rw [e]
  refine Mth.Sz.fr hD ?_ (Mth.lt_mono hDn (by decide))
  have h1 := sumN_bd (g := fun m => c m * Mth.cN n D A m) (i := i) fun m h => hm m (by omega)
  have h2 : i * 2 ^ (8 + 1024) ≤ 2 ^ 5 * 2 ^ (8 + 1024) := Nat.mul_le_mul_right _ (by omega)
  rw [← Nat.pow_add] at h2
  exact Nat.lt_of_le_of_lt (Nat.le_trans h1 h2) (Nat.pow_lt_pow_right (by decide) (by decide))
section
variable {K : PySem.W.Frag} {H : Hp} {p : Addr} {f : Nat → Rat} {xs : List V} {v : V}
theorem app_frac (h : H p = some (.lst xs)) (ha : At (FracR K f) xs H) (hv : Frac K H v (f xs.length)) : At (FracR K f) (xs ++ [v]) (upd H p (.lst (xs ++ [v]))) := by
  have up : ∀ b o, b ≠ p → H b = some o → (upd H p (.lst (xs ++ [v]))) b = some o := fun b o hb q => by rw [upd_ne hb]; exact q
  exact At.snoc (monoD_frac.at_ h up ha) (Frac.exD h up hv)
theorem keep_frac {ys : List V} (h : H p = some (.lst xs)) (ha : At (FracR K f) ys H) : At (FracR K f) ys (upd H p (.lst (xs ++ [v]))) :=
  monoD_frac.at_ h (fun b o hb q => by rw [upd_ne hb]; exact q) ha
end
section
variable {P : Program} {w : World} {K : PySem.W.Frag} {mg : Str → Option Value} {base : Heap} {C : Addr}
def spMoment (K : PySem.W.Frag) : Sp := fun vs H Q _ => ∃ (pn : Addr) (x y : V) (D : Int) (n : Nat) (A : Mth.Mat) (xs : List V) (S T : List Nat), vs = [.ref pn, x, y, .int n] ∧ n ≤ 5 ∧ 0 < D ∧ D.natAbs < 2 ^ 24 ∧ H pn = some (.lst xs) ∧ xs.length = 2 ^ n ∧ At (FracR K fun m => Mth.fr (Mth.cN n D A m) (D ^ n)) xs H ∧ (∀ m, m < 2 ^ n → (Mth.cN n D A m).natAbs < 2 ^ 1024) ∧
  SeqV K H x (nV S) ∧ TupV K H y (nV T) ∧ LotOk S n ∧ LotOk T n ∧ ∀ v H', Ex H H' → Frac K H' v (Mth.cov (Mth.K D A) S T) → Q v H'
theorem sc_moment : FnScope ["_law_numbers", "_law_one", "_law_other", "_law_size_here", "_law_first", "_law_second", "_law_product", "_law_number", "_law_drawn", "_law_many", "_law_more", "_law_at"] ["_law_numbers", "_law_one", "_law_other", "_law_size_here"] (C8.fnScope (top 82)) := C8.fnScope_by (by decide +kernel)
theorem cal_moment (B : Bt mg) (D : DD K mg "_law_moment" 82) (c_l_places : C8.Cal P w K mg base 2 "_law_places" (spPlaces K) []) (c_l_mul : C8.Cal P w K mg base 3 "_law_mul" (spBin (· * ·) K) []) (c_l_sub : C8.Cal P w K mg base 3 "_law_sub" (spBin (· - ·) K) []) (c_l_sum : C8.Cal P w K mg base 4 "_law_sum" (spLSum K) []) : C8.Cal P w K mg base 5 "_law_moment" (spMoment K) [] := by
  refine cal_mk D sc_moment (fun _ _ _ _ _ _ us hl => match us, hl with | [_, _, _, _], _ => rfl) (fun vs H Q E h => ?_) (fun f cdv A outer s H vs Q E hr h => ?_)
  · obtain ⟨pn, x, y, D, n, A, xs, S, T, rfl, _⟩ := h; rfl
  · obtain ⟨pn, x, y, Db, n, A, xs, S, T, rfl, hn, hD0, hDb, hpn, hlx, hax, hcb, ⟨px, rfl, hx⟩, ⟨py, rfl, hy⟩, okS, okT, kk⟩ := h
    have nd := sc_moment.nd
    refine ⟨_, (pss_cons (pset 4 nd (pe_lst pa_nil))
    (pss_cons (pset 5 nd (pe_lst pa_nil))
    (pss_cons (pset 6 nd (pe_lst pa_nil))
    (pss_cons (ps_for PassesOwn.never rfl (pi_range1 (by rfl) B.range (pa_cons (pe_callB (call_lenK K) (by rfl) B.len PySem.boot_len (pa_cons (pv 0) pa_nil)) pa_nil)) (pgn 7 nd)
      (pss_cons (pset 8 nd (C8.pe_c c_l_places hr (by decide) (by rfl) (pa_cons (pv 7) (pa_cons (pv 3) pa_nil))))
      (pss_cons (pset 9 nd (pe_callB (call_lenK K) (by rfl) B.len PySem.boot_len (pa_cons (pe_lc (own := [("_law_at", 11)]) rfl nd (pi_seqK K (pv 1)) (blkOk_by (own := [("_law_at", 11)]) (N := ["_law_numbers", "_law_one", "_law_other", "_law_size_here", "_law_first", "_law_second", "_law_product", "_law_number", "_law_drawn", "_law_many", "_law_more", "_law_at"]) (by kernel_rfl)) (fun _ _ _ _ _ => (pgn 11 nd)) (fun _ _ _ _ _ => (pts_one (pt_cmpR (op_inK K) (pv 11) (pv 8) rfl))) (fun _ _ _ _ _ => (pv 11))) pa_nil)))
      (pss_cons (pset 10 nd (pe_callB (call_lenK K) (by rfl) B.len PySem.boot_len (pa_cons (pe_lc (own := [("_law_at", 11)]) rfl nd (pi_tupK K (pv 2)) (blkOk_by (own := [("_law_at", 11)]) (N := ["_law_numbers", "_law_one", "_law_other", "_law_size_here", "_law_first", "_law_second", "_law_product", "_law_number", "_law_drawn", "_law_many", "_law_more", "_law_at"]) (by kernel_rfl)) (fun _ _ _ _ _ => (pgn 11 nd)) (fun _ _ _ _ _ => (pts_one (pt_cmpR (op_inK K) (pv 11) (pv 8) rfl))) (fun _ _ _ _ _ => (pv 11))) pa_nil)))
      (pss_cons (ps_expr (pe_bm PySem.F.plainAttrs_list PySem.F.slot_list_append PySem.F.type_list_append mt_append (pv 4) (pa_cons (C8.pe_c c_l_mul hr (by decide) (by rfl) (pa_cons (pe_ix (ix_listK K) (pv 0) (pv 7) (fun _ _ => rfl)) (pa_cons (pe_tup (pa_cons (pv 9) (pa_cons pe_int pa_nil))) pa_nil))) pa_nil)))
      (pss_cons (ps_expr (pe_bm PySem.F.plainAttrs_list PySem.F.slot_list_append PySem.F.type_list_append mt_append (pv 5) (pa_cons (C8.pe_c c_l_mul hr (by decide) (by rfl) (pa_cons (pe_ix (ix_listK K) (pv 0) (pv 7) (fun _ _ => rfl)) (pa_cons (pe_tup (pa_cons (pv 10) (pa_cons pe_int pa_nil))) pa_nil))) pa_nil)))
      (pss_one (ps_expr (pe_bm PySem.F.plainAttrs_list PySem.F.slot_list_append PySem.F.type_list_append mt_append (pv 6) (pa_cons (C8.pe_c c_l_mul hr (by decide) (by rfl) (pa_cons (pe_ix (ix_listK K) (pv 0) (pv 7) (fun _ _ => rfl)) (pa_cons (pe_tup (pa_cons (pe_op op_mulW (pv 9) (pv 10)) (pa_cons pe_int pa_nil))) pa_nil))) pa_nil))))))))))
    (pss_one (ps_ret (C8.pe_c c_l_sub hr (by decide) (by rfl) (pa_cons (C8.pe_c c_l_sum hr (by decide) (by rfl) (pa_cons (pv 6) pa_nil)) (pa_cons (C8.pe_c c_l_mul hr (by decide) (by rfl) (pa_cons (C8.pe_c c_l_sum hr (by decide) (by rfl) (pa_cons (pv 4) pa_nil)) (pa_cons (C8.pe_c c_l_sum hr (by decide) (by rfl) (pa_cons (pv 5) pa_nil)) pa_nil))) pa_nil))))))))), ?_⟩
    have hpos : 0 < Db ^ n := Int.pow_pos hD0
    have hpb : (Db ^ n).natAbs < 2 ^ 200 := Mth.lt_mono (pow_lt hDb n) (by omega)
    have h25 : 2 ^ n ≤ 2 ^ 5 := Nat.pow_le_pow_right (by decide) hn
    have hSl := okS.len
    have hTl := okT.len
    refine ⟨by decide, fun p4 hp4 => ⟨by decide, fun p5 hp5 => ⟨by decide, fun p6 hp6 => ?_⟩⟩⟩
    have h45 : p4 ≠ p5 := fun z => by rw [← z, upd_same] at hp5; cases hp5
    have hp5H : H p5 = none := by rw [upd_ne (fun z => h45 z.symm)] at hp5; exact hp5
    have h56 : p5 ≠ p6 := fun z => by rw [← z, upd_same] at hp6; cases hp6
    have h46 : p4 ≠ p6 := fun z => by rw [← z, upd_ne h45, upd_same] at hp6; cases hp6
    have hp6H : H p6 = none := by rw [upd_ne (fun z => h56 z.symm), upd_ne (fun z => h46 z.symm)] at hp6; exact hp6
    have e0 : Ex H (upd (upd (upd H p4 (.lst [])) p5 (.lst [])) p6 (.lst [])) := ((Evl.Ex.new hp4).mut hp5H).mut hp6H
    let cS : Nat → Int := Mth.cnt S
    let cT : Nat → Int := Mth.cnt T
    let cP : Nat → Int := fun m => Mth.cnt S m * Mth.cnt T m
    have bS : ∀ m, 0 ≤ cS m ∧ cS m ≤ 5 := fun m => by
      have := cnt_filter (n := n) (m := m) okS.lt
      have h2 := List.length_filter_le (fun i => decide (i ∈ lp n m)) S
      show 0 ≤ Mth.cnt S m ∧ Mth.cnt S m ≤ 5
      omega
    have bT : ∀ m, 0 ≤ cT m ∧ cT m ≤ 5 := fun m => by
      have := cnt_filter (n := n) (m := m) okT.lt
      have h2 := List.length_filter_le (fun i => decide (i ∈ lp n m)) T
      show 0 ≤ Mth.cnt T m ∧ Mth.cnt T m ≤ 5
      omega
    have bP : ∀ m, (cP m).natAbs < 2 ^ 8 := fun m => by
      have h1 := bS m
      have h2 := bT m
      exact Mth.lt_mono (Mth.mul_lt (i := cS m) (j := cT m) (a := 3) (b := 3) (by omega) (by omega)) (by decide)
    refine ⟨_, rfl, pn, xs, rfl, .inl (SqL.of (e0 _ _ hpn)), _, rfl, by omega, by omega, ?_⟩
    refine for_rg (a := 0) rfl (by omega : (xs.length : Int).toNat = 2 ^ n) (Pv := fun i σ' H' => ∃ (a7 a8 a9 a10 : Option V) (x1 x2 x3 : List V), σ' = [some (.ref pn), some (.ref px), some (.ref py), some (.int n), some (.ref p4), some (.ref p5), some (.ref p6), a7, a8, a9, a10, none] ∧ Ex H H' ∧ H' p4 = some (.lst x1) ∧ H' p5 = some (.lst x2) ∧ H' p6 = some (.lst x3) ∧
        x1.length = i ∧ x2.length = i ∧ x3.length = i ∧ At (FracR K (FS n Db A cS)) x1 H' ∧ At (FracR K (FS n Db A cT)) x2 H' ∧ At (FracR K (FS n Db A cP)) x3 H')
      ⟨_, _, _, _, [], [], [], rfl, e0, by rw [upd_ne h46, upd_ne h45, upd_same], by rw [upd_ne h56, upd_same], upd_same, rfl, rfl, rfl, At.nil, At.nil, At.nil⟩ ?_ ?_
    · rintro i σ' H2 hi ⟨a7, a8, a9, a10, x1, x2, x3, rfl, e2, k4, k5, k6, l1, l2, l3, A1, A2, A3⟩
      rw [Nat.zero_add]
      refine ⟨_, rfl, _, rfl, i, n, rfl, by omega, fun vd H3 e3 hvd => ?_⟩
      obtain ⟨pd, rfl, hd⟩ := hvd
      -- many
      refine ⟨_, rfl, px, _, _, rfl, hx, e2.trans e3, fun J G wk gm g0 D1 hD1 => ?_⟩
      refine lcV wk gm (by rw [nV_len]; exact lt_sz (by omega)) (fun j => decide (S.getD j 0 ∈ lp n i)) (fun j => .int (S.getD j 0 : Nat)) hD1 (gm _ _ g0 (e2.trans e3)) ?_ ?_
      · rintro j z H4 H4' Kt Kf hj e4 hg ⟨rfl, ez⟩ _ kt kf
        obtain ⟨hjl, rfl⟩ := nV_at ez
        refine ⟨rfl, _, rfl, _, rfl, pd, _, rfl, .inr (Evl.ex_t e4 hd), rfl, flat_nV, _, rfl, ?_⟩
        rw [if_neg Bool.false_ne_true, inV_nV]
        rw [getD_at hjl] at kt kf
        by_cases hm : S[j] ∈ lp n i
        · rw [decide_eq_true hm] at kt ⊢
          exact iteT ⟨_, rfl, kt rfl _ (Evl.Ex.refl _)⟩
        · rw [decide_eq_false hm] at kf ⊢
          exact iteF (kf rfl _ (Evl.Ex.refl _))
      intro H4 e4 h4
      rw [nV_len, sel_list (f := fun i : Nat => V.int i) (p := fun j => decide (j ∈ lp n i)) (a := S) 0] at h4
      have many : (((S.filter fun j => decide (j ∈ lp n i)).map fun i : Nat => V.int i).length : Int) = cS i := by
        rw [List.length_map]; exact cnt_filter okS.lt
      refine ⟨D1, _, rfl, .inl (SqL.of h4), ?_⟩
      rw [many]
      -- more
      have e24 := e2.trans (e3.trans e4)
      refine ⟨_, rfl, py, rfl, ⟨_, Evl.ex_t e24 hy⟩, fun D2 hD2 => ?_⟩
      refine lcV walk_tup (fun _ _ g e => Evl.ex_t e g) (by rw [nV_len]; exact lt_sz (by omega)) (fun j => decide (T.getD j 0 ∈ lp n i)) (fun j => .int (T.getD j 0 : Nat)) hD2 (Evl.ex_t e24 hy) ?_ ?_
      · rintro j z H5 H5' Kt Kf hj e5 hg ⟨rfl, ez⟩ _ kt kf
        obtain ⟨hjl, rfl⟩ := nV_at ez
        refine ⟨rfl, _, rfl, _, rfl, pd, _, rfl, .inr (Evl.ex_t (e4.trans e5) hd), rfl, flat_nV, _, rfl, ?_⟩
        rw [if_neg Bool.false_ne_true, inV_nV]
        rw [getD_at hjl] at kt kf
        by_cases hm : T[j] ∈ lp n i
        · rw [decide_eq_true hm] at kt ⊢
          exact iteT ⟨_, rfl, kt rfl _ (Evl.Ex.refl _)⟩
        · rw [decide_eq_false hm] at kf ⊢
          exact iteF (kf rfl _ (Evl.Ex.refl _))
      intro H5 e5 h5
      rw [nV_len, sel_list (f := fun i : Nat => V.int i) (p := fun j => decide (j ∈ lp n i)) (a := T) 0] at h5
      have more : (((T.filter fun j => decide (j ∈ lp n i)).map fun i : Nat => V.int i).length : Int) = cT i := by
        rw [List.length_map]; exact cnt_filter okT.lt
      refine ⟨D2, _, rfl, .inl (SqL.of h5), ?_⟩
      rw [more]
      have e25 := e24.trans e5
      have e35 := e3.trans (e4.trans e5)
      obtain ⟨xi, exi, hxi⟩ := hax.get (i := i) (by omega)
      have zc : Mth.Sz 1024 (Mth.fr (Mth.cN n Db A i) (Db ^ n)) := Mth.Sz.fr hpos (hcb i hi) (Mth.lt_mono hpb (by decide))
      have hI : ∀ (c : Int) (H6 : Hp) (q : Addr), H6 q = some (.tup [.int c, .int 1]) → Frac K H6 (.ref q) (c : Rat) := fun c H6 q hq => by
        show TupV K H6 _ _
        rw [Rat.num_intCast, Rat.den_intCast]
        exact ⟨q, rfl, SqT.of hq⟩
      have zS : Mth.Sz 8 ((cS i : Int) : Rat) := Mth.Sz.int (by have := bS i; omega) (by decide)
      have zT : Mth.Sz 8 ((cT i : Int) : Rat) := Mth.Sz.int (by have := bT i; omega) (by decide)
      have zP : Mth.Sz 8 ((cP i : Int) : Rat) := Mth.Sz.int (bP i) (by decide)
      -- first
      have k45 := e35 _ _ k4
      refine ⟨_, rfl, lst_ty k45, _, rfl, _, rfl, pn, xs, _, _, rfl, rfl, SqL.of (e25 _ _ hpn), at_some exi, _, rfl, by show 2 ≤ sizeLine; decide, fun q1 hq1 => ?_⟩
      have f1 := Evl.Ex.new (o := .tup [.int (cS i), .int 1]) hq1
      refine ⟨_, _, _, _, 1024, 8, rfl, Frac.ex hxi (e25.trans f1), hI _ _ q1 upd_same, zc, zS, by decide, by decide, by decide, fun v1 H6 e6 hv1 => ?_⟩
      have hv1 : Frac K H6 v1 (Mth.fr (cS i * Mth.cN n Db A i) (Db ^ n)) := by rw [← fr_mulI _ _ _ (by omega)]; exact hv1
      have g6 := (e35.trans f1).trans e6
      have k46 := g6 _ _ k4
      refine ⟨p4, x1, _, rfl, rfl, k46, lt_sz (by omega), ?_⟩
      have B1 := app_frac k46 (A1.ex mono_frac g6) (v := v1) (by rw [l1]; exact hv1)
      have B2 := keep_frac (v := v1) k46 (A2.ex mono_frac g6)
      have B3 := keep_frac (v := v1) k46 (A3.ex mono_frac g6)
      have e07 : Ex H (upd H6 p4 (.lst (x1 ++ [v1]))) := (e2.trans g6).mut hp4
      have k57 : (upd H6 p4 (.lst (x1 ++ [v1]))) p5 = some (.lst x2) := by rw [upd_ne (fun z => h45 z.symm)]; exact g6 _ _ k5
      have k67 : (upd H6 p4 (.lst (x1 ++ [v1]))) p6 = some (.lst x3) := by rw [upd_ne (fun z => h46 z.symm)]; exact g6 _ _ k6
      have k47 : (upd H6 p4 (.lst (x1 ++ [v1]))) p4 = some (.lst (x1 ++ [v1])) := upd_same
      generalize upd H6 p4 (.lst (x1 ++ [v1])) = H7 at *
      -- second
      refine ⟨_, rfl, lst_ty k57, _, rfl, _, rfl, pn, xs, _, _, rfl, rfl, SqL.of (e07 _ _ hpn), at_some exi, _, rfl, by show 2 ≤ sizeLine; decide, fun q2 hq2 => ?_⟩
      have f2 := Evl.Ex.new (o := .tup [.int (cT i), .int 1]) hq2
      refine ⟨_, _, _, _, 1024, 8, rfl, Frac.ex hxi (e07.trans f2), hI _ _ q2 upd_same, zc, zT, by decide, by decide, by decide, fun v2 H8 e8 hv2 => ?_⟩
      have hv2 : Frac K H8 v2 (Mth.fr (cT i * Mth.cN n Db A i) (Db ^ n)) := by rw [← fr_mulI _ _ _ (by omega)]; exact hv2
      have g8 := f2.trans e8
      have k58 := g8 _ _ k57
      refine ⟨p5, x2, _, rfl, rfl, k58, lt_sz (by omega), ?_⟩
      have C1 := keep_frac (v := v2) k58 (B1.ex mono_frac g8)
      have C2 := app_frac k58 (B2.ex mono_frac g8) (v := v2) (by rw [l2]; exact hv2)
      have C3 := keep_frac (v := v2) k58 (B3.ex mono_frac g8)
      have e09 : Ex H (upd H8 p5 (.lst (x2 ++ [v2]))) := (e07.trans g8).mut hp5H
      have k49 : (upd H8 p5 (.lst (x2 ++ [v2]))) p4 = some (.lst (x1 ++ [v1])) := by rw [upd_ne h45]; exact g8 _ _ k47
      have k69 : (upd H8 p5 (.lst (x2 ++ [v2]))) p6 = some (.lst x3) := by rw [upd_ne (fun z => h56 z.symm)]; exact g8 _ _ k67
      have k59 : (upd H8 p5 (.lst (x2 ++ [v2]))) p5 = some (.lst (x2 ++ [v2])) := upd_same
      generalize upd H8 p5 (.lst (x2 ++ [v2])) = H9 at *
      -- product
      have hb1 := bS i
      have hb2 := bT i
      refine ⟨_, rfl, lst_ty k69, _, rfl, _, rfl, pn, xs, _, _, rfl, rfl, SqL.of (e09 _ _ hpn), at_some exi, _, rfl, _, rfl, _, _, rfl, rfl, wmul (i := cS i) (j := cT i) (a := 3) (b := 3) (by omega) (by omega) (by decide) (by decide) (by decide), by show 2 ≤ sizeLine; decide, fun q3 hq3 => ?_⟩
      have f3 := Evl.Ex.new (o := .tup [.int (cS i * cT i), .int 1]) hq3
      refine ⟨_, _, _, _, 1024, 8, rfl, Frac.ex hxi (e09.trans f3), hI _ _ q3 upd_same, zc, zP, by decide, by decide, by decide, fun v3 H10 e10 hv3 => ?_⟩
      have hv3 : Frac K H10 v3 (Mth.fr (cP i * Mth.cN n Db A i) (Db ^ n)) := by rw [← fr_mulI _ _ _ (by omega)]; exact hv3
      have g10 := f3.trans e10
      have k610 := g10 _ _ k69
      refine ⟨p6, x3, _, rfl, rfl, k610, lt_sz (by omega), _, _, _, _, x1 ++ [v1], x2 ++ [v2], x3 ++ [v3], rfl, (e09.trans g10).mut hp6H, by rw [upd_ne h46]; exact g10 _ _ k49, by rw [upd_ne h56]; exact g10 _ _ k59, upd_same, by rw [List.length_append, l1]; rfl, by rw [List.length_append, l2]; rfl, by rw [List.length_append, l3]; rfl, ?_, ?_, ?_⟩
      · exact keep_frac (v := v3) k610 (C1.ex mono_frac g10)
      · exact keep_frac (v := v3) k610 (C2.ex mono_frac g10)
      · exact app_frac k610 (C3.ex mono_frac g10) (v := v3) (by rw [l3]; exact hv3)
    · rintro σ' H2 ⟨a7, a8, a9, a10, x1, x2, x3, rfl, e2, k4, k5, k6, l1, l2, l3, A1, A2, A3⟩
      have s1 := FS_sz (A := A) (c := cS) hpos hpb hn (fun m _ => by have := bS m; omega) hcb
      have s2 := FS_sz (A := A) (c := cT) hpos hpb hn (fun m _ => by have := bT m; omega) hcb
      have s3 := FS_sz (A := A) (c := cP) hpos hpb hn (fun m _ => bP m) hcb
      refine ⟨_, rfl, _, x3, _, 1040, rfl, ⟨p6, rfl, SqL.of k6⟩, A3, by decide, by decide, by rw [l3]; exact s3.1, by rw [l3]; exact s3.2, fun v3 H3 e3 hv3 => ?_⟩
      refine ⟨_, rfl, _, x1, _, 1040, rfl, ⟨p4, rfl, SqL.of (e3 _ _ k4)⟩, A1.ex mono_frac e3, by decide, by decide, by rw [l1]; exact s1.1, by rw [l1]; exact s1.2, fun v1 H4 e4 hv1 => ?_⟩
      refine ⟨_, rfl, _, x2, _, 1040, rfl, ⟨p5, rfl, SqL.of ((e3.trans e4) _ _ k5)⟩, A2.ex mono_frac (e3.trans e4), by decide, by decide, by rw [l2]; exact s2.1, by rw [l2]; exact s2.2, fun v2 H5 e5 hv2 => ?_⟩
      rw [l3] at hv3
      rw [l1] at hv1
      rw [l2] at hv2
      have z1 := s1.2 _ (Nat.le_refl _)
      have z2 := s2.2 _ (Nat.le_refl _)
      have z3 := s3.2 _ (Nat.le_refl _)
      refine ⟨_, _, _, _, 1040, 1040, rfl, hv1.ex e5, hv2, z1, z2, by decide, by decide, by decide, fun v4 H6 e6 hv4 => ?_⟩
      refine ⟨_, _, _, _, 1040, 2080, rfl, hv3.ex (e4.trans (e5.trans e6)), hv4, z3, z1.mul z2, by decide, by decide, by decide, fun v H' e hv => kk v H' (e2.trans (e3.trans (e4.trans (e5.trans (e6.trans e))))) ?_⟩
      rw [FS_P (by omega), FS_P (by omega), FS_P (by omega)] at hv
      rw [← Mth.moment (by omega) okS.lt okT.lt]
      exact hv
end
end K18
end
section
set_option Elab.async false
set_option linter.all false
set_option maxRecDepth 100000
set_option maxHeartbeats 4000000
namespace K18
open PySem PySem.Spec PyProof.Rows L2
/-! ### own -/
def Z0 : Nat → (Nat → Rat) → Nat
  | 0, _ => 0
  | n + 1, f => Z0 n f + if f n = 0 then 1 else 0
theorem Z0_one (n : Nat) (f : Nat → Rat) : Z0 n f ≤ n := by
  induction n with
  | zero => exact Nat.le_refl _
  | succ n ih => show Z0 n f + (if f n = 0 then 1 else 0) ≤ n + 1; split <;> omega
theorem Z0_congr {f g : Nat → Rat} : ∀ {n : Nat}, (∀ i, i < n → f i = g i) → Z0 n f = Z0 n g
  | 0, _ => rfl
  | n + 1, h => by show Z0 n f + _ = Z0 n g + _; rw [Z0_congr fun i hi => h i (by omega), h n (by omega)]
theorem Z0_set {f : Nat → Rat} {i : Nat} {r : Rat} (h0 : f i = 0) (hr : r ≠ 0) : ∀ {n : Nat}, i < n → Z0 n (fun j => if j = i then r else f j) + 1 ≤ Z0 n f
  | 0, h => absurd h (Nat.not_lt_zero _)
  | n + 1, h => by
    show Z0 n _ + (if (if n = i then r else f n) = 0 then 1 else 0) + 1 ≤ Z0 n f + (if f n = 0 then 1 else 0)
    by_cases e : n = i
    · subst e
      rw [if_pos rfl, if_neg hr, if_pos h0, Z0_congr (g := f) fun j hj => if_neg (by omega)]
      omega
    · rw [if_neg e]
      have := Z0_set h0 hr (n := n) (by omega)
      omega
theorem num_pos' {q : Rat} : 0 < q.num ↔ 0 < q := by
  constructor
  · intro h
    have h1 : 0 ≤ q := Rat.num_nonneg.mp (by omega)
    have h2 : q ≠ 0 := fun z => by rw [z] at h; exact absurd h (by decide)
    grind
  · intro h
    have h1 : 0 ≤ q.num := Rat.num_nonneg.mpr (by grind)
    have h2 : q.num ≠ 0 := fun z => by
      have := Rat.num_eq_zero.mp z
      grind
    omega
theorem fr_pos {a b : Int} (h : 0 < a * b) : 0 < Mth.fr a b := by
  have key : ∀ a b : Int, 0 < a → 0 < b → 0 < Mth.fr a b := fun a b ha hb => by
    unfold Mth.fr
    rw [Rat.div_def]
    exact Rat.mul_pos (Rat.intCast_pos.mpr ha) (Rat.inv_pos.mpr (Rat.intCast_pos.mpr hb))
  have hs : (0 < a ∧ 0 < b) ∨ (a < 0 ∧ b < 0) := by
    rcases Int.lt_trichotomy a 0 with ha | ha | ha
    · rcases Int.lt_trichotomy b 0 with hb | hb | hb
      · exact .inr ⟨ha, hb⟩
      · subst hb; rw [Int.mul_zero] at h; omega
      · have := Int.mul_neg_of_neg_of_pos ha hb; omega
    · subst ha; rw [Int.zero_mul] at h; omega
    · rcases Int.lt_trichotomy b 0 with hb | hb | hb
      · have := Int.mul_neg_of_pos_of_neg ha hb; omega
      · subst hb; rw [Int.mul_zero] at h; omega
      · exact .inl ⟨ha, hb⟩
  rcases hs with ⟨h1, h2⟩ | ⟨h1, h2⟩
  · exact key a b h1 h2
  · rw [← Mth.fr_neg (by omega)]
    exact key _ _ (by omega) (by omega)
/-- the weights so far -/
structure OW (K : PySem.W.Frag) (H0 H : Hp) (p n : Nat) (f : Nat → Rat) : Prop where
  e : Ex H0 H
  xs : ∃ xs, H p = some (.lst xs) ∧ xs.length = n ∧ At (FracR K f) xs H
  nn : ∀ i, i < n → f i ≠ 0 → 0 < (f i).num
  sz : ∃ c, c + Z0 n f ≤ n ∧ ∀ i, i < n → Mth.Sz (1 + 26 * c) (f i)
theorem OW.ex {K : PySem.W.Frag} {H0 H H' : Hp} {p n : Nat} {f : Nat → Rat} (h : OW K H0 H p n f) (e : Ex H H') : OW K H0 H' p n f :=
  ⟨h.e.trans e, let ⟨xs, h1, h2, h3⟩ := h.xs; ⟨xs, e _ _ h1, h2, h3.ex mono_frac e⟩, h.nn, h.sz⟩
theorem OW.set {K : PySem.W.Frag} {H0 H : Hp} {p n i : Nat} {f : Nat → Rat} {xs : List V} {v : V} {r : Rat} (h : OW K H0 H p n f) (hp0 : H0 p = none) (hx : H p = some (.lst xs)) (hi : i < n) (h0 : f i = 0) (hv : Frac K H v r) (hr : 0 < r.num)
    (hz : ∀ c, (∀ i, i < n → Mth.Sz (1 + 26 * c) (f i)) → Mth.Sz (1 + 26 * (c + 1)) r) : OW K H0 (upd H p (.lst (xs.set i v))) p n (fun j => if j = i then r else f j) := by
  obtain ⟨xs', h1, h2, h3⟩ := h.xs
  rw [hx] at h1
  cases h1
  have up : ∀ b o, b ≠ p → H b = some o → (upd H p (.lst (xs.set i v))) b = some o := fun b o hb q => by rw [upd_ne hb]; exact q
  have hr0 : r ≠ 0 := fun z => by rw [z] at hr; exact absurd hr (by decide)
  refine ⟨h.e.mut hp0, ⟨_, upd_same, by rw [List.length_set]; exact h2, fun j w hw => ?_⟩, fun j hj hne => ?_, ?_⟩
  · show Frac K _ w (if j = i then r else f j)
    by_cases e : j = i
    · subst e
      rw [List.getElem?_set_self (by omega)] at hw
      cases hw
      rw [if_pos rfl]
      exact Frac.exD hx up hv
    · rw [List.getElem?_set_ne (fun z => e z.symm)] at hw
      rw [if_neg e]
      exact Frac.exD hx up (h3 j w hw)
  · show 0 < (if j = i then r else f j : Rat).num
    have hne' : (if j = i then r else f j) ≠ 0 := hne
    by_cases e : j = i
    · rw [if_pos e]; exact hr
    · rw [if_neg e] at hne' ⊢; exact h.nn j hj hne'
  · obtain ⟨c, hc, hs⟩ := h.sz
    have := Z0_set h0 hr0 hi
    refine ⟨c + 1, by omega, fun j hj => ?_⟩
    show Mth.Sz _ (if j = i then r else f j)
    by_cases e : j = i
    · rw [if_pos e]; exact hz c hs
    · rw [if_neg e]; exact (hs j hj).mono (by omega)
section
variable {K : PySem.W.Frag} {H0 H : Hp} {p n i a b : Nat} {f : Nat → Rat} {σ : L2.St} {Q : VK}
theorem rd_owV (h : OW K H0 H p n f) (h0 : σ[a]? = some (some (.ref p))) (h1 : σ[b]? = some (some (.int (i : Nat)))) (hi : i < n) (q : ∀ v, Frac K H v (f i) → Q v H) : tOp (rIxL K) (tVar a) (tVar b) σ H Q := by
  obtain ⟨xs, hx, hl, ha⟩ := h.xs
  obtain ⟨v, ev, hv⟩ := ha.get (i := i) (by omega)
  exact ⟨_, h0, _, h1, p, xs, _, _, rfl, rfl, SqL.of hx, at_some ev, q v hv⟩
theorem rd_ow0 (h : OW K H0 H p n f) (h0 : σ[a]? = some (some (.ref p))) (h1 : σ[b]? = some (some (.int (i : Nat)))) (hi : i < n) (q : Q (.int (f i).num) H) : tOp (rIxT K) (tOp (rIxL K) (tVar a) (tVar b)) (tC (.int 0)) σ H Q := by
  refine rd_owV (Q := fun x H1 => tC (.int 0) σ H1 fun y H2 => rIxT K x y H2 Q) h h0 h1 hi fun v ⟨pv', ev, hv⟩ => ?_
  subst ev
  exact ⟨pv', _, 0, _, rfl, rfl, hv, rfl, q⟩
theorem rd_ow1 (h : OW K H0 H p n f) (h0 : σ[a]? = some (some (.ref p))) (h1 : σ[b]? = some (some (.int (i : Nat)))) (hi : i < n) (q : Q (.int ((f i).den : Nat)) H) : tOp (rIxT K) (tOp (rIxL K) (tVar a) (tVar b)) (tC (.int 1)) σ H Q := by
  refine rd_owV (Q := fun x H1 => tC (.int 1) σ H1 fun y H2 => rIxT K x y H2 Q) h h0 h1 hi fun v ⟨pv', ev, hv⟩ => ?_
  subst ev
  exact ⟨pv', _, 1, _, rfl, rfl, hv, rfl, q⟩
end
/-- the links go both ways, with the same sign -/
def Bal (n : Nat) (A : Mth.Mat) : Prop := ∀ i, i < n → ∀ j, j < n → 0 ≤ A i j * A j i ∧ (A i j = 0 → A j i = 0)
theorem bal_of {n : Nat} {A : Mth.Mat} {f : Nat → Rat} (hp : ∀ i, i < n → 0 < (f i).num) (h : ∀ i, i < n → ∀ j, j < n → (f i).num * A i j * (f j).den = (f j).num * A j i * (f i).den) : Bal n A := fun i hi j hj => by
  have e := h i hi j hj
  have p1 : 0 < (f i).num * (f j).den := Int.mul_pos (hp i hi) (Mth.den_pos _)
  have p2 : 0 < (f j).num * (f i).den := Int.mul_pos (hp j hj) (Mth.den_pos _)
  have e' : ((f i).num * (f j).den) * A i j = ((f j).num * (f i).den) * A j i := by grind
  generalize (f i).num * ((f j).den : Int) = x at *
  generalize (f j).num * ((f i).den : Int) = y at *
  refine ⟨?_, fun z => ?_⟩
  · have h1 : (x * y) * (A i j * A j i) = (y * A j i) * (y * A j i) := by grind
    have h2 : 0 ≤ (y * A j i) * (y * A j i) := by
      rcases Int.le_total 0 (y * A j i) with q | q
      · exact Int.mul_nonneg q q
      · exact Int.mul_nonneg_of_nonpos_of_nonpos q q
    have h3 : 0 < x * y := Int.mul_pos p1 p2
    by_cases q : A i j * A j i < 0
    · have := Int.mul_neg_of_pos_of_neg h3 q
      omega
    · omega
  · rw [z, Int.mul_zero] at e'
    rcases Int.mul_eq_zero.mp e'.symm with q | q
    · omega
    · exact q
section
variable {P : Program} {w : World} {K : PySem.W.Frag} {mg : Str → Option Value} {base : Heap} {C : Addr}
def spOwn (K : PySem.W.Frag) : Sp := fun vs H Q _ => ∃ (t : V) (D : Int) (n : Nat) (A : Mth.Mat), vs = [t] ∧ LT H t D n A ∧ n ≤ 5 ∧ Bnd 24 n A ∧ (∀ H', Ex H H' → Q .non H') ∧ (∀ p H', Ex H H' → Bal n A → Q (.ref p) H')
theorem sc_own : FnScope ["_law_table", "_law_size_here", "_law_found", "_law_start", "_law_turn", "_law_at", "_law_to", "_law_ahead", "_law_back"] ["_law_table"] (C8.fnScope (top 78)) := C8.fnScope_by (by decide +kernel)
theorem cal_own (B : Bt mg) (D : DD K mg "_law_own" 78) (c_l_mul : C8.Cal P w K mg base 3 "_law_mul" (spBin (· * ·) K) []) (c_l_low : C8.Cal P w K mg base 2 "_law_low" (spLow K) []) : C8.Cal P w K mg base 4 "_law_own" (spOwn K) [] := by
  refine cal_mk D sc_own (fun _ _ _ _ _ _ us hl => match us, hl with | [_], _ => rfl) (fun vs H Q E h => ?_) (fun f cdv A outer s H vs Q E hr h => ?_)
  · obtain ⟨t, D, n, A, rfl, _⟩ := h; rfl
  · obtain ⟨t, Db, n, A, rfl, ht, hn, hA, kn, kb⟩ := h
    have nd := sc_own.nd
    refine ⟨_, (pss_cons (pset 1 nd (pe_callB (call_lenK K) (by rfl) B.len PySem.boot_len (pa_cons (pe_ix (ix_listK K) (pv 0) pe_int (fun _ _ => rfl)) pa_nil)))
    (pss_cons (ps_setLc (i := 2) (own := [("_law_at", 5)]) rfl nd rfl rfl (sw_true rfl rfl rfl (by decide +kernel)) (pi_range1 (by rfl) B.range (pa_cons (pv 1) pa_nil)) (blkOk_by (own := [("_law_at", 5)]) (N := ["_law_table", "_law_size_here", "_law_found", "_law_start", "_law_turn", "_law_at", "_law_to", "_law_ahead", "_law_back"]) (by kernel_rfl)) (fun _ _ _ _ _ => (pgn 5 nd)) (fun _ _ _ _ _ => pts_nil) (fun _ _ _ _ _ => (pe_tup (pa_cons pe_int (pa_cons pe_int pa_nil)))))
    (pss_cons (ps_for PassesOwn.never rfl (pi_range1 (by rfl) B.range (pa_cons (pv 1) pa_nil)) (pgn 3 nd)
      (pss_one (ps_if (pt_cmpR op_eq (pe_ix (ix_tupK K) (pe_ix (ix_listK K) (pv 2) (pv 3) (fun _ _ => rfl)) pe_int (fun _ _ => rfl)) pe_int (nomark _)) (pss_cons (ps_asg (pe_tup (pa_cons pe_int (pa_cons pe_int pa_nil))) (pg_sub (pv 2) (pv 3) set_list))
        (pss_one (ps_for PassesOwn.never rfl (pi_range1 (by rfl) B.range (pa_cons (pv 1) pa_nil)) (pgn 4 nd)
          (pss_one (ps_for PassesOwn.never rfl (pi_range1 (by rfl) B.range (pa_cons (pv 1) pa_nil)) (pgn 5 nd)
            (pss_one (ps_for PassesOwn.never rfl (pi_range1 (by rfl) B.range (pa_cons (pv 1) pa_nil)) (pgn 6 nd)
              (pss_cons (pset 7 nd (pe_ix (ix_listK K) (pe_ix (ix_listK K) (pe_ix (ix_listK K) (pv 0) pe_int (fun _ _ => rfl)) (pv 5) (fun _ _ => rfl)) (pv 6) (fun _ _ => rfl)))
              (pss_cons (pset 8 nd (pe_ix (ix_listK K) (pe_ix (ix_listK K) (pe_ix (ix_listK K) (pv 0) pe_int (fun _ _ => rfl)) (pv 6) (fun _ _ => rfl)) (pv 5) (fun _ _ => rfl)))
              (pss_one (ps_if (PW.pt (pw_and (pt_cmpR op_ne (pv 5) (pv 6) (nomark _)) (pw_and (pt_cmpR op_gt (pe_ix (ix_tupK K) (pe_ix (ix_listK K) (pv 2) (pv 5) (fun _ _ => rfl)) pe_int (fun _ _ => rfl)) pe_int (nomark _)) (pw_and (pt_cmpR op_eq (pe_ix (ix_tupK K) (pe_ix (ix_listK K) (pv 2) (pv 6) (fun _ _ => rfl)) pe_int (fun _ _ => rfl)) pe_int (nomark _)) (pw_and1 (pt_cmpR op_gt (pe_op op_mulW (pv 7) (pv 8)) pe_int (nomark _))))))) (pss_one (ps_asg (C8.pe_c c_l_mul hr (by decide) (by rfl) (pa_cons (pe_ix (ix_listK K) (pv 2) (pv 5) (fun _ _ => rfl)) (pa_cons (C8.pe_c c_l_low hr (by decide) (by rfl) (pa_cons (pv 7) (pa_cons (pv 8) pa_nil))) pa_nil))) (pg_sub (pv 2) (pv 6) set_list))) pss_nil))))))))))) pss_nil)))
    (pss_cons (ps_for PassesOwn.never rfl (pi_range1 (by rfl) B.range (pa_cons (pv 1) pa_nil)) (pgn 5 nd)
      (pss_one (ps_for PassesOwn.never rfl (pi_range1 (by rfl) B.range (pa_cons (pv 1) pa_nil)) (pgn 6 nd)
        (pss_cons (pset 7 nd (pe_op op_mulW (pe_op op_mulW (pe_ix (ix_tupK K) (pe_ix (ix_listK K) (pv 2) (pv 5) (fun _ _ => rfl)) pe_int (fun _ _ => rfl)) (pe_ix (ix_listK K) (pe_ix (ix_listK K) (pe_ix (ix_listK K) (pv 0) pe_int (fun _ _ => rfl)) (pv 5) (fun _ _ => rfl)) (pv 6) (fun _ _ => rfl))) (pe_ix (ix_tupK K) (pe_ix (ix_listK K) (pv 2) (pv 6) (fun _ _ => rfl)) pe_int (fun _ _ => rfl))))
        (pss_one (ps_if (pt_cmpR op_ne (pv 7) (pe_op op_mulW (pe_op op_mulW (pe_ix (ix_tupK K) (pe_ix (ix_listK K) (pv 2) (pv 6) (fun _ _ => rfl)) pe_int (fun _ _ => rfl)) (pe_ix (ix_listK K) (pe_ix (ix_listK K) (pe_ix (ix_listK K) (pv 0) pe_int (fun _ _ => rfl)) (pv 6) (fun _ _ => rfl)) (pv 5) (fun _ _ => rfl))) (pe_ix (ix_tupK K) (pe_ix (ix_listK K) (pv 2) (pv 5) (fun _ _ => rfl)) pe_int (fun _ _ => rfl))) (nomark _)) (pss_one (ps_ret pe_non)) pss_nil))))))
    (pss_one (ps_ret (pe_callTy (call_tupK K) (by rfl) B.tuple PyProof.Rows.boot_tuple (pa_cons (pv 2) pa_nil)))))))), ?_⟩
    refine rd_ltN ht rfl ⟨_, rfl, _, rfl, by omega, by omega, fun p2 hp2 => ?_⟩
    refine lcA walk_rng gm_true (lt_sz (by omega)) (P := FracR K fun _ => 0) mono_frac monoD_frac hp2 True.intro ?_ ?_
    · rintro i x H2 H2' Kt hi e2 _ ⟨rfl, rfl⟩ _ kt
      exact ⟨rfl, by show 2 ≤ sizeLine; decide, fun q hq => kt _ _ (Evl.Ex.new hq) TupV.new⟩
    intro H5 ys5 e5 h5 hl5 ha5
    have ow0 : OW K H H5 p2 n (fun _ => 0) := ⟨e5, ⟨ys5, h5, by rw [hl5]; rfl, ha5⟩, fun i _ h => absurd rfl h, 0, by have := Z0_one n (fun _ => 0); omega, fun i _ => ⟨by decide, by decide⟩⟩
    refine ⟨_, rfl, _, rfl, by omega, by omega, ?_⟩
    refine for_rg (a := 0) rfl (by omega : (n : Int).toNat = n) (Pv := fun k σ' H' => ∃ (a3 a4 a5 a6 a7 a8 : Option V) (f : Nat → Rat), σ' = [some t, some (.int n), some (.ref p2), a3, a4, a5, a6, a7, a8] ∧ OW K H H' p2 n f ∧ ∀ i, i < k → f i ≠ 0)
      ⟨_, _, _, _, _, _, _, rfl, ow0, fun i h => by omega⟩ ?_ ?_
    · rintro k σ' H6 hk ⟨a3, a4, a5, a6, a7, a8, f, rfl, ow, hne⟩
      rw [Nat.zero_add]
      refine rd_ow0 ow rfl rfl hk ⟨rfl, _, rfl, ?_⟩
      by_cases hz : (f k).num = 0
      · rw [show decide (V.int (f k).num = V.int 0) = true by rw [hz]; exact decide_eq_true rfl]
        have hfk : f k = 0 := Rat.num_eq_zero.mp hz
        refine iteT ⟨by show 2 ≤ sizeLine; decide, fun q hq => ?_⟩
        have owq := ow.ex (Evl.Ex.new (o := .tup [.int 1, .int 1]) hq)
        obtain ⟨xs, hx, hl, _⟩ := id owq.xs
        refine ⟨_, rfl, _, rfl, p2, xs, _, k, rfl, rfl, hx, Evl.ixN_nat (by omega), ?_⟩
        have ow1 := owq.set hp2 hx hk hfk (v := .ref q) (r := 1) TupV.new (by decide) (fun c _ => ⟨by show 1 < _; exact Nat.one_lt_two_pow (by omega), by show 1 < _; exact Nat.one_lt_two_pow (by omega)⟩)
        have hne1 : ∀ i, i < k + 1 → (fun j => if j = k then (1 : Rat) else f j) i ≠ 0 := fun i hi => by
          show (if i = k then (1 : Rat) else f i) ≠ 0
          by_cases e : i = k
          · rw [if_pos e]; decide
          · rw [if_neg e]; exact hne i (by omega)
        generalize (fun j => if j = k then (1 : Rat) else f j) = f1 at ow1 hne1
        generalize upd (upd H6 q (.tup [.int 1, .int 1])) p2 (.lst (xs.set k (.ref q))) = H7 at ow1
        refine ⟨_, rfl, _, rfl, by omega, by omega, ?_⟩
        refine for_rg (a := 0) rfl (by omega : (n : Int).toNat = n) (Pv := fun _ σ' H' => ∃ (a4 a5 a6 a7 a8 : Option V) (f : Nat → Rat), σ' = [some t, some (.int n), some (.ref p2), some (.int (k : Nat)), a4, a5, a6, a7, a8] ∧ OW K H H' p2 n f ∧ ∀ i, i < k + 1 → f i ≠ 0)
          ⟨_, _, _, _, _, f1, rfl, ow1, hne1⟩ ?_ ?_
        · rintro m σ' H8 hm ⟨b4, b5, b6, b7, b8, f2, rfl, ow2, hne2⟩
          rw [Nat.zero_add]
          refine ⟨_, rfl, _, rfl, by omega, by omega, ?_⟩
          refine for_rg (a := 0) rfl (by omega : (n : Int).toNat = n) (Pv := fun _ σ' H' => ∃ (a4 a5 a6 a7 a8 : Option V) (f : Nat → Rat), σ' = [some t, some (.int n), some (.ref p2), some (.int (k : Nat)), a4, a5, a6, a7, a8] ∧ OW K H H' p2 n f ∧ ∀ i, i < k + 1 → f i ≠ 0)
            ⟨_, _, _, _, _, f2, rfl, ow2, hne2⟩ ?_ (fun _ _ h => h)
          rintro at' σ' H9 hat ⟨c4, c5, c6, c7, c8, f3, rfl, ow3, hne3⟩
          rw [Nat.zero_add]
          refine ⟨_, rfl, _, rfl, by omega, by omega, ?_⟩
          refine for_rg (a := 0) rfl (by omega : (n : Int).toNat = n) (Pv := fun _ σ' H' => ∃ (a6 a7 a8 : Option V) (f : Nat → Rat), σ' = [some t, some (.int n), some (.ref p2), some (.int (k : Nat)), c4, some (.int (at' : Nat)), a6, a7, a8] ∧ OW K H H' p2 n f ∧ ∀ i, i < k + 1 → f i ≠ 0)
            ⟨_, _, _, f3, rfl, ow3, hne3⟩ ?_ ?_
          · rintro to' σ' H10 hto ⟨d6, d7, d8, f4, rfl, ow4, hne4⟩
            rw [Nat.zero_add]
            have ht4 := ht.ex ow4.e
            have hA1 := hA at' hat to' hto
            have hA2 := hA to' hto at' hat
            refine rd_lt ht4 rfl rfl rfl hat hto (rd_lt ht4 rfl rfl rfl hto hat ?_)
            have skip : ∃ (a6 a7 a8 : Option V) (f : Nat → Rat), ([some t, some (.int n), some (.ref p2), some (.int (k : Nat)), c4, some (.int (at' : Nat)), some (.int (to' : Nat)), some (.int (A at' to')), some (.int (A to' at'))] : L2.St) = [some t, some (.int n), some (.ref p2), some (.int (k : Nat)), c4, some (.int (at' : Nat)), a6, a7, a8] ∧ OW K H H10 p2 n f ∧ ∀ i, i < k + 1 → f i ≠ 0 := ⟨_, _, _, f4, rfl, ow4, hne4⟩
            refine ⟨_, rfl, _, rfl, rfl, _, rfl, ?_⟩
            cases decide (V.int ((at' : Nat) : Int) = V.int ((to' : Nat) : Int)) with
            | true => exact iteF (iteF skip)
            | false =>
              refine iteT (rd_ow0 ow4 rfl rfl hat ⟨_, _, rfl, rfl, _, rfl, ?_⟩)
              by_cases g1 : (f4 at').num > 0
              · rw [decide_eq_true g1]
                refine iteT (rd_ow0 ow4 rfl rfl hto ⟨rfl, _, rfl, ?_⟩)
                by_cases g2 : (f4 to').num = 0
                · rw [show decide (V.int (f4 to').num = V.int 0) = true by rw [g2]; exact decide_eq_true rfl]
                  refine iteT ⟨_, rfl, _, rfl, _, _, rfl, rfl, wmul hA1 hA2 (by decide) (by decide) (by decide), _, _, rfl, rfl, _, rfl, ?_⟩
                  by_cases g3 : A at' to' * A to' at' > 0
                  · rw [decide_eq_true g3]
                    refine iteT (rd_owV ow4 rfl rfl hat fun v hv => ?_)
                    have hb0 : A to' at' ≠ 0 := fun z => by rw [z, Int.mul_zero] at g3; omega
                    refine ⟨_, rfl, _, rfl, A at' to', A to' at', rfl, hb0, Mth.lt_mono hA1 (by decide), Mth.lt_mono hA2 (by decide), fun w H11 e11 hw => ?_⟩
                    obtain ⟨c, hc, hs⟩ := id ow4.sz
                    have hcn : c ≤ 5 := by omega
                    have zf := Mth.Sz.frn hb0 hA1 hA2
                    refine ⟨v, w, _, _, 1 + 26 * c, 24, rfl, hv.ex e11, hw, hs at' hat, zf, by omega, by decide, by rw [big_eq]; omega, fun z H12 e12 hz' => ?_⟩
                    have ow5 := ow4.ex (e11.trans e12)
                    obtain ⟨xs', hx', hl', _⟩ := id ow5.xs
                    refine ⟨_, rfl, _, rfl, p2, xs', _, to', rfl, rfl, hx', Evl.ixN_nat (by omega), _, _, _, _, rfl, ow5.set hp2 hx' hto (Rat.num_eq_zero.mp g2) hz' (num_pos'.mpr (Rat.mul_pos (num_pos'.mp g1) (fr_pos g3))) (fun c' hs' => ((hs' at' hat).mul zf).mono (by omega)), fun i hi => ?_⟩
                    show (if i = to' then _ else f4 i) ≠ 0
                    by_cases e : i = to'
                    · exact absurd (Rat.num_eq_zero.mp g2) (e ▸ hne4 i hi)
                    · rw [if_neg e]; exact hne4 i hi
                  · rw [decide_eq_false g3]
                    exact iteF skip
                · rw [decide_eq_false (fun q => g2 (by injection q))]
                  exact iteF (iteF skip)
              · rw [decide_eq_false g1]
                exact iteF (iteF skip)
          · rintro σ' H10 ⟨d6, d7, d8, f4, rfl, ow4, hne4⟩
            exact ⟨_, _, _, _, _, f4, rfl, ow4, hne4⟩
        · rintro σ' H8 ⟨b4, b5, b6, b7, b8, f2, rfl, ow2, hne2⟩
          exact ⟨_, _, _, _, _, _, f2, rfl, ow2, hne2⟩
      · rw [decide_eq_false (fun q => hz (by injection q))]
        refine iteF ⟨_, _, _, _, _, _, f, rfl, ow, fun i hi => ?_⟩
        by_cases e : i = k
        · rw [e]; exact fun z => hz (by rw [z]; rfl)
        · exact hne i (by omega)
    · rintro σ' H6 ⟨a3, a4, a5, a6, a7, a8, f, rfl, ow, hne⟩
      have ht6 := ht.ex ow.e
      obtain ⟨c, hc, hs⟩ := id ow.sz
      have hcn : c ≤ 5 := by omega
      have sz : ∀ i, i < n → Mth.Sz 200 (f i) := fun i hi => (hs i hi).mono (by omega)
      refine ⟨_, rfl, _, rfl, by omega, by omega, ?_⟩
      refine for_rg (a := 0) rfl (by omega : (n : Int).toNat = n) (Pv := fun k σ' H' => H' = H6 ∧ (∃ (a5 a6 a7 : Option V), σ' = [some t, some (.int n), some (.ref p2), a3, a4, a5, a6, a7, a8]) ∧ ∀ i, i < k → ∀ j, j < n → (f i).num * A i j * (f j).den = (f j).num * A j i * (f i).den)
        ⟨rfl, ⟨_, _, _, rfl⟩, fun i h => by omega⟩ ?_ ?_
      · rintro k σ' H7 hk ⟨rfl, ⟨b5, b6, b7, rfl⟩, he⟩
        rw [Nat.zero_add]
        refine ⟨_, rfl, _, rfl, by omega, by omega, ?_⟩
        refine for_rg (a := 0) rfl (by omega : (n : Int).toNat = n) (Pv := fun m σ' H' => H' = H7 ∧ (∃ (a6 a7 : Option V), σ' = [some t, some (.int n), some (.ref p2), a3, a4, some (.int (k : Nat)), a6, a7, a8]) ∧ ∀ j, j < m → (f k).num * A k j * (f j).den = (f j).num * A j k * (f k).den)
          ⟨rfl, ⟨_, _, rfl⟩, fun i h => by omega⟩ ?_ ?_
        · rintro m σ' H8 hm ⟨rfl, ⟨c6, c7, rfl⟩, he2⟩
          rw [Nat.zero_add]
          have s1 := sz k hk
          have s2 := sz m hm
          have hA1 := hA k hk m hm
          have hA2 := hA m hm k hk
          refine rd_ow0 ow rfl rfl hk (rd_lt ht6 rfl rfl rfl hk hm ⟨_, _, rfl, rfl, wmul s1.1 hA1 (by decide) (by decide) (by decide), rd_ow1 ow rfl rfl hm ⟨_, _, rfl, rfl, wmul (Mth.mul_lt s1.1 hA1) s2.den (by decide) (by decide) (by decide), ?_⟩⟩)
          refine ⟨_, rfl, rd_ow0 ow rfl rfl hm (rd_lt ht6 rfl rfl rfl hm hk ⟨_, _, rfl, rfl, wmul s2.1 hA2 (by decide) (by decide) (by decide), rd_ow1 ow rfl rfl hk ⟨_, _, rfl, rfl, wmul (Mth.mul_lt s2.1 hA2) s1.den (by decide) (by decide) (by decide), rfl, _, rfl, ?_⟩⟩)⟩
          by_cases ee : (f k).num * A k m * (f m).den = (f m).num * A m k * (f k).den
          · have hd : (!decide (V.int ((f k).num * A k m * ((f m).den : Nat)) = V.int ((f m).num * A m k * ((f k).den : Nat)))) = false := by rw [decide_eq_true (by rw [ee])]; rfl
            show if (!decide (V.int ((f k).num * A k m * ((f m).den : Nat)) = V.int ((f m).num * A m k * ((f k).den : Nat)))) = true then _ else _
            rw [hd]
            refine iteF ⟨rfl, ⟨_, _, rfl⟩, fun j hj => ?_⟩
            by_cases e : j = m
            · rw [e]; exact ee
            · exact he2 j (by omega)
          · have hd : (!decide (V.int ((f k).num * A k m * ((f m).den : Nat)) = V.int ((f m).num * A m k * ((f k).den : Nat)))) = true := by rw [decide_eq_false (fun q => ee (by injection q))]; rfl
            show if (!decide (V.int ((f k).num * A k m * ((f m).den : Nat)) = V.int ((f m).num * A m k * ((f k).den : Nat)))) = true then _ else _
            rw [hd]
            exact iteT (kn _ ow.e)
        · rintro σ' H8 ⟨rfl, ⟨c6, c7, rfl⟩, he2⟩
          refine ⟨rfl, ⟨_, _, _, rfl⟩, fun i hi => ?_⟩
          by_cases e : i = k
          · rw [e]; exact he2
          · exact he i (by omega)
      · rintro σ' H7 ⟨rfl, ⟨b5, b6, b7, rfl⟩, he⟩
        obtain ⟨xs, hx, hl, _⟩ := ow.xs
        exact ⟨_, rfl, p2, xs, rfl, .inl ⟨SqL.of hx, fun q hq => kb q _ (ow.e.trans (Evl.Ex.new hq)) (bal_of (fun i hi => ow.nn i hi (hne i hi)) he)⟩⟩
end
end K18
end
section
set_option Elab.async false
set_option linter.all false
set_option maxRecDepth 100000
set_option maxHeartbeats 4000000
namespace K18
open PySem PySem.Spec PyProof.Rows L2
section
variable {P : Program} {w : World} {K : PySem.W.Frag} {mg : Str → Option Value} {base : Heap} {C : Addr}
/-- no entry from S to T -/
def NoL (A : Mth.Mat) (S T : List Nat) : Prop := ∀ a ∈ S, ∀ b ∈ T, A a b = 0
def spLinks (K : PySem.W.Frag) : Sp := fun vs H Q _ => ∃ (t x y : V) (D : Int) (n : Nat) (A : Mth.Mat) (S T : List Nat), vs = [t, x, y] ∧ LT H t D n A ∧ TupV K H x (nV S) ∧ TupV K H y (nV T) ∧ n ≤ 5 ∧ LotOk S n ∧ LotOk T n ∧
  ∀ p ys H', Ex H H' → H' p = some (.lst ys) → (ys = [] ↔ NoL A S T) → Q (.ref p) H'
theorem filter_nil {p : Nat → Bool} {n : Nat} : (List.range n).filter p = [] ↔ ∀ i, i < n → p i = false := by
  rw [List.filter_eq_nil_iff]
  exact ⟨fun h i hi => by simpa using h i (List.mem_range.mpr hi), fun h i hi => by rw [h i (List.mem_range.mp hi)]; exact Bool.false_ne_true⟩
theorem sc_links : FnScope ["_law_table", "_law_one", "_law_other", "_law_found", "_law_at", "_law_to"] ["_law_table", "_law_one", "_law_other"] (C8.fnScope (top 83)) := C8.fnScope_by (by decide +kernel)
theorem cal_links (D : DD K mg "_law_links" 83) : C8.Cal P w K mg base 1 "_law_links" (spLinks K) [] := by
  refine cal_mk D sc_links (fun _ _ _ _ _ _ us hl => match us, hl with | [_, _, _], _ => rfl) (fun vs H Q E h => ?_) (fun f cdv A outer s H vs Q E hr h => ?_)
  · obtain ⟨t, x, y, D, n, A, S, T, rfl, _⟩ := h; rfl
  · obtain ⟨t, x, y, Db, n, A, S, T, rfl, ht, ⟨px, rfl, hx⟩, ⟨py, rfl, hy⟩, hn, okS, okT, kk⟩ := h
    have nd := sc_links.nd
    refine ⟨_, (pss_cons (pset 3 nd (pe_lst pa_nil))
    (pss_cons (ps_for PassesOwn.never rfl (pi_tupK K (pv 1)) (pgn 4 nd)
      (pss_one (pset 3 nd (pe_op op_cat (pv 3) (pe_lc (own := [("_law_to", 5)]) rfl nd (pi_tupK K (pv 2)) (blkOk_by (own := [("_law_to", 5)]) (N := ["_law_table", "_law_one", "_law_other", "_law_found", "_law_at", "_law_to"]) (by kernel_rfl)) (fun _ _ _ _ _ => (pgn 5 nd)) (fun _ _ _ _ _ => (pts_one (pt_cmpR op_ne (pe_ix (ix_listK K) (pe_ix (ix_listK K) (pe_ix (ix_listK K) (pv 0) pe_int (fun _ _ => rfl)) (pv 4) (fun _ _ => rfl)) (pv 5) (fun _ _ => rfl)) pe_int (nomark _)))) (fun _ _ _ _ _ => (pe_tup (pa_cons (pv 4) (pa_cons (pv 5) pa_nil)))))))))
    (pss_one (ps_ret (pv 3))))), ?_⟩
    have hSl := okS.len
    have hTl := okT.len
    refine ⟨by decide, fun p hp => ?_⟩
    have e0 := Evl.Ex.new (o := .lst []) hp
    refine ⟨_, rfl, px, rfl, ⟨_, Evl.ex_t e0 hx⟩, ?_⟩
    refine for_it walk_tup (Pv := fun i σ' H' => ∃ (a4 : Option V) (q : Addr) (ys : List V), σ' = [some t, some (.ref px), some (.ref py), some (.ref q), a4, none] ∧ Ex H H' ∧ H' q = some (.lst ys) ∧ ys.length ≤ i * 5 ∧ (ys = [] ↔ NoL A (S.take i) T)) ⟨_, p, [], rfl, e0, upd_same, Nat.zero_le _, ⟨fun _ a ha => (List.not_mem_nil ha).elim, fun _ => rfl⟩⟩ (fun i σ' H' _ h => by obtain ⟨_, _, _, _, e, _⟩ := h; exact Evl.ex_t e hx) ?_ ?_
    · rintro i z σ' H2 H2' hi ⟨a4, q, ys, rfl, e2, h2, hl, hiff⟩ ⟨rfl, ez⟩
      obtain ⟨hil, rfl⟩ := nV_at ez
      have hSi := okS.lt _ (List.getElem_mem hil)
      refine ⟨_, rfl, _, rfl, py, rfl, ⟨_, Evl.ex_t e2 hy⟩, fun D1 hD1 => ?_⟩
      refine lcF walk_tup (fun _ _ g e => Evl.ex_t e g) (by rw [nV_len]; exact lt_sz (by omega)) (P := fun _ _ _ => True) (fun _ _ _ _ _ _ => True.intro) (fun _ _ _ _ _ _ _ _ => True.intro) (fun j => !decide (A S[i] (T.getD j 0) = 0)) hD1 (Evl.ex_t e2 hy) ?_ ?_
      · rintro j w H3 H3' Kt Kf hj e3 hg ⟨rfl, ew⟩ _ kt kf
        obtain ⟨hjl, rfl⟩ := nV_at ew
        rw [getD_at hjl] at kt kf
        refine ⟨rfl, rd_lt (ht.ex (e2.trans e3)) rfl rfl rfl hSi (okT.lt _ (List.getElem_mem hjl)) ⟨rfl, _, rfl, ?_⟩⟩
        by_cases c : A S[i] T[j] = 0
        · rw [show (!decide (V.int (A S[i] T[j]) = V.int 0)) = false by rw [c]; simp]
          exact iteF (kf (by rw [decide_eq_true c]; rfl) _ (Evl.Ex.refl _))
        · rw [show (!decide (V.int (A S[i] T[j]) = V.int 0)) = true by rw [decide_eq_false (fun q => c (by injection q))]; rfl]
          exact iteT ⟨_, rfl, _, rfl, by show 2 ≤ sizeLine; decide, fun q1 hq1 => kt (by rw [decide_eq_false c]; rfl) _ _ (Evl.Ex.new hq1) True.intro⟩
      · intro H3 zs e3 h3 hl3 _
        have hlz : zs.length ≤ 5 := by
          rw [hl3]
          have := List.length_filter_le (fun j => !decide (A S[i] (T.getD j 0) = 0)) (List.range (nV T).length)
          rw [List.length_range] at this
          have h5 : (nV T).length ≤ 5 := by rw [nV_len]; omega
          omega
        have hi5 : i < 5 := by omega
        have h23 := e3 _ _ h2
        refine ⟨q, D1, ys, zs, rfl, rfl, h23, h3, le_sz (by omega), fun p1 hp1 => ⟨_, p1, ys ++ zs, rfl, e2.trans (e3.trans (Evl.Ex.new hp1)), upd_same, by rw [List.length_append, Nat.add_mul]; omega, ?_⟩⟩
        have hz : zs = [] ↔ ∀ b ∈ T, A S[i] b = 0 := by
          rw [← List.length_eq_zero_iff, hl3, List.length_eq_zero_iff, filter_nil, nV_len]
          constructor
          · intro h b hb
            obtain ⟨j, hj, rfl⟩ := List.mem_iff_getElem.mp hb
            have := h j hj
            rw [getD_at hj] at this
            simpa using this
          · intro h j hj
            rw [getD_at hj, h _ (List.getElem_mem hj)]
            rfl
        rw [List.append_eq_nil_iff, hiff, hz]
        constructor
        · rintro ⟨h1, h2⟩ a ha b hb
          rw [List.take_succ_eq_append_getElem hil] at ha
          rcases List.mem_append.mp ha with ha | ha
          · exact h1 a ha b hb
          · rw [List.mem_singleton.mp ha]; exact h2 b hb
        · intro h
          refine ⟨fun a ha b hb => h a ?_ b hb, fun b hb => h _ ?_ b hb⟩
          · rw [List.take_succ_eq_append_getElem hil]; exact List.mem_append_left _ ha
          · rw [List.take_succ_eq_append_getElem hil]; exact List.mem_append_right _ (List.mem_singleton_self _)
    · rintro σ' H2 ⟨a4, q, ys, rfl, e2, h2, hl, hiff⟩
      rw [nV_len, List.take_length] at hiff
      exact ⟨_, rfl, kk q ys H2 e2 h2 hiff⟩
end
end K18
end
section
set_option Elab.async false
set_option linter.all false
set_option maxRecDepth 100000
set_option maxHeartbeats 4000000
namespace K18
open PySem PySem.Spec PyProof.Rows L2
section
variable {P : Program} {w : World} {K : PySem.W.Frag} {mg : Str → Option Value} {base : Heap} {C : Addr}
def spDraws (K : PySem.W.Frag) : Sp := fun vs H Q _ => ∃ (ps : Addr) (is : List Int), vs = [.ref ps] ∧ SqL K H ps (is.map V.int) ∧ ∀ d H', Ex H H' → H d = none → Dig d H' → Q (.ref d) H'
theorem sc_draws : FnScope ["_law_script", "_law_found", "_law_at", "_law_cell", "_law_turn", "_law_seed"] ["_law_script"] (C8.fnScope (top 53)) := C8.fnScope_by (by decide +kernel)
theorem cal_draws (B : Bt mg) (D : DD K mg "_law_draws" 53) : C8.Cal P w K mg base 1 "_law_draws" (spDraws K) [] := by
  refine cal_mk D sc_draws (fun _ _ _ _ _ _ us hl => match us, hl with | [_], _ => rfl) (fun vs H Q E h => ?_) (fun f cdv A outer s H vs Q E hr h => ?_)
  · obtain ⟨ps, is, rfl, _⟩ := h; rfl
  · obtain ⟨ps, is, rfl, hs, kk⟩ := h
    have nd := sc_draws.nd
    refine ⟨_, (pss_cons (pset 1 nd (pe_lst pa_nil))
    (pss_cons (ps_for PassesOwn.never rfl (pi_range1 (by rfl) B.range (pa_cons (pe_callB (call_min2 rfl) (by rfl) B.min PyProof.Rows.boot_min (pa_cons (pe_callB (call_lenK K) (by rfl) B.len PySem.boot_len (pa_cons (pv 0) pa_nil)) (pa_cons pe_int pa_nil))) pa_nil)) (pgn 2 nd)
      (pss_cons (pset 3 nd (pe_callTy call_int1 (by rfl) B.int PyProof.Rows.boot_int (pa_cons (pe_ix (ix_listK K) (pv 0) (pv 2) (fun _ _ => rfl)) pa_nil)))
      (C8.pss_cut (ps_if (pt_cmpR op_lt (pv 3) pe_int (nomark _)) (pss_one (pset 3 nd (pe_op op_sub pe_int (pv 3)))) pss_nil)
      (pss_one (ps_if (pt_cmpR op_ge (pv 3) (pe_op op_pow pe_int pe_int) (nomark _)) (pss_one (ps_for PassesOwn.never rfl (pi_range1 (by rfl) B.range (pa_cons pe_int pa_nil)) (pgn 4 nd)
          (pss_one (ps_if (pt_cmpR op_gt (pv 3) pe_int (nomark _)) (pss_cons (ps_expr (pe_bm PySem.F.plainAttrs_list PySem.F.slot_list_append PySem.F.type_list_append mt_append (pv 1) (pa_cons (pe_op op_mod (pe_callTy call_int1 (by rfl) B.int PyProof.Rows.boot_int (pa_cons (pv 3) pa_nil)) pe_int) pa_nil)))
            (pss_one (pset 3 nd (pe_op op_fdivZ (pv 3) pe_int)))) pss_nil)))) (pss_cons (pset 5 nd (pe_op op_mod (pe_callTy call_int1 (by rfl) B.int PyProof.Rows.boot_int (pa_cons (pe_op op_add (pe_op op_add (pe_op op_mulW (pv 3) pe_int) (pe_op op_mulW (pv 2) pe_int)) pe_int) pa_nil)) pe_int))
        (pss_one (ps_for PassesOwn.never rfl (pi_range1 (by rfl) B.range (pa_cons pe_int pa_nil)) (pgn 4 nd)
          (pss_cons (pset 5 nd (pe_op op_mod (pe_callTy call_int1 (by rfl) B.int PyProof.Rows.boot_int (pa_cons (pe_op op_add (pe_op op_add (pe_op op_add (pe_op op_mulW (pv 5) (pv 5)) (pe_op op_mulW (pv 4) pe_int)) (pe_op op_mulW (pv 2) pe_int)) pe_int) pa_nil)) pe_int))
          (pss_one (ps_expr (pe_bm PySem.F.plainAttrs_list PySem.F.slot_list_append PySem.F.type_list_append mt_append (pv 1) (pa_cons (pv 5) pa_nil)))))))))))))
    (pss_one (ps_ret (pe_revL (pv 1)))))), ?_⟩
    refine ⟨by decide, fun p hp => ?_⟩
    have e0 := Evl.Ex.new (o := .lst []) hp
    refine ⟨_, rfl, ps, _, rfl, .inl (Evl.ex_l e0 hs), _, _, rfl, _, rfl, ?_, ?_, ?_⟩
    · split <;> omega
    · split <;> omega
    have hN : ((if (63 : Int) < ((is.map V.int).length : Int) then (63 : Int) else ((is.map V.int).length : Int))).toNat = min is.length 63 := by
      rw [List.length_map]
      split <;> omega
    refine for_rg (a := 0) rfl hN (Pv := fun i σ' H' => ∃ (a2 a3 a4 a5 : Option V) (ds : List Int), σ' = [some (.ref ps), some (.ref p), a2, a3, a4, a5] ∧ Ex H H' ∧ H' p = some (.lst (ds.map V.int)) ∧ ds.length ≤ i * 55)
      ⟨_, _, _, _, [], rfl, e0, upd_same, Nat.zero_le _⟩ ?_ ?_
    · rintro i σ' H2 hi ⟨a2, a3, a4, a5, ds, rfl, e2, h2, hl⟩
      rw [Nat.zero_add]
      have hil : i < is.length := by omega
      have hi63 : i < 63 := by omega
      refine ⟨_, rfl, _, rfl, ps, _, _, _, rfl, rfl, Evl.ex_l e2 hs, at_some (at_ints hil), .inl ⟨_, rfl, ?_⟩⟩
      refine ⟨fun σ' H' => H' = H2 ∧ ∃ c : Int, 0 ≤ c ∧ σ' = [some (.ref ps), some (.ref p), some (.int (i : Nat)), some (.int c), a4, a5], ?_, ?_⟩
      · refine ⟨_, rfl, _, _, rfl, rfl, _, rfl, ?_⟩
        by_cases hc : is[i] < 0
        · rw [decide_eq_true hc]
          exact iteT ⟨_, rfl, _, _, rfl, rfl, rfl, 5 - is[i], by omega, rfl⟩
        · rw [decide_eq_false hc]
          exact iteF ⟨rfl, is[i], by omega, rfl⟩
      rintro σ' H3 ⟨rfl, c, hc0, rfl⟩
      refine ⟨_, rfl, _, _, rfl, rfl, ⟨by decide, by decide, by decide⟩, _, _, rfl, rfl, _, rfl, ?_⟩
      by_cases hbig : c ≥ (10 : Int) ^ (18 : Int).toNat
      · rw [decide_eq_true hbig]
        refine iteT ⟨_, rfl, by decide, by decide, ?_⟩
        refine for_rg (a := 0) rfl (rfl : (55 : Int).toNat = 55) (Pv := fun j σ' H' => ∃ (c : Int) (a4 a5 : Option V) (ds : List Int), σ' = [some (.ref ps), some (.ref p), some (.int (i : Nat)), some (.int c), a4, a5] ∧ Ex H H' ∧ H' p = some (.lst (ds.map V.int)) ∧ ds.length ≤ i * 55 + j)
          ⟨c, _, _, ds, rfl, e2, h2, hl⟩ ?_ ?_
        · rintro j σ' H4 hj ⟨c4, b4, b5, ds4, rfl, e4, h4, hl4⟩
          refine ⟨_, rfl, _, _, rfl, rfl, _, rfl, ?_⟩
          by_cases hp4 : c4 > 0
          · rw [decide_eq_true hp4]
            refine iteT ⟨_, rfl, lst_ty h4, _, rfl, .inl ⟨_, rfl, _, _, rfl, rfl, by show (0 : Int) < 24; decide, p, _, _, rfl, rfl, h4, by rw [List.length_map]; exact lt_sz (by omega), ?_⟩⟩
            refine ⟨_, rfl, _, _, rfl, rfl, cdivz (by decide) (Mth.lt_mono (a := 5) (by decide) (by decide)), _, _, _, ds4 ++ [c4 % 24], rfl, e4.mut hp, ?_, by rw [List.length_append]; show _ + 1 ≤ _; omega⟩
            rw [upd_same, List.map_append]
            rfl
          · rw [decide_eq_false hp4]
            exact iteF ⟨c4, _, _, ds4, rfl, e4, h4, by omega⟩
        · rintro σ' H4 ⟨c4, b4, b5, ds4, rfl, e4, h4, hl4⟩
          exact ⟨_, _, _, _, ds4, rfl, e4, h4, by rw [Nat.add_mul]; omega⟩
      · rw [decide_eq_false hbig]
        have hsm : c.natAbs < 2 ^ 60 := by
          have h1 : c < (10 : Int) ^ (18 : Int).toNat := by omega
          have h2 : (10 : Int) ^ (18 : Int).toNat = 1000000000000000000 := by decide
          rw [h2] at h1
          omega
        refine iteF ⟨_, rfl, _, _, rfl, rfl, wmul hsm (j := 40014) (b := 16) (by decide) (by decide) (by decide) (by decide), _, rfl, _, _, rfl, rfl, wmul (i := (i : Int)) (j := 1237) (a := 6) (b := 11) (by omega) (by decide) (by decide) (by decide) (by decide), _, _, rfl, rfl, _, _, rfl, rfl, .inl ⟨_, rfl, _, _, rfl, rfl, by show (0 : Int) < 2147483563; decide, ?_⟩⟩
        refine ⟨_, rfl, by decide, by decide, ?_⟩
        refine for_rg (a := 0) rfl (rfl : (7 : Int).toNat = 7) (Pv := fun j σ' H' => ∃ (z : Int) (a4 : Option V) (ds : List Int), σ' = [some (.ref ps), some (.ref p), some (.int (i : Nat)), some (.int c), a4, some (.int z)] ∧ z.natAbs < 2 ^ 31 ∧ Ex H H' ∧ H' p = some (.lst (ds.map V.int)) ∧ ds.length ≤ i * 55 + j)
          ⟨_, _, ds, rfl, ?_, e2, h2, hl⟩ ?_ ?_
        · have h1 := Int.emod_nonneg (c * 40014 + (i : Int) * 1237 + 17) (by decide : (2147483563 : Int) ≠ 0)
          have h2 := Int.emod_lt_of_pos (c * 40014 + (i : Int) * 1237 + 17) (by decide : (0 : Int) < 2147483563)
          show ((c * 40014 + (i : Int) * 1237 + 17) % 2147483563).natAbs < 2 ^ 31
          omega
        · rintro j σ' H4 hj ⟨z, b4, ds4, rfl, hz, e4, h4, hl4⟩
          rw [Nat.zero_add]
          refine ⟨_, rfl, _, rfl, _, _, rfl, rfl, wmul hz hz (by decide) (by decide) (by decide), _, rfl, _, _, rfl, rfl, wmul (i := (j : Int)) (j := 52774) (a := 6) (b := 16) (by omega) (by decide) (by decide) (by decide) (by decide), _, _, rfl, rfl, _, rfl, _, _, rfl, rfl, wmul (i := (i : Int)) (j := 29) (a := 6) (b := 5) (by omega) (by decide) (by decide) (by decide) (by decide), _, _, rfl, rfl, _, _, rfl, rfl, .inl ⟨_, rfl, _, _, rfl, rfl, by show (0 : Int) < 2147483399; decide, ?_⟩⟩
          refine ⟨_, rfl, lst_ty h4, _, rfl, p, _, _, rfl, rfl, h4, by rw [List.length_map]; exact lt_sz (by omega), _, _, ds4 ++ [(z * z + (j : Int) * 52774 + (i : Int) * 29 + 3) % 2147483399], rfl, ?_, e4.mut hp, ?_, by rw [List.length_append]; show _ + 1 ≤ _; omega⟩
          · have h1 := Int.emod_nonneg (z * z + (j : Int) * 52774 + (i : Int) * 29 + 3) (by decide : (2147483399 : Int) ≠ 0)
            have h2 := Int.emod_lt_of_pos (z * z + (j : Int) * 52774 + (i : Int) * 29 + 3) (by decide : (0 : Int) < 2147483399)
            show ((z * z + (j : Int) * 52774 + (i : Int) * 29 + 3) % 2147483399).natAbs < 2 ^ 31
            omega
          · rw [upd_same, List.map_append]
            rfl
        · rintro σ' H4 ⟨z, b4, ds4, rfl, hz, e4, h4, hl4⟩
          exact ⟨_, _, _, _, ds4, rfl, e4, h4, by rw [Nat.add_mul]; omega⟩
    · rintro σ' H2 ⟨a2, a3, a4, a5, ds, rfl, e2, h2, hl⟩
      refine ⟨_, rfl, p, _, rfl, SqL.of h2, fun q hq => kk q _ (e2.trans (Evl.Ex.new hq)) (Evl.fresh_back e2 hq) ⟨ds.reverse, ?_⟩⟩
      rw [upd_same, List.map_reverse]
end
end K18
end
section
set_option Elab.async false
set_option linter.all false
set_option maxRecDepth 100000
set_option maxHeartbeats 4000000
namespace K18
open PySem PySem.Spec PyProof.Rows L2
/-! ### rings, plainly -/
def lnk (k : Nat → Nat → Rat) (a b : Nat) : Bool := decide (a ≠ b ∧ k a b ≠ 0)
def selP (w : List Nat) (p : Nat) : Bool := decide (w.headD 0 < p) && !decide (p ∈ w)
def pairsW (P : List Nat) (ws : List (List Nat)) : List (List Nat × Nat) := ws.flatMap fun w => (P.filter (selP w)).map fun p => (w, p)
def stepW (k : Nat → Nat → Rat) (P : List Nat) (ws : List (List Nat)) : List (List Nat) := ((pairsW P ws).filter fun x => lnk k (x.1.getLastD 0) x.2).map fun x => x.1 ++ [x.2]
def outR (k : Nat → Nat → Rat) (ws : List (List Nat)) : List (List Nat) := ws.filter fun w => lnk k (w.getLastD 0) (w.headD 0)
def waysN (k : Nat → Nat → Rat) (P : List Nat) : Nat → List (List Nat)
  | 0 => P.map fun p => [p]
  | i + 1 => stepW k P (waysN k P i)
def ringsW (k : Nat → Nat → Rat) (P : List Nat) : Nat → Nat → List (List Nat)
  | 0, _ => []
  | m + 1, i => outR k (waysN k P (i + 1)) ++ ringsW k P m (i + 1)
def rings (k : Nat → Nat → Rat) (P : List Nat) : List (List Nat) := ringsW k P (P.length - 1) 0
theorem pairs_mem {P : List Nat} {ws : List (List Nat)} {x : List Nat × Nat} (h : x ∈ pairsW P ws) : x.1 ∈ ws ∧ x.2 ∈ P ∧ selP x.1 x.2 = true := by
  obtain ⟨w, hw, hx⟩ := List.mem_flatMap.mp h
  obtain ⟨p, hp, rfl⟩ := List.mem_map.mp hx
  exact ⟨hw, (List.mem_filter.mp hp).1, (List.mem_filter.mp hp).2⟩
theorem step_mem {k : Nat → Nat → Rat} {P : List Nat} {ws : List (List Nat)} {w : List Nat} (h : w ∈ stepW k P ws) : ∃ v p, w = v ++ [p] ∧ v ∈ ws ∧ p ∈ P ∧ selP v p = true ∧ lnk k (v.getLastD 0) p = true := by
  obtain ⟨x, hx, rfl⟩ := List.mem_map.mp h
  obtain ⟨h1, h2⟩ := List.mem_filter.mp hx
  obtain ⟨a, b, c⟩ := pairs_mem h1
  exact ⟨x.1, x.2, rfl, a, b, c, h2⟩
theorem ways_good {k : Nat → Nat → Rat} {P : List Nat} : ∀ {i : Nat} {w : List Nat}, w ∈ waysN k P i → w.length = i + 1 ∧ ∀ x ∈ w, x ∈ P
  | 0, w, h => by
    obtain ⟨p, hp, rfl⟩ := List.mem_map.mp h
    exact ⟨rfl, fun x hx => by rw [List.mem_singleton.mp hx]; exact hp⟩
  | i + 1, w, h => by
    obtain ⟨v, p, rfl, hv, hp, _, _⟩ := step_mem h
    obtain ⟨h1, h2⟩ := ways_good hv
    refine ⟨by rw [List.length_append, h1]; rfl, fun x hx => ?_⟩
    rcases List.mem_append.mp hx with hx | hx
    · exact h2 x hx
    · rw [List.mem_singleton.mp hx]; exact hp
theorem pairs_len {P : List Nat} : ∀ {ws : List (List Nat)}, (pairsW P ws).length ≤ ws.length * P.length
  | [] => by simp [pairsW]
  | w :: ws => by
    have ih := pairs_len (P := P) (ws := ws)
    have h := List.length_filter_le (selP w) P
    show ((w :: ws).flatMap _).length ≤ _
    rw [List.flatMap_cons, List.length_append, List.length_map, List.length_cons, Nat.add_mul, Nat.one_mul]
    have : (ws.flatMap fun w => (P.filter (selP w)).map fun p => (w, p)).length ≤ ws.length * P.length := ih
    omega
theorem ways_len {k : Nat → Nat → Rat} {P : List Nat} (hP : P.length ≤ 5) : ∀ i, (waysN k P i).length ≤ 5 ^ (i + 1)
  | 0 => by show (P.map _).length ≤ _; rw [List.length_map]; exact hP
  | i + 1 => by
    show (stepW k P _).length ≤ _
    unfold stepW
    rw [List.length_map]
    refine Nat.le_trans (List.length_filter_le _ _) (Nat.le_trans pairs_len ?_)
    rw [Nat.pow_succ 5 (i + 1)]
    exact Nat.mul_le_mul (ways_len hP i) hP
theorem getLastD_at {w : List Nat} (h : w ≠ []) : atI (nV w) (-1) = some (.int (w.getLastD 0 : Nat)) := by
  have hl : 0 < w.length := List.length_pos_iff.mpr h
  unfold atI
  have e : ixN (nV w).length (-1) = some (w.length - 1) := by
    unfold ixN
    rw [nV_len]
    simp
    omega
  rw [e]
  show (nV w)[w.length - 1]? = _
  unfold nV
  rw [List.getElem?_map]
  have : w.getLastD 0 = w[w.length - 1] := by
    rw [List.getLastD_eq_getLast?, List.getLast?_eq_getElem?, List.getElem?_eq_getElem (by omega)]; rfl
  rw [this, List.getElem?_eq_getElem (by omega)]
  rfl
theorem headD_at {w : List Nat} (h : w ≠ []) : atI (nV w) 0 = some (.int (w.headD 0 : Nat)) := by
  cases w with
  | nil => exact absurd rfl h
  | cons x xs => exact at_some (i := 0) rfl
section
variable {P : Program} {w : World} {K : PySem.W.Frag} {mg : Str → Option Value} {base : Heap}
def spLink (K : PySem.W.Frag) (C : Addr) : Sp := fun vs H Q _ => ∃ (t : V) (n : Nat) (k : Nat → Nat → Rat) (a b : Nat), vs = [t, .int a, .int b] ∧ Tab K C H t n k ∧ a < n ∧ b < n ∧ Q (.bl (lnk k a b)) H
theorem sc_link : FnScope ["table", "one", "other"] ["table", "one", "other"] (C8.fnScope (top 45)) := C8.fnScope_by (by decide +kernel)
theorem cal_link (D : DD K mg "has_link" 45) {C : Addr} (W : TabW K C) : C8.Cal P w K mg base 1 "has_link" (spLink K C) [] := by
  refine cal_mk D sc_link (fun _ _ _ _ _ _ us hl => match us, hl with | [_, _, _], _ => rfl) (fun vs H Q E h => ?_) (fun f cdv A outer s H vs Q E hr h => ?_)
  · obtain ⟨t, n, k, a, b, rfl, _⟩ := h; rfl
  · obtain ⟨t, n, k, a, b, rfl, ht, ha, hb, kk⟩ := h
    have nd := sc_link.nd
    refine ⟨_, (pss_one (ps_ret (pe_and (pe_cmpR op_ne (pv 1) (pv 2) (nomark _)) (pe_one (pe_cmpR op_ne (pe_ix (ix_tupK K) (pe_ix (ix_tupK K) (pe_ix (ix_tupK K) (pe_fldK K (pv 0) (by rfl)) (pv 1) (fun _ _ => rfl)) (pv 2) (fun _ _ => rfl)) pe_int (fun _ _ => rfl)) pe_int (nomark _)))))), ?_⟩
    refine ⟨_, rfl, _, rfl, rfl, _, rfl, ?_⟩
    by_cases e : a = b
    · have h1 : (!decide (V.int (a : Nat) = V.int (b : Nat))) = false := by rw [e]; simp
      have h2 : lnk k a b = false := decide_eq_false fun h => h.1 e
      rw [h1]
      rw [h2] at kk
      exact iteF kk
    · have h1 : (!decide (V.int (a : Nat) = V.int (b : Nat))) = true := by rw [decide_eq_false (fun z => e (by injection z with z; omega))]; rfl
      rw [h1]
      refine iteT (rd_ent W ht rfl rfl rfl ha hb fun x hx => ?_)
      obtain ⟨px, rfl, tx⟩ := hx
      refine ⟨px, _, 0, _, rfl, rfl, tx, rfl, rfl, ?_⟩
      have h2 : (!decide (V.int (k a b).num = V.int 0)) = lnk k a b := by
        unfold lnk
        by_cases z : k a b = 0
        · rw [z]; simp
        · have : (k a b).num ≠ 0 := fun h => z (Rat.num_eq_zero.mp h)
          rw [decide_eq_false (fun q => this (by injection q)), decide_eq_true ⟨e, z⟩]; rfl
      show Q (V.bl (!decide (V.int (k a b).num = V.int 0))) H
      rw [h2]
      exact kk
end
end K18
end
section
set_option Elab.async false
set_option linter.all false
set_option maxRecDepth 100000
set_option maxHeartbeats 4000000
namespace K18
open PySem PySem.Spec PyProof.Rows L2
theorem pe_no {X : Cx} {e : Expr} : PE X e (fun _ _ _ => False) := ⟨fun _ _ _ _ _ _ h => h.elim⟩
section
variable {P : Program} {w : World} {K : PySem.W.Frag} {mg : Str → Option Value} {base : Heap}
def RW (K : PySem.W.Frag) : List Nat → V → Hp → Prop := fun w v H => TupV K H v (nV w)
def RP (K : PySem.W.Frag) : List Nat × Nat → V → Hp → Prop := fun x v H => ∃ vw, TupV K H v [vw, .int (x.2 : Nat)] ∧ TupV K H vw (nV x.1)
theorem RW.ex {K : PySem.W.Frag} : ∀ x v H H', RW K x v H → Ex H H' → RW K x v H' := fun _ _ _ _ h e => TupV.ex h e
theorem RW.exD {K : PySem.W.Frag} {D : Addr} : ∀ x v H H' ys, H D = some (.lst ys) → (∀ b o, b ≠ D → H b = some o → H' b = some o) → RW K x v H → RW K x v H' := fun _ _ _ _ _ hD e h => TupV.exD hD e h
theorem RP.ex {K : PySem.W.Frag} : ∀ x v H H', RP K x v H → Ex H H' → RP K x v H' := fun _ _ _ _ ⟨w, h, g⟩ e => ⟨w, h.ex e, g.ex e⟩
theorem RP.exD {K : PySem.W.Frag} {D : Addr} : ∀ x v H H' ys, H D = some (.lst ys) → (∀ b o, b ≠ D → H b = some o → H' b = some o) → RP K x v H → RP K x v H' := fun _ _ _ _ _ hD e ⟨w, h, g⟩ => ⟨w, h.exD hD e, g.exD hD e⟩
def spRings (K : PySem.W.Frag) (C : Addr) : List V → Hp → List (List Nat) → Prop := fun vs H r => ∃ (t lot : V) (n : Nat) (k : Nat → Nat → Rat) (Pl : List Nat), vs = [t, lot] ∧ Tab K C H t n k ∧ n ≤ 5 ∧ SeqV K H lot (nV Pl) ∧ LotOk Pl n ∧ Pl.Pairwise (· ≤ ·) ∧ r = rings k Pl
theorem gsc_rings : GScope ["table", "lot", "places", "ways", "_", "longer", "way", "place"] ["table", "lot"] (C8.fnScope (top 46)) where
  kind := by decide +kernel
  co := by decide +kernel
  gen := by decide +kernel
  nd := by decide +kernel
  pre := by decide +kernel
  par := by decide +kernel
  nofree := by decide +kernel
theorem take_pairs {P : List Nat} {ws : List (List Nat)} {i : Nat} (hi : i < ws.length) : pairsW P (ws.take (i + 1)) = pairsW P (ws.take i) ++ (P.filter (selP ws[i])).map fun p => (ws[i], p) := by
  unfold pairsW
  rw [List.take_succ_eq_append_getElem hi, List.flatMap_append]
  simp
theorem pairs_le {P : List Nat} {ws : List (List Nat)} (hP : P.length ≤ 5) (hw : ws.length ≤ 15625) : (pairsW P ws).length ≤ 78125 := by
  have := pairs_len (P := P) (ws := ws)
  have : ws.length * P.length ≤ 15625 * 5 := Nat.mul_le_mul hw hP
  omega
theorem outR_cons {k : Nat → Nat → Rat} {w : List Nat} {ws : List (List Nat)} : outR k (w :: ws) = (if lnk k (w.getLastD 0) (w.headD 0) = true then [w] else []) ++ outR k ws := by
  unfold outR
  rw [List.filter_cons]
  by_cases h : lnk k (w.getLastD 0) (w.headD 0) = true
  · rw [if_pos h, if_pos h]; rfl
  · rw [if_neg h, if_neg h]; rfl
theorem gen_rings {f : Addr} {fd : FuncData} {C : Addr} (W : TabW K C) (B : Bt mg) (D : C8.Def K mg "rings_of" (top 46) f fd) (c_lot_of : C8.Cal P w K mg base 4 "lot_of" (spLot K) []) (c_at_most_six : C8.Cal P w K mg base 1 "at_most_six" spSix []) (c_has_link : C8.Cal P w K mg base 1 "has_link" (spLink K C) []) :
    GenOk P w K mg base 5 f fd ["table", "lot"] (RW K) (spRings K C) := by
  obtain ⟨oc, od, dV, kV, doc, pm, an, cdv, ct, osl, rfl, lk, hcd⟩ := D.fn.ex
  refine gen_of lk hcd gsc_rings (fun vs H r h => ?_) (fun A outer n0 a g go Cc H vs r hr h => ?_)
  · obtain ⟨t, lot, n, k, Pl, rfl, _⟩ := h; rfl
  · obtain ⟨t, lot, n, k, Pl, rfl, ht, hn, hlot, ok, so, rfl⟩ := h
    have nd := gsc_rings.nd
    refine ⟨_, gss_cons (gs_pl fun _ _ => (pset 2 nd (pe_ifExp (pt_cmpR op_isN (pv 1) pe_non (nomark _)) pe_no (C8.pe_c c_lot_of hr (by decide) (by rfl) (pa_cons (pv 1) (pa_cons (pe_fldK K (pv 0) (by rfl)) pa_nil))))))
      (gss_cons (gs_pl fun _ _ => (ps_expr (C8.pe_c c_at_most_six hr (by decide) (by rfl) (pa_cons (pe_fldK K (pv 0) (by rfl)) pa_nil))))
      (gss_cons (gs_pl fun _ _ => (ps_setLc (i := 3) (own := [("place", 7)]) rfl nd rfl rfl (sw_true rfl rfl rfl (by decide +kernel)) (pi_tupK K (pv 2)) (blkOk_by (own := [("place", 7)]) (N := ["table", "lot", "places", "ways", "_", "longer", "way", "place"]) (by kernel_rfl)) (fun _ _ _ _ _ => (pgn 7 nd)) (fun _ _ _ _ _ => pts_nil) (fun _ _ _ _ _ => (pe_tup (pa_cons (pv 7) pa_nil)))))
      (gss_one (gs_for (fun _ _ => (pi_range1 (by rfl) B.range (pa_cons (pe_op op_sub (pe_callB (call_lenK K) (by rfl) B.len PySem.boot_len (pa_cons (pv 2) pa_nil)) pe_int) pa_nil))) (fun _ _ => (pgn 4 nd))
        (gss_cons (gs_pl fun _ _ => (ps_setLc2 (i := 5) (own := [("way", 6), ("place", 7)]) rfl nd rfl rfl (sw_true rfl rfl rfl (by decide +kernel)) (pi_listK K (pv 3)) (blkOk_by (own := [("way", 6), ("place", 7)]) (N := ["table", "lot", "places", "ways", "_", "longer", "way", "place"]) (by kernel_rfl)) (vs1 := [7]) (by decide) (fun _ _ _ _ _ => (pgn 6 nd)) (fun _ _ _ _ _ => pts_nil) (fun _ _ _ _ _ => (pi_tupK K (pv 2))) (fun _ _ _ _ _ => (pgn 7 nd)) (fun _ _ _ _ _ => (pts_one (PW.pt (pw_and (pt_cmpR op_gt (pv 7) (pe_ix (ix_tupK K) (pv 6) pe_int (fun _ _ => rfl)) (nomark _)) (pw_and1 (pt_cmpR (op_niK K) (pv 7) (pv 6) rfl)))))) (fun _ _ _ _ _ => (pe_tup (pa_cons (pv 6) (pa_cons (pv 7) pa_nil))))))
        (gss_cons (gs_pl fun _ _ => (ps_setLc (i := 3) (own := [("way", 6), ("place", 7)]) rfl nd rfl rfl (sw_true rfl rfl rfl (by decide +kernel)) (pi_listK K (pv 5)) (blkOk_by (own := [("way", 6), ("place", 7)]) (N := ["table", "lot", "places", "ways", "_", "longer", "way", "place"]) (by kernel_rfl)) (fun _ _ _ _ _ => (pg_tupK K (n := 2) rfl (pgs_cons (pgn 6 nd) (pgs_cons (pgn 7 nd) pgs_nil)))) (fun _ _ _ _ _ => (pts_one (pt_val (C8.pe_c c_has_link hr (by decide) (by rfl) (pa_cons (pv 0) (pa_cons (pe_ix (ix_tupK K) (pv 6) (pe_un un_neg pe_int) (fun _ _ => rfl)) (pa_cons (pv 7) pa_nil))))))) (fun _ _ _ _ _ => (pe_op (op_catAK K) (pv 6) (pe_tup (pa_cons (pv 7) pa_nil))))))
        (gss_one (gs_for (fun _ _ => (pi_listK K (pv 3))) (fun _ _ => (pgn 6 nd))
          (gss_one (gs_if (fun _ _ => (pt_val (C8.pe_c c_has_link hr (by decide) (by rfl) (pa_cons (pv 0) (pa_cons (pe_ix (ix_tupK K) (pv 6) (pe_un un_neg pe_int) (fun _ _ => rfl)) (pa_cons (pe_ix (ix_tupK K) (pv 6) pe_int (fun _ _ => rfl)) pa_nil))))))
            (gss_one (gs_yield (fun _ _ => (pv 6)))) gss_nil)))))))))), fun H2 eH => ?_⟩
    obtain ⟨pl, rfl, hpl⟩ := hlot
    have hPl := ok.len
    refine ⟨_, rfl, rfl, false, rfl, iteF ⟨_, rfl, rd_size W (ht.ex eH) rfl ⟨_, n, Pl, rfl, by omega, ⟨pl, rfl, hpl.imp (Evl.ex_l eH) (Evl.ex_t eH)⟩, ok, fun v P' H3 e3 hv pm so' => ?_⟩⟩⟩
    have eP : P' = Pl := List.Perm.eq_of_pairwise (fun a b _ _ h1 h2 => Nat.le_antisymm h1 h2) so' so pm
    subst eP
    obtain ⟨p2, rfl, h2⟩ := hv
    have eH3 := eH.trans e3
    refine ⟨e3, rd_size W (ht.ex eH3) rfl ⟨n, rfl, by omega, Evl.Ex.refl _, ?_⟩⟩
    have wk2 : Walk (Itt K p2) P'.length (fun H => SqT K H p2 (nV P')) (YAt (nV P')) := by
      have := walk_tup (K := K) (a := p2) (xs := nV P')
      rwa [nV_len] at this
    refine ⟨_, rfl, p2, rfl, ⟨_, h2⟩, fun D0 hD0 => ?_⟩
    refine lcL wk2 (fun _ _ g e => Evl.ex_t e g) (lt_sz (by omega)) (S := RW K) RW.ex RW.exD (fun _ => true) (fun p => [p]) hD0 h2 ?_ ?_
    · rintro i hi x H4 H4' Kt Kf e4 ⟨rfl, ex⟩ kt _
      obtain ⟨hil, rfl⟩ := nV_at ex
      exact ⟨rfl, _, rfl, by show 1 ≤ sizeLine; decide, fun q hq => kt rfl _ _ (Evl.Ex.new hq) TupV.new⟩
    intro H5 ys5 e5 h5 a5
    rw [List.filter_eq_self.mpr fun _ _ => rfl] at a5
    refine ⟨e5, ?_⟩
    have h25 := Evl.ex_t e5 h2
    have eH5 := eH3.trans e5
    refine ⟨_, rfl, p2, _, rfl, .inr h25, _, _, rfl, rfl, _, rfl, by rw [nV_len]; omega, by rw [nV_len]; omega, Evl.Ex.refl _, ?_⟩
    have em : ((nV P').length - 1 : Int).toNat = P'.length - 1 := by rw [nV_len]; omega
    show ∃ W : Nat → Nat → List (List Nat) → L2.St → Hp → Prop, (∃ m, W 0 m _ _ _) ∧ ∀ i m r σ H, W i m r σ H → ((Itr 0 ((nV P').length - 1 : Int).toNat).stop i H ∧ _) ∨ ((Itr 0 ((nV P').length - 1 : Int).toNat).go i H ∧ _)
    rw [em]
    refine gfor_it walk_rng (Pv := fun i r σ' H' => ∃ a4 a5 a6 pw ys, σ' = [some t, some (.ref pl), some (.ref p2), some (.ref pw), a4, a5, a6, none] ∧ Ex H5 H' ∧ H' pw = some (.lst ys) ∧ AtL (RW K) (waysN k P' i) ys H' ∧ r = ringsW k P' (P'.length - 1 - i) i)
      ⟨_, _, _, D0, ys5, rfl, Evl.Ex.refl _, h5, a5, rfl⟩ (fun _ _ _ _ _ _ => True.intro) ?_ ?_
    · rintro i x r σ' H6 H6' hi ⟨a4, a5', a6, pw, ys, rfl, e6, h6, al6, rfl⟩ ⟨rfl, rfl⟩
      have hwl := ways_len (k := k) (P := P') (by omega : P'.length ≤ 5) i
      have hwl' : (waysN k P' i).length ≤ 15625 := Nat.le_trans hwl (Nat.le_trans (Nat.pow_le_pow_right (by decide) (by omega : i + 1 ≤ 6)) (by decide))
      have hlen6 := al6.len
      refine ⟨Evl.Ex.refl _, Evl.Ex.refl _, ?_⟩
      have wk6 : Walk (Itl K pw) (waysN k P' i).length (fun H => SqL K H pw ys) (YAt ys) := by
        have := walk_list (K := K) (a := pw) (xs := ys)
        rwa [hlen6] at this
      refine ⟨_, rfl, pw, rfl, ⟨_, SqL.of h6⟩, fun D1 hD1 => ?_⟩
      refine it_gen wk6 (Pv := fun j H => ∃ acc, Ex H6' H ∧ H D1 = some (.lst acc) ∧ AtL (RP K) (pairsW P' ((waysN k P' i).take j)) acc H) ⟨[], Evl.Ex.new hD1, upd_same, AtL.nil⟩ (fun j H _ h => Evl.ex_l h.choose_spec.1 (SqL.of h6)) ?_ ?_
      · rintro j y H7 H7' hj ⟨acc, e7, h7, al7⟩ ⟨rfl, ey⟩
        obtain ⟨_, rw6⟩ := al6.of ey
        have rw7 := RW.ex _ _ _ _ rw6 e7
        obtain ⟨py, rfl, ty⟩ := rw7
        obtain ⟨wl, wm⟩ := ways_good (List.getElem_mem hj)
        have wne : (waysN k P' i)[j] ≠ [] := fun z => by rw [z] at wl; cases wl
        refine ⟨rfl, _, rfl, p2, rfl, ⟨_, Evl.ex_t (e6.trans e7) h25⟩, ?_⟩
        have base_le : (pairsW P' ((waysN k P' i).take j)).length ≤ 78125 := pairs_le (by omega) (by rw [List.length_take]; omega)
        refine it_gen wk2 (Pv := fun m H => ∃ acc, Ex H6' H ∧ H D1 = some (.lst acc) ∧ AtL (RP K) (pairsW P' ((waysN k P' i).take j) ++ (((P'.take m).filter (selP (waysN k P' i)[j])).map fun p => ((waysN k P' i)[j], p))) acc H) ⟨acc, e7, h7, by simpa using al7⟩ (fun m H _ h => Evl.ex_t (e6.trans h.choose_spec.1) h25) ?_ ?_
        · rintro m z H8 H8' hm ⟨acc8, e8, h8, al8⟩ ⟨rfl, ez⟩
          obtain ⟨hml, rfl⟩ := nV_at ez
          have ty8 : SqT K H8' py (nV (waysN k P' i)[j]) := by
            obtain ⟨_, rw6'⟩ := al6.of ey
            obtain ⟨q, eq, tq⟩ := RW.ex _ _ _ _ rw6' e8
            cases eq
            exact tq
          have hal : acc8.length < 100000 := by
            have := al8.len
            rw [List.length_append, List.length_map] at this
            have h1 := List.length_filter_le (selP (waysN k P' i)[j]) (P'.take m)
            rw [List.length_take] at h1
            omega
          have step : (((P'.take (m + 1)).filter (selP (waysN k P' i)[j])).map fun p => ((waysN k P' i)[j], p)) = (((P'.take m).filter (selP (waysN k P' i)[j])).map fun p => ((waysN k P' i)[j], p)) ++ (if selP (waysN k P' i)[j] P'[m] = true then [((waysN k P' i)[j], P'[m])] else []) := by
            rw [take_filter hml, List.map_append]
            split <;> rfl
          refine ⟨rfl, _, rfl, _, rfl, py, _, 0, _, rfl, rfl, ty8, headD_at wne, _, _, rfl, rfl, _, rfl, ?_⟩
          by_cases c1 : (waysN k P' i)[j].headD 0 < P'[m]
          · rw [decide_eq_true (by omega : ((P'[m] : Nat) : Int) > (((waysN k P' i)[j].headD 0 : Nat) : Int))]
            refine iteT ⟨_, rfl, _, rfl, py, _, rfl, .inr ty8, rfl, flat_nV, _, rfl, ?_⟩
            rw [if_pos rfl, inV_nV]
            by_cases c2 : P'[m] ∈ (waysN k P' i)[j]
            · rw [decide_eq_true c2]
              refine iteF ⟨acc8, e8, h8, ?_⟩
              have hs : selP (waysN k P' i)[j] P'[m] = false := by unfold selP; rw [decide_eq_true c2]; simp
              rw [step, hs, if_neg Bool.false_ne_true, List.append_nil]
              exact al8
            · rw [decide_eq_false c2]
              have hs : selP (waysN k P' i)[j] P'[m] = true := by unfold selP; rw [decide_eq_true c1, decide_eq_false c2]; rfl
              refine iteT ⟨_, rfl, _, rfl, by show 2 ≤ sizeLine; decide, fun q hq => ?_⟩
              have eq8 := Evl.Ex.new (o := .tup [.ref py, .int (P'[m] : Nat)]) hq
              have hD8 := eq8 _ _ h8
              have up : ∀ b o, b ≠ D1 → (upd H8' q (.tup [.ref py, .int (P'[m] : Nat)])) b = some o → (upd (upd H8' q (.tup [.ref py, .int (P'[m] : Nat)])) D1 (.lst (acc8 ++ [.ref q]))) b = some o := fun b o hb z => by rw [upd_ne hb]; exact z
              refine ⟨acc8, hD8, lt_sz hal, acc8 ++ [.ref q], (e8.trans eq8).mut hD1, upd_same, ?_⟩
              rw [step, hs, if_pos rfl, ← List.append_assoc]
              refine (al8.ex fun x v h => RP.exD _ _ _ _ _ hD8 up (RP.ex _ _ _ _ h eq8)).snoc (RP.exD _ _ _ _ _ hD8 up ⟨.ref py, TupV.new, py, rfl, Evl.ex_t eq8 ty8⟩)
          · rw [decide_eq_false (by omega : ¬ ((P'[m] : Nat) : Int) > (((waysN k P' i)[j].headD 0 : Nat) : Int))]
            refine iteF (iteF ⟨acc8, e8, h8, ?_⟩)
            have hs : selP (waysN k P' i)[j] P'[m] = false := by unfold selP; rw [decide_eq_false c1]; rfl
            rw [step, hs, if_neg Bool.false_ne_true, List.append_nil]
            exact al8
        · rintro H8 ⟨acc8, e8, h8, al8⟩
          refine ⟨acc8, e8, h8, ?_⟩
          rw [List.take_length, ← take_pairs hj] at al8
          exact al8
      rintro H7 ⟨acc, e7, h7, al7⟩
      rw [List.take_length] at al7
      refine ⟨e7, ?_⟩
      have hlen7 := al7.len
      have hle7 := pairs_le (P := P') (ws := waysN k P' i) (by omega) hwl'
      have wk7 : Walk (Itl K D1) (pairsW P' (waysN k P' i)).length (fun H => SqL K H D1 acc) (YAt acc) := by
        have := walk_list (K := K) (a := D1) (xs := acc)
        rwa [hlen7] at this
      refine ⟨_, rfl, D1, rfl, ⟨_, SqL.of h7⟩, fun D2 hD2 => ?_⟩
      refine lcL wk7 (fun _ _ g e => Evl.ex_l e g) (lt_sz (by omega)) (S := RW K) RW.ex RW.exD (fun x => lnk k (x.1.getLastD 0) x.2) (fun x => x.1 ++ [x.2]) hD2 (SqL.of h7) ?_ ?_
      · rintro j hj x H8 H8' Kt Kf e8 ⟨rfl, ex⟩ kt kf
        obtain ⟨_, vw, ⟨T, rfl, tT⟩, ⟨pw', rfl, tw⟩⟩ := al7.of ex
        obtain ⟨m1, m2, _⟩ := pairs_mem (List.getElem_mem hj)
        obtain ⟨wl, wm⟩ := ways_good m1
        generalize (pairsW P' (waysN k P' i))[j] = wp at *
        obtain ⟨w, p⟩ := wp
        have wne : w ≠ [] := fun z => by
          have wl' : w.length = i + 1 := wl
          rw [z] at wl'
          cases wl'
        have hlast : w.getLastD 0 ∈ w := by
          rw [List.getLastD_eq_getLast?, List.getLast?_eq_getElem?, List.getElem?_eq_getElem (by have := List.length_pos_iff.mpr wne; omega)]
          exact List.getElem_mem _
        refine ⟨T, _, rfl, Evl.ex_t e8 tT, rfl, _, _, rfl, _, _, rfl, rfl, rfl, ?_⟩
        refine ⟨_, rfl, _, rfl, _, rfl, pw', _, _, _, rfl, rfl, Evl.ex_t e8 tw, getLastD_at wne, _, rfl, t, n, k, w.getLastD 0, p, rfl, ht.ex (eH5.trans (e6.trans (e7.trans e8))), ok.lt _ (wm _ hlast), ok.lt _ m2, _, rfl, ?_⟩
        by_cases c : lnk k (w.getLastD 0) p = true
        · rw [c]
          refine iteT ⟨_, rfl, _, rfl, by show 1 ≤ sizeLine; decide, fun p1 hp1 => ?_⟩
          have e9 := Evl.Ex.new (o := .tup [.int (p : Nat)]) hp1
          have hw1 : nV w ≠ [] := fun z => wne (by
            have : (nV w).length = 0 := by rw [z]; rfl
            rw [nV_len] at this
            exact List.length_eq_zero_iff.mp this)
          have wl' : w.length = i + 1 := wl
          refine ⟨pw', p1, _, _, rfl, rfl, Evl.ex_t (e8.trans e9) tw, SqT.of upd_same, le_sz (by rw [nV_len]; show _ + 1 ≤ 100000; omega), fun z => absurd z hw1, fun _ z => (List.cons_ne_nil _ _ z).elim, fun _ _ p3 hp3 => kt c _ _ (e9.trans (Evl.Ex.new hp3)) ?_⟩
          have ea : nV w ++ [V.int (p : Nat)] = nV (w ++ [p]) := by simp [nV]
          rw [ea]
          exact TupV.new
        · have c' : lnk k (w.getLastD 0) p = false := by simpa using c
          rw [c']
          exact iteF (kf c' _ (Evl.Ex.refl _))
      intro H8 ys8 e8 h8 al8
      refine ⟨e8, ?_⟩
      have al8' : AtL (RW K) (waysN k P' (i + 1)) ys8 H8 := al8
      have hlen8 := al8'.len
      have wk8 : Walk (Itl K D2) (waysN k P' (i + 1)).length (fun H => SqL K H D2 ys8) (YAt ys8) := by
        have := walk_list (K := K) (a := D2) (xs := ys8)
        rwa [hlen8] at this
      have e68 := e6.trans (e7.trans e8)
      refine ⟨_, rfl, D2, rfl, ⟨_, SqL.of h8⟩, Evl.Ex.refl _, ?_⟩
      refine gfor_it wk8 (Pv := fun j r σ' H' => ∃ a6, σ' = [some t, some (.ref pl), some (.ref p2), some (.ref D2), some (.int (i : Nat)), some (.ref D1), a6, none] ∧ Ex H8 H' ∧ r = outR k ((waysN k P' (i + 1)).drop j) ++ ringsW k P' (P'.length - 1 - (i + 1)) (i + 1))
        ⟨_, rfl, Evl.Ex.refl _, ?_⟩ (fun j r σ H _ h => Evl.ex_l h.choose_spec.2.1 (SqL.of h8)) ?_ ?_
      · have : P'.length - 1 - i = (P'.length - 1 - (i + 1)) + 1 := by omega
        rw [this]
        rfl
      · rintro j x r σ' H9 H9' hj ⟨a6', rfl, e9, rfl⟩ ⟨rfl, ex⟩
        obtain ⟨_, rw8⟩ := al8'.of ex
        obtain ⟨wl, wm⟩ := ways_good (List.getElem_mem hj)
        obtain ⟨py, rfl, ty⟩ := RW.ex _ _ _ _ rw8 e9
        have wne : (waysN k P' (i + 1))[j] ≠ [] := fun z => by rw [z] at wl; cases wl
        have hlast : (waysN k P' (i + 1))[j].getLastD 0 ∈ (waysN k P' (i + 1))[j] := by
          rw [List.getLastD_eq_getLast?, List.getLast?_eq_getElem?, List.getElem?_eq_getElem (by omega)]
          exact List.getElem_mem _
        have hhead : (waysN k P' (i + 1))[j].headD 0 ∈ (waysN k P' (i + 1))[j] := by
          cases hw : (waysN k P' (i + 1))[j] with
          | nil => exact absurd hw wne
          | cons x xs => exact List.mem_cons_self
        have hdr : (waysN k P' (i + 1)).drop j = (waysN k P' (i + 1))[j] :: (waysN k P' (i + 1)).drop (j + 1) := List.drop_eq_getElem_cons hj
        refine ⟨Evl.Ex.refl _, Evl.Ex.refl _, ?_⟩
        refine ⟨_, rfl, _, rfl, _, rfl, py, _, _, _, rfl, rfl, ty, getLastD_at wne, _, rfl, py, _, 0, _, rfl, rfl, ty, headD_at wne, t, n, k, _, _, rfl, ht.ex (eH5.trans (e68.trans e9)), ok.lt _ (wm _ hlast), ok.lt _ (wm _ hhead), _, rfl, Evl.Ex.refl _, ?_⟩
        by_cases c : lnk k ((waysN k P' (i + 1))[j].getLastD 0) ((waysN k P' (i + 1))[j].headD 0) = true
        · rw [c]
          refine iteT ⟨(waysN k P' (i + 1))[j], outR k ((waysN k P' (i + 1)).drop (j + 1)) ++ ringsW k P' (P'.length - 1 - (i + 1)) (i + 1), ?_, _, rfl, Evl.Ex.refl _, ⟨py, rfl, ty⟩, fun H10 e10 => ⟨_, rfl, e9.trans e10, rfl⟩⟩
          rw [hdr, outR_cons, if_pos c]
          rfl
        · have c' : lnk k ((waysN k P' (i + 1))[j].getLastD 0) ((waysN k P' (i + 1))[j].headD 0) = false := by simpa using c
          rw [c']
          refine iteF ⟨_, rfl, e9, ?_⟩
          rw [hdr, outR_cons, if_neg c]
          rfl
      · rintro r σ' H9 ⟨a6', rfl, e9, rfl⟩
        rw [List.drop_length]
        exact ⟨_, _, _, D2, ys8, rfl, e68.trans e9, e9 _ _ h8, al8'.ex fun x v h => RW.ex _ _ _ _ h e9, rfl⟩
    · rintro r σ' H6 ⟨a4, a5', a6, pw, ys, rfl, e6, h6, al6, rfl⟩
      show ringsW k P' (P'.length - 1 - (P'.length - 1)) _ = []
      rw [Nat.sub_self]
      rfl
end
end K18
end
section
set_option Elab.async false
set_option linter.all false
set_option maxRecDepth 100000
set_option maxHeartbeats 4000000
namespace K18
open PySem PySem.Spec PyProof.Rows L2
def hit (w S : List Nat) : Bool := w.any fun x => decide (x ∈ S)
/-- no ring crosses -/
def freeR (k : Nat → Nat → Rat) (S T P : List Nat) : Prop := ∀ w ∈ rings k P, ¬ (hit w S = true ∧ hit w T = true)
theorem hit_perm {w S S' : List Nat} (h : S'.Perm S) : hit w S' = hit w S := by
  unfold hit
  congr 1
  funext x
  rw [Bool.eq_iff_iff, decide_eq_true_iff, decide_eq_true_iff]
  exact h.mem_iff
theorem hit_of {w S l : List Nat} (h : l.Perm (w.filter fun i => decide (i ∈ S))) : (!(nV l).isEmpty) = hit w S := by
  unfold hit
  rw [Bool.eq_iff_iff, List.any_eq_true]
  constructor
  · intro e
    cases l with
    | nil => cases e
    | cons x xs =>
      have : x ∈ w.filter fun i => decide (i ∈ S) := h.mem_iff.mp List.mem_cons_self
      exact ⟨x, (List.mem_filter.mp this).1, (List.mem_filter.mp this).2⟩
  · rintro ⟨x, h1, h2⟩
    have : x ∈ l := h.mem_iff.mpr (List.mem_filter.mpr ⟨h1, h2⟩)
    cases l with
    | nil => cases this
    | cons y ys => rfl
theorem rings_good {k : Nat → Nat → Rat} {P : List Nat} : ∀ {m i : Nat} {w : List Nat}, w ∈ ringsW k P m i → ∃ j, j ≤ m + i ∧ w ∈ waysN k P j
  | 0, i, w, h => by cases h
  | m + 1, i, w, h => by
    rcases List.mem_append.mp h with h | h
    · exact ⟨i + 1, by omega, (List.mem_filter.mp h).1⟩
    · obtain ⟨j, hj, hw⟩ := rings_good h
      exact ⟨j, by omega, hw⟩
theorem rings_len {k : Nat → Nat → Rat} {P w : List Nat} (h : w ∈ rings k P) : w.length ≤ P.length + 1 ∧ ∀ x ∈ w, x ∈ P := by
  obtain ⟨j, hj, hw⟩ := rings_good h
  obtain ⟨h1, h2⟩ := ways_good hw
  exact ⟨by omega, h2⟩
theorem ps_forR {α : Type} {X : Cx} {It : α → V → Hp → Prop} {k : Nat} {x : Str} {px pos : Pos} {iter : Expr} {body : List Stmt} {tg : L2.St → Hp → (List α → Hp → Prop) → Prop} {gt : TG} {tb : TS} (hIt : ∀ x v H H', It x v H → Ex H H' → It x v H') (hnx : ∀ e s, ¬ X.xe e s) (hc : X.calm = true) (hr : Room (k + 2) X.A)
    (hi : PMade X k iter It tg) (hg : PG X (.Name x px) gt) (hb : PSs X body tb) (hs : ∀ x, foldedSetIterable iter X.env x = pure x := by intro _; rfl) : PS X (.For (.Name x px) iter body [] pos) (tForG It tg gt tb) := ps_forG hnx hc hr hi hg hb hIt hs
def g2 (us ws : List Value) : List Value := match us, ws with
  | [u], [w] => [u, w]
  | _, _ => []
def gV2 (us ws : List V) : List V := match us, ws with
  | [u], [w] => [u, w]
  | _, _ => []
theorem kb_rings {K : PySem.W.Frag} {mg : Str → Option Value} {f : Addr} {fd : FuncData} (D : C8.Def K mg "rings_of" (top 46) f fd) (df : fd.defaults = .none) : KBinds K fd ["table", "lot"] ["lot"] g2 gV2 := by
  obtain ⟨oc, od, dV, kV, doc, pm, an, cdv, ct, osl, rfl, lk, hcd⟩ := D.fn.ex
  have e : dV = .none := df
  subst e
  refine ⟨fun s us ws _ hl => ?_, fun {vs us zs ws} h1 h2 => ?_⟩
  · match us, ws, hl with
    | [u], [w], _ => exact BindsTo.of_eq rfl
  · cases h1 with
    | nil => exact .nil
    | cons a t =>
      cases t with
      | cons b t => exact .nil
      | nil =>
        cases h2 with
        | nil => exact .nil
        | cons c t =>
          cases t with
          | cons d t => exact .nil
          | nil => exact .cons a (.cons c .nil)
section
variable {P : Program} {w : World} {K : PySem.W.Frag} {mg : Str → Option Value} {base : Heap}
def spCross (K : PySem.W.Frag) (C : Addr) : Sp := fun vs H Q _ => ∃ (t x y : V) (n : Nat) (k : Nat → Nat → Rat) (S T : List Nat), vs = [t, x, y] ∧ Tab K C H t n k ∧ n ≤ 5 ∧ SeqV K H x (nV S) ∧ SeqV K H y (nV T) ∧ LotOk S n ∧ LotOk T n ∧ (∀ a ∈ T, a ∉ S) ∧
  ∀ (Pl : List Nat) v H', Ex H H' → Pl.Perm (S ++ T) → ((v = .non ∧ freeR k S T Pl) ∨ ((∃ q, v = .ref q) ∧ ¬ freeR k S T Pl)) → Q v H'
theorem sc_cross : FnScope ["table", "one", "other", "first", "second", "places", "ring"] ["table", "one", "other"] (C8.fnScope (top 48)) := C8.fnScope_by (by decide +kernel)
theorem cal_cross (D : DD K mg "crossing_ring" 48) (c_lot_of : C8.Cal P w K mg base 4 "lot_of" (spLot K) []) (c_apart_lot : C8.Cal P w K mg base 3 "apart_lot" (spApart K) []) (c_at_most_six : C8.Cal P w K mg base 1 "at_most_six" (spSix) []) (c_joined : C8.Cal P w K mg base 2 "joined" (spJoined K) []) (c_common : C8.Cal P w K mg base 1 "common" (spCommon K) []) {C fg : Addr} {fdg : FuncData} (W : TabW K C) (Dg : C8.Def K mg "rings_of" (top 46) fg fdg) (dfg : fdg.defaults = .none) (Fg : GenOk P w K mg base 5 fg fdg ["table", "lot"] (RW K) (spRings K C)) : C8.Cal P w K mg base 8 "crossing_ring" (spCross K C) [] := by
  refine cal_mk D sc_cross (fun _ _ _ _ _ _ us hl => match us, hl with | [_, _, _], _ => rfl) (fun vs H Q E h => ?_) (fun f cdv A outer s H vs Q E hr h => ?_)
  · obtain ⟨t, x, y, n, k, S, T, rfl, _⟩ := h; rfl
  · obtain ⟨t, x, y, n, k, S, T, rfl, ht, hn, hx, hy, okS, okT, hd, kk⟩ := h
    have nd := sc_cross.nd
    refine ⟨_, (pss_cons (pset 3 nd (C8.pe_c c_lot_of hr (by decide) (by rfl) (pa_cons (pv 1) (pa_cons (pe_fldK K (pv 0) (by rfl)) pa_nil))))
    (pss_cons (pset 4 nd (C8.pe_c c_apart_lot hr (by decide) (by rfl) (pa_cons (pv 2) (pa_cons (pe_fldK K (pv 0) (by rfl)) (pa_cons (pv 3) pa_nil)))))
    (pss_cons (ps_expr (C8.pe_c c_at_most_six hr (by decide) (by rfl) (pa_cons (pe_fldK K (pv 0) (by rfl)) pa_nil)))
    (pss_cons (pset 5 nd (C8.pe_c c_joined hr (by decide) (by rfl) (pa_cons (pv 3) (pa_cons (pv 4) pa_nil))))
    (pss_cons (ps_forR RW.ex (fun _ _ h => h) rfl hr (pmade_callK Fg hr (by decide) (by rfl) Dg.mgf Dg.kp (kb_rings Dg dfg) (pa_cons (pv 0) pa_nil) (pk_cons (pv 5) pk_nil)) (pgn 6 nd)
      (pss_one (ps_if (PW.pt (pw_and (pt_truth (C8.pe_c c_common hr (by decide) (by rfl) (pa_cons (pv 6) (pa_cons (pv 3) pa_nil))) (by intro _; rfl)) (pw_and1 (pt_truth (C8.pe_c c_common hr (by decide) (by rfl) (pa_cons (pv 6) (pa_cons (pv 4) pa_nil))) (by intro _; rfl))))) (pss_one (ps_ret (pv 6))) pss_nil)))
    (pss_one (ps_ret pe_non))))))), ?_⟩
    refine ⟨_, rfl, rd_size W ht rfl ⟨_, n, S, rfl, by omega, hx, okS, fun v1 S' H1 e1 hv1 pS sS => ?_⟩⟩
    obtain ⟨p3, rfl, h3⟩ := hv1
    refine ⟨_, rfl, rd_size W (ht.ex e1) rfl ⟨_, rfl, _, n, _, T, S', rfl, by omega, hy.ex e1, ⟨p3, rfl, h3⟩, okT, fun a ha hs => hd a ha (pS.mem_iff.mp hs), fun v2 T' H2 e2 hv2 pT sT => ?_⟩⟩
    obtain ⟨p4, rfl, h4⟩ := hv2
    have e12 := e1.trans e2
    refine rd_size W (ht.ex e12) rfl ⟨n, rfl, by omega, ?_⟩
    have hlS := pS.length_eq
    have hlT := pT.length_eq
    have hSn := okS.len
    have hTn := okT.len
    refine ⟨_, rfl, _, rfl, _, _, S', T', rfl, ⟨p3, rfl, Evl.ex_t e2 h3⟩, ⟨p4, rfl, h4⟩, by omega, by omega, fun v3 Pl H3 e3 hv3 pP sP => ?_⟩
    obtain ⟨p5, rfl, h5⟩ := hv3
    have e123 := e12.trans e3
    have ef : (T'.filter fun i => !decide (i ∈ S')) = T' := List.filter_eq_self.mpr fun a ha => by
      rw [decide_eq_false (fun hs => hd a (pT.mem_iff.mp ha) (pS.mem_iff.mp hs))]; rfl
    rw [ef] at pP
    have pP' : Pl.Perm (S ++ T) := pP.trans (pS.append pT)
    have okP : LotOk Pl n := ⟨fun a ha => by
      rcases List.mem_append.mp (pP'.mem_iff.mp ha) with h | h
      · exact okS.lt a h
      · exact okT.lt a h, pP'.nodup_iff.mpr (List.nodup_append.mpr ⟨okS.nd, okT.nd, fun a ha b hb e => hd b hb (e ▸ ha)⟩)⟩
    have hPn := okP.len
    refine ⟨_, rfl, _, rfl, rings k Pl, ⟨t, _, n, k, Pl, rfl, ht.ex e123, hn, ⟨p5, rfl, .inr h5⟩, okP, sP, rfl⟩, ?_⟩
    refine ⟨fun r σ' => ∃ a6 dn, σ' = [some t, some x, some y, some (.ref p3), some (.ref p4), some (.ref p5), a6] ∧ rings k Pl = dn ++ r ∧ ∀ w ∈ dn, ¬ (hit w S = true ∧ hit w T = true), ⟨_, [], rfl, rfl, fun _ h => by cases h⟩, ?_, ?_⟩
    · rintro σ' H4 ⟨a6, dn, rfl, edn, hdn⟩ e4
      refine kk Pl _ _ (e123.trans e4) pP' (.inl ⟨rfl, fun w hw => hdn w ?_⟩)
      rw [edn, List.append_nil] at hw
      exact hw
    · rintro w r' σ' v H4 ⟨a6, dn, rfl, edn, hdn⟩ e4 ⟨pw, rfl, hpw⟩
      have hw : w ∈ rings k Pl := by rw [edn]; exact List.mem_append_right _ List.mem_cons_self
      obtain ⟨hwl, _⟩ := rings_len hw
      have e24 := e3.trans e4
      refine ⟨_, rfl, _, rfl, _, _, w, S', rfl, ⟨pw, rfl, hpw⟩, ⟨p3, rfl, Evl.ex_t (e2.trans e24) h3⟩, by omega, fun v6 l6 H6 e6 hv6 pl6 => ?_⟩
      obtain ⟨q6, rfl, h6⟩ := hv6
      refine ⟨_, .inr (.inl ⟨_, h6, rfl⟩), ?_⟩
      rw [hit_of pl6, hit_perm pS]
      have go : ¬ (hit w S = true ∧ hit w T = true) → ∃ a6' dn', ([some t, some x, some y, some (V.ref p3), some (.ref p4), some (.ref p5), some (.ref pw)] : L2.St) = [some t, some x, some y, some (.ref p3), some (.ref p4), some (.ref p5), a6'] ∧ rings k Pl = dn' ++ r' ∧ ∀ w ∈ dn', ¬ (hit w S = true ∧ hit w T = true) := fun hno =>
        ⟨_, dn ++ [w], rfl, by rw [edn]; simp, fun u hu => (List.mem_append.mp hu).elim (hdn u) fun h => by rw [List.mem_singleton.mp h]; exact hno⟩
      by_cases c1 : hit w S = true
      · rw [c1]
        refine iteT ⟨_, rfl, _, rfl, _, _, w, T', rfl, ⟨pw, rfl, Evl.ex_t e6 hpw⟩, ⟨p4, rfl, Evl.ex_t (e24.trans e6) h4⟩, by omega, fun v7 l7 H7 e7 hv7 pl7 => ?_⟩
        obtain ⟨q7, rfl, h7⟩ := hv7
        refine ⟨_, .inr (.inl ⟨_, h7, rfl⟩), ?_⟩
        rw [hit_of pl7, hit_perm pT]
        by_cases c2 : hit w T = true
        · rw [c2]
          refine iteT ⟨_, rfl, kk Pl _ _ (e123.trans (e4.trans (e6.trans e7))) pP' (.inr ⟨⟨pw, rfl⟩, fun hf => hf w hw ⟨c1, c2⟩⟩)⟩
        · have c2' : hit w T = false := by simpa using c2
          rw [c2']
          exact iteF ⟨e6.trans e7, go fun h => c2 h.2⟩
      · have c1' : hit w S = false := by simpa using c1
        rw [c1']
        exact iteF (iteF ⟨e6, go fun h => c1 h.1⟩)
def spIndep (K : PySem.W.Frag) (C : Addr) : Sp := fun vs H Q _ => ∃ (t x y : V) (n : Nat) (k : Nat → Nat → Rat) (S T : List Nat), vs = [t, x, y] ∧ Tab K C H t n k ∧ n ≤ 5 ∧ SeqV K H x (nV S) ∧ SeqV K H y (nV T) ∧ LotOk S n ∧ LotOk T n ∧ (∀ a ∈ T, a ∉ S) ∧
  ∀ (Pl : List Nat) b H', Ex H H' → Pl.Perm (S ++ T) → (b = true ↔ freeR k S T Pl) → Q (.bl b) H'
theorem sc_indep : FnScope ["table", "one", "other"] ["table", "one", "other"] (C8.fnScope (top 49)) := C8.fnScope_by (by decide +kernel)
theorem cal_indep (D : DD K mg "independent" 49) {C : Addr} (c_crossing_ring : C8.Cal P w K mg base 8 "crossing_ring" (spCross K C) []) : C8.Cal P w K mg base 9 "independent" (spIndep K C) [] := by
  refine cal_mk D sc_indep (fun _ _ _ _ _ _ us hl => match us, hl with | [_, _, _], _ => rfl) (fun vs H Q E h => ?_) (fun f cdv A outer s H vs Q E hr h => ?_)
  · obtain ⟨t, x, y, n, k, S, T, rfl, _⟩ := h; rfl
  · obtain ⟨t, x, y, n, k, S, T, rfl, ht, hn, hx, hy, okS, okT, hd, kk⟩ := h
    have nd := sc_indep.nd
    refine ⟨_, (pss_one (ps_ret (pe_cmpR op_isN (C8.pe_c c_crossing_ring hr (by decide) (by rfl) (pa_cons (pv 0) (pa_cons (pv 1) (pa_cons (pv 2) pa_nil)))) pe_non (nomark _)))), ?_⟩
    refine ⟨_, rfl, _, rfl, _, rfl, t, x, y, n, k, S, T, rfl, ht, hn, hx, hy, okS, okT, hd, fun Pl v H' e pP h => ?_⟩
    rcases h with ⟨rfl, h⟩ | ⟨⟨q, rfl⟩, h⟩
    · exact ⟨rfl, kk Pl true H' e pP ⟨fun _ => h, fun _ => rfl⟩⟩
    · exact ⟨rfl, kk Pl false H' e pP ⟨(fun z => (Bool.false_ne_true z).elim), fun z => absurd z h⟩⟩
end
end K18
end
section
set_option Elab.async false
set_option linter.all false
set_option maxRecDepth 100000
set_option maxHeartbeats 4000000
namespace K18
open PySem PySem.Spec PyProof.Rows L2
theorem num_pos {d : Int} (h : 0 < d) : (d : Rat) ≠ 0 := fun z => by
  have : d = 0 := Rat.intCast_inj.mp (by rw [z]; rfl)
  omega
theorem fr_line (r s b : Rat) : Mth.fr (r.num * s.num * b.den + b.num * (r.den * s.den)) (r.den * s.den * b.den) = r * s + b := by
  have h1 := Mth.den_pos r
  have h2 := Mth.den_pos s
  have h3 := Mth.den_pos b
  have h4 := Int.mul_pos (Int.mul_pos h1 h2) h3
  refine Mth.fr_eq (by omega) ?_
  rw [Rat.intCast_add, Rat.intCast_mul, Rat.intCast_mul, Rat.intCast_mul, Rat.intCast_mul, Rat.intCast_mul, Rat.intCast_mul, rat_num r, rat_num s, rat_num b]
  grind
section
variable {P : Program} {w : World} {K : PySem.W.Frag} {mg : Str → Option Value} {base : Heap} {C : Addr}
def spBlur (K : PySem.W.Frag) (C : Addr) : Sp := fun vs H Q _ => ∃ (t x y : V) (n : Nat) (k : Nat → Nat → Rat) (xs ys : List V) (a b : Rat), vs = [t, x, y] ∧ Tab K C H t n k ∧ n ≤ 12 ∧ SzT 60 n k ∧ SeqV K H x xs ∧ SeqV K H y ys ∧ xs.length = n ∧ ys.length = n ∧ At (NumR K fun _ => a) xs H ∧ At (NumR K fun _ => b) ys H ∧ Mth.Sz 60 a ∧ Mth.Sz 60 b ∧
  ∀ w H', Ex H H' → Tab K C H' w n (fun i j => k i j * (a - b) + if i = j then b else 0) → Q w H'
theorem sc_blur : FnScope ["table", "inside", "outside", "a", "b", "made", "i", "row", "top", "bottom", "more", "under", "slope_top", "slope_bottom", "line", "p", "q"] ["table", "inside", "outside"] (C8.fnScope (top 51)) := C8.fnScope_by (by decide +kernel)
theorem cal_blur (B : Bt mg) (D : DD K mg "blurred" 51) (c_row_of : C8.Cal P w K mg base 6 "row_of" (spRowOf K) []) (c_lowest : C8.Cal P w K mg base 1 "lowest" (spLowest K) []) (c_t___init : C8.Mak P w K mg base 4 "Table" C (spInit K) []) (W : TabW K C) : C8.Cal P w K mg base 7 "blurred" (spBlur K C) [] := by
  refine cal_mk D sc_blur (fun _ _ _ _ _ _ us hl => match us, hl with | [_, _, _], _ => rfl) (fun vs H Q E h => ?_) (fun f cdv A outer s H vs Q E hr h => ?_)
  · obtain ⟨t, x, y, n, k, xs, ys, a, b, rfl, _⟩ := h; rfl
  · obtain ⟨t, x, y, n, k, xs, ys, a, b, rfl, ht, hn, hz, hx, hy, hlx, hly, hax, hay, za, zb, kk⟩ := h
    have nd := sc_blur.nd
    refine ⟨_, (pss_cons (ps_par (i := 3) (j := 4) (by rfl) nd rfl rfl (by decide) rfl rfl (pa_cons (C8.pe_c c_row_of hr (by decide) (by rfl) (pa_cons (pv 1) (pa_cons (pe_fldK K (pv 0) (by rfl)) pa_nil))) (pa_cons (C8.pe_c c_row_of hr (by decide) (by rfl) (pa_cons (pv 2) (pa_cons (pe_fldK K (pv 0) (by rfl)) pa_nil))) pa_nil)) (by rfl))
    (pss_cons (pset 5 nd (pe_lst pa_nil))
    (pss_cons (ps_for PassesOwn.never rfl (pi_enumK K (by rfl) B.enumerate (pa_cons (pe_fldK K (pv 0) (by rfl)) pa_nil)) (pg_tupK K (n := 2) rfl (pgs_cons (pgn 6 nd) (pgs_cons (pgn 7 nd) pgs_nil)))
      (pss_cons (ps_asg (pe_tup (pa_cons (pe_ix (ix_tupK K) (pv 3) (pv 6) (fun _ _ => rfl)) (pa_cons (pe_ix (ix_tupK K) (pv 4) (pv 6) (fun _ _ => rfl)) pa_nil))) (pg_tupK K (n := 2) rfl (pgs_cons (pg_tupK K (n := 2) rfl (pgs_cons (pgn 8 nd) (pgs_cons (pgn 9 nd) pgs_nil))) (pgs_cons (pg_tupK K (n := 2) rfl (pgs_cons (pgn 10 nd) (pgs_cons (pgn 11 nd) pgs_nil))) pgs_nil))))
      (pss_cons (ps_asg (C8.pe_c c_lowest hr (by decide) (by rfl) (pa_cons (pe_op op_sub (pe_op op_mulW (pv 8) (pv 11)) (pe_op op_mulW (pv 10) (pv 9))) (pa_cons (pe_op op_mulW (pv 9) (pv 11)) pa_nil))) (pg_tupK K (n := 2) rfl (pgs_cons (pgn 12 nd) (pgs_cons (pgn 13 nd) pgs_nil))))
      (pss_cons (ps_setLc (i := 14) (own := [("p", 15), ("q", 16)]) rfl nd rfl rfl (sw_true rfl rfl rfl (by decide +kernel)) (pi_tupK K (pv 7)) (blkOk_by (own := [("p", 15), ("q", 16)]) (N := ["table", "inside", "outside", "a", "b", "made", "i", "row", "top", "bottom", "more", "under", "slope_top", "slope_bottom", "line", "p", "q"]) (by kernel_rfl)) (fun _ _ _ _ _ => (pg_tupK K (n := 2) rfl (pgs_cons (pgn 15 nd) (pgs_cons (pgn 16 nd) pgs_nil)))) (fun _ _ _ _ _ => pts_nil) (fun _ _ _ _ _ => (pe_tup (pa_cons (pe_op op_mulW (pv 15) (pv 12)) (pa_cons (pe_op op_mulW (pv 16) (pv 13)) pa_nil)))))
      (pss_cons (ps_asg (pe_ix (ix_listK K) (pv 14) (pv 6) (fun _ _ => rfl)) (pg_tupK K (n := 2) rfl (pgs_cons (pgn 15 nd) (pgs_cons (pgn 16 nd) pgs_nil))))
      (pss_cons (ps_asg (pe_tup (pa_cons (pe_op op_add (pe_op op_mulW (pv 15) (pv 11)) (pe_op op_mulW (pv 10) (pv 16))) (pa_cons (pe_op op_mulW (pv 16) (pv 11)) pa_nil))) (pg_sub (pv 14) (pv 6) set_list))
      (pss_one (ps_expr (pe_bm PySem.F.plainAttrs_list PySem.F.slot_list_append PySem.F.type_list_append mt_append (pv 5) (pa_cons (pv 14) pa_nil))))))))))
    (pss_one (ps_ret (C8.pe_mk c_t___init hr (by decide) (by rfl) (pa_cons (pv 5) pa_nil))))))), ?_⟩
    refine ⟨_, rfl, rd_size W ht rfl ⟨_, n, xs, _, rfl, hx, hlx, hn, hax, fun v1 as H1 e1 hv1 hl1 ha1 => ?_⟩⟩
    refine ⟨_, rfl, rd_size W (ht.ex e1) rfl ⟨_, n, ys, _, rfl, hy.ex e1, hly, hn, hay.ex mono_num e1, fun v2 bs H2 e2 hv2 hl2 ha2 => ?_⟩⟩
    obtain ⟨p3, rfl, h3⟩ := hv1
    obtain ⟨p4, rfl, h4⟩ := hv2
    have e12 := e1.trans e2
    refine ⟨_, _, rfl, by decide, fun p5 hp5 => ?_⟩
    have e5 := Evl.Ex.new (o := .lst []) hp5
    have e05 := e12.trans e5
    obtain ⟨pt, dxt, rv, rfl, hpt, hrv⟩ := ht
    obtain ⟨pr, rs, rfl, hpr, hlr, hg⟩ := hrv.get
    refine ⟨_, rfl, pt, C, dxt, _, _, rfl, e05 _ _ hpt, W.cl, W.nr, rfl, pr, rs, H2, rfl, .inr (Evl.ex_t e12 hpr), e5, fun J G wk gm g0 => ?_⟩
    refine for_it wk (Pv := fun i σ' H' => ∃ a6 a7 a8 a9 a10 a11 a12 a13 a14 a15 a16 ms, σ' = [some (.ref pt), some x, some y, some (.ref p3), some (.ref p4), some (.ref p5), a6, a7, a8, a9, a10, a11, a12, a13, a14, a15, a16] ∧ Ex H2 H' ∧ H' p5 = some (.lst ms) ∧ ms.length = i ∧ At (NRow K p5 (fun i => NumV K fun j => k i j * (a - b) + if i = j then b else 0) n) ms H')
      ⟨_, _, _, _, _, _, _, _, _, _, _, [], rfl, e5, upd_same, rfl, At.nil⟩ (fun i σ' H' hi h => by obtain ⟨_, _, _, _, _, _, _, _, _, _, _, _, _, e, _⟩ := h; exact gm _ _ g0 e) ?_ ?_
    · rintro i v σ' H6 H6' hi ⟨a6, a7, a8, a9, a10, a11, a12, a13, a14, a15, a16, ms, rfl, e6, h6, hl6, ha6⟩ ⟨T, i0, y0, rfl, hT, rfl, ex1, ey⟩
      cases ex1
      obtain ⟨q, es, e1', hq1, hl1', hg1⟩ := hg i (by omega)
      have ey' : rs[i]? = some y0 := ey
      rw [e1'] at ey'
      cases ey'
      have eT := Evl.Ex.new (o := .tup [.int (i : Nat), .ref q]) hT
      have e7 := e6.trans eT
      obtain ⟨va, ea, pa, rfl, hpa⟩ := ha1.get (i := i) (by omega)
      obtain ⟨vb, eb, pb, rfl, hpb⟩ := ha2.get (i := i) (by omega)
      refine ⟨T, _, rfl, SqT.of upd_same, rfl, _, _, rfl, _, _, rfl, rfl, ?_⟩
      refine ⟨_, rfl, _, rfl, p3, as, _, _, rfl, rfl, Evl.ex_t (e2.trans e7) h3, at_some ea, _, rfl, _, rfl, p4, bs, _, _, rfl, rfl, Evl.ex_t e7 h4, at_some eb, by show 2 ≤ sizeLine; decide, fun q2 hq2 => ?_⟩
      have e8 := e7.trans (Evl.Ex.new (o := .tup [.ref pa, .ref pb]) hq2)
      refine ⟨q2, _, rfl, SqT.of upd_same, rfl, _, _, rfl, pa, _, rfl, Evl.ex_t (e2.trans e8) hpa, rfl, _, _, rfl, _, _, rfl, rfl, _, _, rfl, pb, _, rfl, Evl.ex_t e8 hpb, rfl, _, _, rfl, _, _, rfl, rfl, rfl, ?_⟩
      refine ⟨_, rfl, _, rfl, _, _, rfl, rfl, wmul za.1 zb.den (by decide) (by decide) (by decide), _, rfl, _, rfl, _, _, rfl, rfl, wmul zb.1 za.den (by decide) (by decide) (by decide), _, _, rfl, rfl, _, rfl, _, rfl, _, _, rfl, rfl, wmul za.den zb.den (by decide) (by decide) (by decide), ?_⟩
      refine ⟨_, _, rfl, Int.mul_pos (Mth.den_pos a) (Mth.den_pos b), Mth.lt_mono (Mth.mul_lt za.den zb.den) (by decide), fun vs H9 e9 hvs => ?_⟩
      have hvs' : Frac K H9 vs (a - b) := by rw [← Mth.fr_sub]; exact hvs
      obtain ⟨psl, rfl, hsl⟩ := hvs'
      have zs := za.sub zb
      have e09 := e8.trans e9
      refine ⟨psl, _, rfl, hsl, rfl, _, _, rfl, _, _, rfl, rfl, ?_⟩
      have hq9 := Evl.ex_t (e12.trans e09) hq1
      refine ⟨_, rfl, q, rfl, ⟨_, hq9⟩, fun D hD => ?_⟩
      refine lcA walk_tup (fun _ _ g e => Evl.ex_t e g) (lt_sz (by omega)) (P := fun j v H => TupV K H v [.int ((k i j).num * (a - b).num), .int ((k i j).den * (a - b).den)]) (fun _ _ _ _ h e => TupV.ex h e) (fun _ _ _ _ _ hD e h => TupV.exD hD e h) hD hq9 ?_ ?_
      · rintro j z H10 H10' Kt hj e10 hgq ⟨rfl, ez⟩ _ kt
        obtain ⟨xe, exe, px, rfl, hpx⟩ := hg1 j (by omega)
        rw [exe] at ez
        cases ez
        have zk := hz i j (by omega) (by omega)
        refine ⟨px, _, rfl, Evl.ex_t (e12.trans (e09.trans e10)) hpx, rfl, _, _, rfl, _, _, rfl, rfl, rfl, ?_⟩
        exact ⟨_, rfl, _, rfl, _, _, rfl, rfl, wmul zk.1 zs.1 (by decide) (by decide) (by decide), _, rfl, _, rfl, _, _, rfl, rfl, wmul zk.den zs.den (by decide) (by decide) (by decide), by show 2 ≤ sizeLine; decide, fun q5 hq5 => kt _ _ (Evl.Ex.new hq5) TupV.new⟩
      intro H11 es' e11 h11 hl11 ha11
      have hes : es'.length = n := by omega
      obtain ⟨vl, evl, pq, rfl, hpq⟩ := ha11.get (i := i) (by omega)
      have zk := hz i i (by omega) (by omega)
      refine ⟨_, rfl, _, rfl, D, es', _, _, rfl, rfl, SqL.of h11, at_some evl, pq, _, rfl, hpq, rfl, _, _, rfl, _, _, rfl, rfl, ?_⟩
      have zp : ((k i i).num * (a - b).num).natAbs < 2 ^ (60 + (60 + 60 + 1)) := Mth.mul_lt zk.1 zs.1
      have zq : ((k i i).den * (a - b).den : Int).natAbs < 2 ^ (60 + (60 + 60 + 1)) := Mth.mul_lt zk.den zs.den
      refine ⟨_, rfl, _, rfl, _, _, rfl, rfl, wmul zp zb.den (by decide) (by decide) (by decide), _, rfl, _, rfl, _, _, rfl, rfl, wmul zb.1 zq (by decide) (by decide) (by decide), _, _, rfl, rfl, _, rfl, _, rfl, _, _, rfl, rfl, wmul zq zb.den (by decide) (by decide) (by decide), by show 2 ≤ sizeLine; decide, fun q6 hq6 => ?_⟩
      have e12' := Evl.Ex.new (o := .tup [.int ((k i i).num * (a - b).num * b.den + b.num * ((k i i).den * (a - b).den)), .int ((k i i).den * (a - b).den * b.den)]) hq6
      refine ⟨_, rfl, _, rfl, D, es', _, i, rfl, rfl, e12' _ _ h11, Evl.ixN_nat (by omega), ?_⟩
      have eall := (eT.trans ((Evl.Ex.new hq2).trans (e9.trans (e11.trans e12'))))
      have eall6 : Ex H6 (upd (upd H11 q6 (.tup [.int ((k i i).num * (a - b).num * b.den + b.num * ((k i i).den * (a - b).den)), .int ((k i i).den * (a - b).den * b.den)])) D (.lst (es'.set i (.ref q6)))) := eall.mut (Evl.fresh_back (eT.trans ((Evl.Ex.new hq2).trans e9)) hD)
      have hp5' := eall6 _ _ h6
      refine ⟨_, rfl, lst_ty hp5', _, rfl, p5, ms, _, rfl, rfl, hp5', lt_sz (by omega), ?_⟩
      have hDp : D ≠ p5 := fun z => by
        have := Evl.fresh_back (eT.trans ((Evl.Ex.new hq2).trans e9)) hD
        rw [z, h6] at this
        cases this
      refine ⟨_, _, _, _, _, _, _, _, _, _, _, ms ++ [.ref D], rfl, (e6.trans eall6).mut hp5, upd_same, by rw [List.length_append, hl6]; rfl, ?_⟩
      generalize hX : upd H11 q6 (.tup [.int ((k i i).num * (a - b).num * b.den + b.num * ((k i i).den * (a - b).den)), .int ((k i i).den * (a - b).den * b.den)]) = HX at *
      have hXD : HX D = some (.lst es') := e12' _ _ h11
      have hXq : HX q6 = some (.tup [.int ((k i i).num * (a - b).num * b.den + b.num * ((k i i).den * (a - b).den)), .int ((k i i).den * (a - b).den * b.den)]) := by rw [← hX]; exact upd_same
      have upD : ∀ c o, c ≠ D → HX c = some o → (upd HX D (.lst (es'.set i (.ref q6)))) c = some o := fun c o hb q => by rw [upd_ne hb]; exact q
      have up : ∀ c o, c ≠ p5 → (upd HX D (.lst (es'.set i (.ref q6)))) c = some o → (upd (upd HX D (.lst (es'.set i (.ref q6)))) p5 (.lst (ms ++ [.ref D]))) c = some o := fun c o hb q => by rw [upd_ne hb]; exact q
      refine At.snoc ((monoD_nrow fun _ => monoD_numV).at_ hp5' up (ha6.ex (mono_nrow fun _ => mono_numV) eall6)) ?_
      rw [hl6]
      refine ⟨fun z => hDp (by injection z), D, es'.set i (.ref q6), rfl, SqL.of (up _ _ hDp upd_same), by rw [List.length_set]; exact hes, fun j v q => ?_⟩
      have conv : ∀ {v : V} {n1 n2 : Int}, TupV K HX v [.int n1, .int n2] → TupV K (upd (upd HX D (.lst (es'.set i (.ref q6)))) p5 (.lst (ms ++ [.ref D]))) v [.int n1, .int n2] := fun h => TupV.exD hp5' up (TupV.exD hXD upD h)
      have hpos1 : 0 < (k i j).den * (a - b).den := Nat.mul_pos (k i j).den_pos (a - b).den_pos
      by_cases ji : j = i
      · subst ji
        rw [List.getElem?_set_self (by omega)] at q
        cases q
        have hpos : 0 < ((k j j).den * (a - b).den * b.den : Int) := Int.mul_pos (Int.mul_pos (Mth.den_pos _) (Mth.den_pos _)) (Mth.den_pos _)
        refine .inr ⟨_, _, conv ⟨q6, rfl, SqT.of hXq⟩, hpos, Mth.lt_mono (Mth.mul_lt zq zb.den) (by decide), ?_⟩
        show k j j * (a - b) + (if j = j then b else 0) = _
        rw [if_pos rfl, fr_line]
      · rw [List.getElem?_set_ne (fun z => ji z.symm)] at q
        have hj : j < n := by have := (List.getElem?_eq_some_iff.mp q).1; omega
        have zk2 := hz i j (by omega) hj
        refine .inr ⟨_, _, conv ((ha11 j v q).ex e12'), Int.mul_pos (Mth.den_pos _) (Mth.den_pos _), Mth.lt_mono (Mth.mul_lt zk2.den zs.den) (by decide), ?_⟩
        show k i j * (a - b) + (if i = j then b else 0) = _
        rw [if_neg (fun z => ji z.symm), Mth.fr_mul, Rat.add_zero]
    · rintro σ' H6 ⟨a6, a7, a8, a9, a10, a11, a12, a13, a14, a15, a16, ms, rfl, e6, h6, hl6, ha6⟩
      refine ⟨_, rfl, ?_⟩
      exact mk_tab W hn (raw_of h6 (by omega) ha6) fun t H' e ht => kk t H' (e12.trans (e6.trans e)) ht
end
end K18
end
section
set_option Elab.async false
set_option linter.all false
set_option maxRecDepth 100000
set_option maxHeartbeats 4000000
namespace K18
open PySem PySem.Spec PyProof.Rows L2
/-! ### the law, plainly -/
theorem rs_add {α : Type} (f g : α → Rat) {l : List α} : Mth.rs (fun z => f z + g z) l = Mth.rs f l + Mth.rs g l := by
  have := Mth.rs_lin (f := f) (g := g) 1 1 (l := l)
  rw [Mth.rs_congr (g := fun z => 1 * f z + 1 * g z) fun z _ => by grind, this]
  grind
theorem rs_zero {α : Type} {f : α → Rat} : ∀ {l : List α}, (∀ x ∈ l, f x = 0) → Mth.rs f l = 0
  | [], _ => rfl
  | x :: l, h => by
    show f x + Mth.rs f l = 0
    rw [h x List.mem_cons_self, rs_zero fun y hy => h y (List.mem_cons_of_mem _ hy)]
    grind
theorem rs_swap {α β : Type} (g : α → β → Rat) {T : List β} : ∀ {S : List α}, Mth.rs (fun a => Mth.rs (g a) T) S = Mth.rs (fun b => Mth.rs (fun a => g a b) S) T
  | [] => (rs_zero fun _ _ => rfl).symm
  | a :: S => by
    show Mth.rs (g a) T + Mth.rs (fun a => Mth.rs (g a) T) S = _
    rw [rs_swap (S := S), ← rs_add]
    rfl
theorem prK_symm (k : Nat → Nat → Rat) (a b : Nat) : prK k a b = prK k b a := by
  unfold prK
  by_cases e : a = b
  · subst e; rfl
  · rw [if_neg e, if_neg (fun z => e z.symm)]; grind
theorem cov_symm (k : Nat → Nat → Rat) (S T : List Nat) : Mth.cov k T S = Mth.cov k S T := by
  rw [cov_pr, cov_pr, rs_swap]
  exact Mth.rs_congr fun a _ => Mth.rs_congr fun b _ => prK_symm k b a
theorem cov_app (k : Nat → Nat → Rat) (S T T' : List Nat) : Mth.cov k S (T ++ T') = Mth.cov k S T + Mth.cov k S T' := by
  rw [cov_pr, cov_pr, cov_pr, ← rs_add]
  exact Mth.rs_congr fun a _ => Mth.rs_app _
theorem cov_split (k : Nat → Nat → Rat) (S T : List Nat) (p : Nat → Bool) : Mth.cov k S (T.filter p) + Mth.cov k S (T.filter fun i => !p i) = Mth.cov k S T := by
  rw [← cov_app]
  exact cov_perm (List.Perm.refl _) (filter_split p T)
/-- of two lots apart -/
theorem cov_apart {k : Nat → Nat → Rat} {S T : List Nat} (hd : ∀ b ∈ T, b ∉ S) : Mth.cov k S T = Mth.rs (fun a => Mth.rs (fun b => -(k a b * k b a)) T) S := by
  rw [cov_pr]
  refine Mth.rs_congr fun a ha => Mth.rs_congr fun b hb => ?_
  unfold prK
  rw [if_neg (fun z : a = b => hd b hb (by rw [← z]; exact ha))]
  grind
theorem rs_nonpos {α : Type} {f : α → Rat} : ∀ {l : List α}, (∀ x ∈ l, f x ≤ 0) → Mth.rs f l ≤ 0
  | [], _ => Rat.le_refl
  | x :: l, h => by
    show f x + Mth.rs f l ≤ 0
    have h1 := h x List.mem_cons_self
    have h2 := rs_nonpos (l := l) fun y hy => h y (List.mem_cons_of_mem _ hy)
    grind
theorem rs_all0 {α : Type} {f : α → Rat} : ∀ {l : List α}, (∀ x ∈ l, f x ≤ 0) → Mth.rs f l = 0 → ∀ x ∈ l, f x = 0
  | [], _, _, x, hx => by cases hx
  | y :: l, h, e, x, hx => by
    have h1 := h y List.mem_cons_self
    have h2 := rs_nonpos (l := l) fun z hz => h z (List.mem_cons_of_mem _ hz)
    have e' : f y + Mth.rs f l = 0 := e
    rcases List.mem_cons.mp hx with rfl | hx
    · grind
    · exact rs_all0 (fun z hz => h z (List.mem_cons_of_mem _ hz)) (by grind) x hx
theorem pair_ring {k : Nat → Nat → Rat} {P : List Nat} {u v : Nat} (hu : u ∈ P) (hv : v ∈ P) (huv : u < v) (h1 : k u v ≠ 0) (h2 : k v u ≠ 0) : [u, v] ∈ rings k P := by
  have hlen : 2 ≤ P.length := by
    have hn : [u, v].Nodup := List.nodup_cons.mpr ⟨by simp; omega, List.nodup_cons.mpr ⟨List.not_mem_nil, List.nodup_nil⟩⟩
    have := hn.length_le_of_subset (l₂ := P) fun x hx => by
      rcases List.mem_cons.mp hx with rfl | hx
      · exact hu
      · rw [List.mem_singleton.mp hx]; exact hv
    simpa using this
  have hw : [u, v] ∈ waysN k P 1 := by
    show [u, v] ∈ stepW k P (waysN k P 0)
    refine List.mem_map.mpr ⟨([u], v), List.mem_filter.mpr ⟨?_, ?_⟩, rfl⟩
    · refine List.mem_flatMap.mpr ⟨[u], List.mem_map.mpr ⟨u, hu, rfl⟩, List.mem_map.mpr ⟨v, List.mem_filter.mpr ⟨hv, ?_⟩, rfl⟩⟩
      unfold selP
      rw [decide_eq_true (show [u].headD 0 < v from huv), decide_eq_false (fun q => by rw [List.mem_singleton.mp q] at huv; omega)]
      rfl
    · exact decide_eq_true ⟨by show u ≠ v; omega, h1⟩
  have ho : [u, v] ∈ outR k (waysN k P 1) := List.mem_filter.mpr ⟨hw, decide_eq_true ⟨by show v ≠ u; omega, h2⟩⟩
  show [u, v] ∈ ringsW k P (P.length - 1) 0
  obtain ⟨m, hm⟩ : ∃ m, P.length - 1 = m + 1 := ⟨P.length - 2, by omega⟩
  rw [hm]
  exact List.mem_append_left _ ho
theorem hit_mem {w S : List Nat} {x : Nat} (h1 : x ∈ w) (h2 : x ∈ S) : hit w S = true := List.any_eq_true.mpr ⟨x, h1, decide_eq_true h2⟩
theorem free_prod {k : Nat → Nat → Rat} {S T P : List Nat} (hP : P.Perm (S ++ T)) (hd : ∀ b ∈ T, b ∉ S) (hf : freeR k S T P) {a b : Nat} (ha : a ∈ S) (hb : b ∈ T) : k a b = 0 ∨ k b a = 0 := by
  by_cases h1 : k a b = 0
  · exact .inl h1
  by_cases h2 : k b a = 0
  · exact .inr h2
  have haP : a ∈ P := hP.mem_iff.mpr (List.mem_append_left _ ha)
  have hbP : b ∈ P := hP.mem_iff.mpr (List.mem_append_right _ hb)
  have hab : a ≠ b := fun z => hd b hb (by rw [← z]; exact ha)
  rcases Nat.lt_or_gt_of_ne hab with q | q
  · exact absurd ⟨hit_mem (by simp) ha, hit_mem (by simp) hb⟩ (hf _ (pair_ring haP hbP q h1 h2))
  · exact absurd ⟨hit_mem (by simp) ha, hit_mem (by simp) hb⟩ (hf _ (pair_ring hbP haP q h2 h1))
theorem cov_free {k : Nat → Nat → Rat} {S T P : List Nat} (hP : P.Perm (S ++ T)) (hd : ∀ b ∈ T, b ∉ S) (hf : freeR k S T P) : Mth.cov k S T = 0 := by
  rw [cov_apart hd]
  refine rs_zero fun a ha => rs_zero fun b hb => ?_
  rcases free_prod hP hd hf ha hb with h | h <;> rw [h] <;> grind
/-- no link across: each way stays on its side -/
theorem way_side {k : Nat → Nat → Rat} {S P : List Nat} (hc : ∀ x ∈ P, ∀ y ∈ P, k x y ≠ 0 → (x ∈ S ↔ y ∈ S)) : ∀ {i : Nat} {w : List Nat}, w ∈ waysN k P i → ∀ x ∈ w, ∀ y ∈ w, (x ∈ S ↔ y ∈ S)
  | 0, w, h, x, hx, y, hy => by
    obtain ⟨p, _, rfl⟩ := List.mem_map.mp h
    rw [List.mem_singleton.mp hx, List.mem_singleton.mp hy]
  | i + 1, w, h, x, hx, y, hy => by
    obtain ⟨v, p, rfl, hv, hp, _, hl⟩ := step_mem h
    have ih := way_side hc hv
    obtain ⟨hvl, hvP⟩ := ways_good hv
    have hlm : v.getLastD 0 ∈ v := by
      rw [List.getLastD_eq_getLast?, List.getLast?_eq_getElem?, List.getElem?_eq_getElem (by omega)]
      exact List.getElem_mem _
    have hlp : (v.getLastD 0 ∈ S ↔ p ∈ S) := hc _ (hvP _ hlm) _ hp (of_decide_eq_true hl).2
    have side : ∀ z ∈ v ++ [p], (z ∈ S ↔ v.getLastD 0 ∈ S) := fun z hz => by
      rcases List.mem_append.mp hz with hz | hz
      · exact ih z hz _ hlm
      · rw [List.mem_singleton.mp hz]; exact hlp.symm
    exact (side x hx).trans (side y hy).symm
theorem free_of {k : Nat → Nat → Rat} {S T P : List Nat} (hd : ∀ b ∈ T, b ∉ S) (hc : ∀ x ∈ P, ∀ y ∈ P, k x y ≠ 0 → (x ∈ S ↔ y ∈ S)) : freeR k S T P := fun w hw ⟨h1, h2⟩ => by
  obtain ⟨j, _, hj⟩ := rings_good hw
  obtain ⟨x, hx, hxS⟩ := List.any_eq_true.mp h1
  obtain ⟨y, hy, hyT⟩ := List.any_eq_true.mp h2
  exact hd y (of_decide_eq_true hyT) ((way_side hc hj x hx y hy).mp (of_decide_eq_true hxS))
/-- of a balanced table -/
theorem bal_law {n : Nat} {D : Int} {A : Mth.Mat} {S T P : List Nat} (hD : 0 < D) (hb : Bal n A) (okS : ∀ a ∈ S, a < n) (okT : ∀ b ∈ T, b < n) (hP : P.Perm (S ++ T)) (hd : ∀ b ∈ T, b ∉ S) :
    Mth.cov (Mth.K D A) S T ≤ 0 ∧ (Mth.cov (Mth.K D A) S T = 0 ↔ NoL A S T) ∧ (freeR (Mth.K D A) S T P ↔ NoL A S T) := by
  have hD' : (D : Rat) ≠ 0 := num_pos hD
  have k0 : ∀ i j, Mth.K D A i j = 0 ↔ A i j = 0 := fun i j => by
    unfold Mth.K
    constructor
    · intro h
      have : (A i j : Rat) = 0 := by grind
      exact Rat.intCast_inj.mp (by rw [this]; rfl)
    · intro h
      rw [h]
      show ((0 : Int) : Rat) / _ = 0
      rw [show ((0 : Int) : Rat) = 0 from rfl]
      grind
  have kp : ∀ a ∈ S, ∀ b ∈ T, 0 ≤ Mth.K D A a b * Mth.K D A b a := fun a ha b hb' => by
    have h := (hb a (okS a ha) b (okT b hb')).1
    unfold Mth.K
    have h2 : (0 : Rat) ≤ ((A a b * A b a : Int) : Rat) := Rat.intCast_nonneg.mpr h
    have h3 : (0 : Rat) < ((D : Rat) * D)⁻¹ := Rat.inv_pos.mpr (Rat.mul_pos (Rat.intCast_pos.mpr hD) (Rat.intCast_pos.mpr hD))
    have e : (A a b : Rat) / D * ((A b a : Rat) / D) = ((A a b * A b a : Int) : Rat) * ((D : Rat) * D)⁻¹ := by
      rw [Rat.intCast_mul]
      grind
    rw [e]
    exact Rat.mul_nonneg h2 (by grind)
  have ab0 : ∀ a ∈ S, ∀ b ∈ T, A a b * A b a = 0 → A a b = 0 := fun a ha b hb' h => by
    rcases Int.mul_eq_zero.mp h with q | q
    · exact q
    · exact (hb b (okT b hb') a (okS a ha)).2 q
  rw [cov_apart hd]
  have np : ∀ a ∈ S, ∀ b ∈ T, -(Mth.K D A a b * Mth.K D A b a) ≤ 0 := fun a ha b hb' => by
    have := kp a ha b hb'
    grind
  refine ⟨rs_nonpos fun a ha => rs_nonpos fun b hb' => np a ha b hb', ⟨fun h a ha b hb' => ?_, fun h => rs_zero fun a ha => rs_zero fun b hb' => ?_⟩, ⟨fun hf a ha b hb' => ?_, fun h => free_of hd fun x hx y hy hxy => ?_⟩⟩
  · have h1 := rs_all0 (fun a ha => rs_nonpos fun b hb' => np a ha b hb') h a ha
    have h2 := rs_all0 (fun b hb' => np a ha b hb') h1 b hb'
    have h3 : Mth.K D A a b = 0 ∨ Mth.K D A b a = 0 := by
      by_cases q : Mth.K D A a b = 0
      · exact .inl q
      · right; grind
    rcases h3 with q | q
    · exact (k0 a b).mp q
    · exact (hb b (okT b hb') a (okS a ha)).2 ((k0 b a).mp q)
  · rw [(k0 a b).mpr (h a ha b hb')]
    grind
  · rcases free_prod hP hd hf ha hb' with q | q
    · exact (k0 a b).mp q
    · exact (hb b (okT b hb') a (okS a ha)).2 ((k0 b a).mp q)
  · have hA : A x y ≠ 0 := fun z => hxy ((k0 x y).mpr z)
    have mem : ∀ z ∈ P, z ∈ S ∨ z ∈ T := fun z hz => List.mem_append.mp (hP.mem_iff.mp hz)
    constructor
    · intro hxS
      rcases mem y hy with q | q
      · exact q
      · exact absurd (h x hxS y q) hA
    · intro hyS
      rcases mem x hx with q | q
      · exact q
      · exact absurd ((hb y (okS y hyS) x (okT x q)).2 (h y hyS x q)) hA
end K18
end
section
set_option Elab.async false
set_option linter.all false
set_option maxRecDepth 100000
set_option maxHeartbeats 4000000
namespace K18
open PySem PySem.Spec PyProof.Rows L2
/-! ### coins beside a table -/
theorem rs_map {α β : Type} (f : β → Rat) (g : α → β) : ∀ {l : List α}, Mth.rs f (l.map g) = Mth.rs (fun x => f (g x)) l
  | [] => rfl
  | x :: l => by
    show f (g x) + Mth.rs f (l.map g) = f (g x) + Mth.rs _ l
    rw [rs_map f g (l := l)]
theorem rs_pick {x : Rat} {a : Nat} : ∀ {l : List Nat}, l.Nodup → a ∈ l → Mth.rs (fun b => if a = b then x else 0) l = x
  | [], _, h => by cases h
  | b :: l, nd, h => by
    obtain ⟨h1, h2⟩ := List.nodup_cons.mp nd
    show (if a = b then x else 0) + Mth.rs _ l = x
    by_cases e : a = b
    · subst e
      rw [if_pos rfl, rs_zero fun c hc => if_neg fun z => h1 (by rw [z]; exact hc)]
      grind
    · rw [if_neg e, rs_pick h2 ((List.mem_cons.mp h).resolve_left e)]
      grind
def coinK (f : Nat → Rat) : Nat → Nat → Rat := fun i j => if i = j then f i else 0
theorem beside_in {n : Nat} {k k' : Nat → Nat → Rat} {i j : Nat} (hi : i < n) (hj : j < n) : beside n k k' i j = k i j := by
  unfold beside
  rw [if_pos hi, if_pos hj]
theorem beside_oi {n : Nat} {k k' : Nat → Nat → Rat} {i j : Nat} (hi : n ≤ i) (hj : j < n) : beside n k k' i j = 0 := by
  unfold beside
  rw [if_neg (by omega), if_pos hj]
theorem beside_oo {n : Nat} {k k' : Nat → Nat → Rat} {i j : Nat} (hi : n ≤ i) (hj : n ≤ j) : beside n k k' i j = k' (i - n) (j - n) := by
  unfold beside
  rw [if_neg (by omega), if_neg (by omega)]
theorem cov_beside {n : Nat} {k k' : Nat → Nat → Rat} {C S T : List Nat} (hC : ∀ a ∈ C, n ≤ a) (hS : ∀ a ∈ S, a < n) (hT : ∀ b ∈ T, b < n) : Mth.cov (beside n k k') (C ++ S) T = Mth.cov k S T := by
  rw [cov_pr, Mth.rs_app, rs_zero (fun a ha => rs_zero fun b hb => ?_), Rat.zero_add, cov_pr]
  · refine Mth.rs_congr fun a ha => Mth.rs_congr fun b hb => ?_
    unfold prK
    rw [beside_in (hS a ha) (hS a ha), beside_in (hS a ha) (hT b hb), beside_in (hT b hb) (hS a ha)]
  · have h1 := hC a ha
    have h2 := hT b hb
    unfold prK
    rw [if_neg (by omega), beside_oi h1 h2]
    grind
theorem prK_coin {n : Nat} {k : Nat → Nat → Rat} {f : Nat → Rat} {a b : Nat} (ha : n ≤ a) (hb : n ≤ b) : prK (beside n k (coinK f)) a b = if a = b then f (a - n) * (1 - f (a - n)) else 0 := by
  unfold prK coinK
  rw [beside_oo ha ha, beside_oo ha hb, beside_oo hb ha]
  by_cases e : a = b
  · subst e
    rw [if_pos rfl, if_pos rfl, if_pos rfl]
    grind
  · rw [if_neg e, if_neg (by omega), if_neg (by omega), if_neg e]
    grind
theorem cov_coins {n : Nat} {k : Nat → Nat → Rat} {f : Nat → Rat} {C : List Nat} (hC : ∀ a ∈ C, n ≤ a) (nd : C.Nodup) : Mth.cov (beside n k (coinK f)) C C = Mth.rs (fun a => f (a - n) * (1 - f (a - n))) C := by
  rw [cov_pr]
  refine Mth.rs_congr fun a ha => ?_
  rw [Mth.rs_congr (g := fun b => if a = b then f (a - n) * (1 - f (a - n)) else 0) fun b hb => prK_coin (hC a ha) (hC b hb)]
  exact rs_pick nd ha
theorem cov_coins0 {n : Nat} {k : Nat → Nat → Rat} {f : Nat → Rat} {C C' : List Nat} (hC : ∀ a ∈ C, n ≤ a) (hC' : ∀ a ∈ C', n ≤ a) (hd : ∀ a ∈ C, ∀ b ∈ C', a ≠ b) : Mth.cov (beside n k (coinK f)) C C' = 0 := by
  rw [cov_pr]
  exact rs_zero fun a ha => rs_zero fun b hb => by rw [prK_coin (hC a ha) (hC' b hb), if_neg (hd a ha b hb)]
/-- the coins' places -/
def coinsL (n m : Nat) : List Nat := (List.range m).map fun i => n + i
theorem coinsL_ge {n m a : Nat} (h : a ∈ coinsL n m) : n ≤ a := by
  obtain ⟨i, _, rfl⟩ := List.mem_map.mp h
  omega
theorem coinsL_lt {n m a : Nat} (h : a ∈ coinsL n m) : a < n + m := by
  obtain ⟨i, hi, rfl⟩ := List.mem_map.mp h
  have := List.mem_range.mp hi
  omega
theorem coinsL_len {n m : Nat} : (coinsL n m).length = m := by unfold coinsL; rw [List.length_map, List.length_range]
theorem coinsL_nd {n m : Nat} : (coinsL n m).Nodup := by
  unfold coinsL List.Nodup
  rw [List.pairwise_map]
  exact (List.nodup_range (n := m)).imp fun h q => h (by omega)
theorem cov_coinsL {n m : Nat} {k : Nat → Nat → Rat} {f : Nat → Rat} : Mth.cov (beside n k (coinK f)) (coinsL n m) (coinsL n m) = Mth.rs (fun i => f i * (1 - f i)) (List.range m) := by
  rw [cov_coins (fun a => coinsL_ge) coinsL_nd]
  unfold coinsL
  rw [rs_map]
  refine Mth.rs_congr fun i _ => ?_
  rw [Nat.add_sub_cancel_left]
theorem sz_rs {g : Nat → Rat} {b : Nat} (h : ∀ i, Mth.Sz b (g i)) : ∀ i, Mth.Sz (1 + i * (b + 1)) (Mth.rs g (List.range i))
  | 0 => by
    show Mth.Sz (1 + 0 * (b + 1)) (0 : Rat)
    exact (Mth.Sz.int (k := 1) (i := 0) (by decide) (Nat.le_refl _)).mono (by omega)
  | i + 1 => by
    rw [List.range_succ, Mth.rs_app]
    show Mth.Sz _ (_ + (g i + 0))
    rw [Rat.add_zero]
    refine ((sz_rs h i).add (h i)).mono ?_
    rw [Nat.add_mul]
    omega
theorem sz_coin {r : Rat} (h : Mth.Sz 30 r) : Mth.Sz 62 (r * (1 - r)) :=
  (h.mul ((Mth.Sz.int (k := 1) (i := 1) (by decide) (Nat.le_refl _)).sub h)).mono (by omega)
theorem drop_take {α : Type} {l : List α} (nd : l.Nodup) (i : Nat) : ∀ a ∈ l.take i, ∀ b ∈ l.drop i, a ≠ b := by
  have h := nd
  rw [← List.take_append_drop i l] at h
  exact fun a ha b hb => (List.pairwise_append.mp h).2.2 a ha b hb
end K18
end
section
set_option Elab.async false
set_option linter.all false
set_option maxRecDepth 100000
set_option maxHeartbeats 4000000
namespace K18
open PySem PySem.Spec PyProof.Rows L2
theorem nV_rev {l : List Nat} : (nV l).reverse = nV l.reverse := by unfold nV; rw [List.map_reverse]
theorem LotOk.perm {l l' : List Nat} {n : Nat} (h : LotOk l n) (p : l'.Perm l) : LotOk l' n := ⟨fun x hx => h.lt x (p.mem_iff.mp hx), p.nodup_iff.mpr h.nd⟩
theorem LotOk.filter {l : List Nat} {n : Nat} {p : Nat → Bool} (h : LotOk l n) : LotOk (l.filter p) n := ⟨fun x hx => h.lt x (List.mem_filter.mp hx).1, h.nd.sublist List.filter_sublist⟩
theorem ne_same {K : PySem.W.Frag} {H : Hp} {x y : V} {r : Rat} {Q : VK} (hx : Frac K H x r) (hy : Frac K H y r) (q : Q (.bl false) H) : rNeD K x y H Q := by
  refine ⟨dFr r, dFr r, hx.dp, hy.dp, shaped_fr r, shaped_fr r, ?_⟩
  rw [SeqAt.eqv_refl _ (lay_fr r).1]
  exact q
theorem sz_KD {D : Int} {n : Nat} {A : Mth.Mat} (hD : 0 < D) (hDb : D.natAbs < 2 ^ 24) (hA : Bnd 24 n A) : SzT 30 n (Mth.K D A) := fun i j hi hj => (Mth.Sz.fr (k := 24) hD (hA i hi j hj) hDb).mono (by decide)
theorem eqbl {c : Int} {b : Bool} (h : decide (c = 0) = b) : decide (V.bl (decide (V.int c = V.int 0)) = V.bl b) = true := by
  have e : decide (V.int c = V.int 0) = decide (c = 0) := by
    by_cases z : c = 0
    · rw [z]; rfl
    · rw [decide_eq_false z, decide_eq_false fun q => z (by injection q)]
  rw [e, h]
  exact decide_eq_true rfl
theorem eqbl2 {ys : List V} {b : Bool} (h : ys = [] ↔ b = true) : decide (V.bl b = V.bl (!(!ys.isEmpty))) = true := by
  have e : (!(!ys.isEmpty)) = b := by
    rw [Bool.not_not, Bool.eq_iff_iff, List.isEmpty_iff, h]
  rw [e]
  exact decide_eq_true rfl
section
variable {P : Program} {w : World} {K : PySem.W.Frag} {mg : Str → Option Value} {base : Heap} {C : Addr}
def spAsked (K : PySem.W.Frag) (C : Addr) : Sp := fun vs H Q _ => ∃ (d pn : Addr) (t pr : V) (D : Int) (n : Nat) (A : Mth.Mat) (xs : List V), vs = [.ref d, t, pr, .ref pn] ∧ Dig d H ∧ n ≤ 5 ∧ 0 < D ∧ D.natAbs < 2 ^ 24 ∧ Bnd 24 n A ∧ LT (wo d H) t D n A ∧ Tab K C (wo d H) pr n (Mth.K D A) ∧
  (wo d H) pn = some (.lst xs) ∧ xs.length = 2 ^ n ∧ At (FracR K fun m => Mth.fr (Mth.cN n D A m) (D ^ n)) xs (wo d H) ∧ (∀ m, m < 2 ^ n → (Mth.cN n D A m).natAbs < 2 ^ 1024) ∧ ∀ H', Ex (wo d H) (wo d H') → Dig d H' → Q (.bl true) H'
theorem sc_asked : FnScope ["_law_digits", "_law_table", "_law_program", "_law_numbers", "_law_size_here", "_law_one", "_law_other", "_law_due", "_law_told", "_law_left", "_law_common", "_law_apart", "_law_free_here", "_law_at"] ["_law_digits", "_law_table", "_law_program", "_law_numbers"] (C8.fnScope (top 84)) := C8.fnScope_by (by decide +kernel)
theorem cal_asked (B : Bt mg) (D : DD K mg "_law_asked" 84) (c_l_some : C8.Cal P w K mg base 2 "_law_some" (spSome K) []) (c_l_moment : C8.Cal P w K mg base 5 "_law_moment" (spMoment K) []) (c_covariance : C8.Cal P w K mg base 5 "covariance" (spCov K C) []) (c_l_is : C8.Cal P w K mg base 2 "_law_is" (spIs K) []) (c_variance : C8.Cal P w K mg base 6 "variance" (spVar K C) []) (c_l_add : C8.Cal P w K mg base 3 "_law_add" (spBin (· + ·) K) []) (c_independent : C8.Cal P w K mg base 9 "independent" (spIndep K C) []) (c_l_own : C8.Cal P w K mg base 4 "_law_own" (spOwn K) []) (c_l_links : C8.Cal P w K mg base 1 "_law_links" (spLinks K) []) : C8.Cal P w K mg base 10 "_law_asked" (spAsked K C) [] := by
  refine cal_mk D sc_asked (fun _ _ _ _ _ _ us hl => match us, hl with | [_, _, _, _], _ => rfl) (fun vs H Q E h => ?_) (fun f cdv A outer s H vs Q E hr h => ?_)
  · obtain ⟨d, pn, t, pr, D, n, A, xs, rfl, _⟩ := h; rfl
  · obtain ⟨d, pn, t, pr, Db, n, A, xs, rfl, hd, hn, hD0, hDb, hA, ht, hpr, hpn, hlx, hax, hcb, kk⟩ := h
    have nd := sc_asked.nd
    refine ⟨_, (pss_cons (pset 4 nd (pe_callB (call_lenK K) (by rfl) B.len PySem.boot_len (pa_cons (pe_ix (ix_listK K) (pv 1) pe_int (fun _ _ => rfl)) pa_nil)))
    (pss_cons (pset 5 nd (C8.pe_c c_l_some hr (by decide) (by rfl) (pa_cons (pv 0) (pa_cons (pv 4) pa_nil))))
    (pss_cons (pset 6 nd (C8.pe_c c_l_some hr (by decide) (by rfl) (pa_cons (pv 0) (pa_cons (pv 4) pa_nil))))
    (pss_cons (pset 7 nd (C8.pe_c c_l_moment hr (by decide) (by rfl) (pa_cons (pv 3) (pa_cons (pv 5) (pa_cons (pv 6) (pa_cons (pv 4) pa_nil))))))
    (pss_cons (pset 8 nd (C8.pe_c c_covariance hr (by decide) (by rfl) (pa_cons (pv 2) (pa_cons (pe_callTy (call_lstK K) (by rfl) B.list PyProof.Rows.boot_list (pa_cons (pe_revT (pv 5)) pa_nil)) (pa_cons (pv 6) pa_nil)))))
    (pss_cons (ps_if (PW.pt (pw_or (pt_not (pt_val (C8.pe_c c_l_is hr (by decide) (by rfl) (pa_cons (pv 8) pa_nil)))) (pw_or (pt_cmpR (op_neDK K hr.units) (pv 8) (pv 7) (nomark _)) (pw_or1 (pt_cmpR (op_neDK K hr.units) (C8.pe_c c_covariance hr (by decide) (by rfl) (pa_cons (pv 2) (pa_cons (pv 6) (pa_cons (pv 5) pa_nil)))) (pv 7) (nomark _)))))) (pss_one (ps_ret pe_bl)) pss_nil)
    (pss_cons (ps_if (pt_cmpR (op_neDK K hr.units) (C8.pe_c c_variance hr (by decide) (by rfl) (pa_cons (pv 2) (pa_cons (pv 5) pa_nil))) (C8.pe_c c_l_moment hr (by decide) (by rfl) (pa_cons (pv 3) (pa_cons (pv 5) (pa_cons (pv 5) (pa_cons (pv 4) pa_nil))))) (nomark _)) (pss_one (ps_ret pe_bl)) pss_nil)
    (pss_cons (pset 9 nd (pe_callTy (call_tupK K) (by rfl) B.tuple PyProof.Rows.boot_tuple (pa_cons (pe_lc (own := [("_law_at", 13)]) rfl nd (pi_tupK K (pv 6)) (blkOk_by (own := [("_law_at", 13)]) (N := ["_law_digits", "_law_table", "_law_program", "_law_numbers", "_law_size_here", "_law_one", "_law_other", "_law_due", "_law_told", "_law_left", "_law_common", "_law_apart", "_law_free_here", "_law_at"]) (by kernel_rfl)) (fun _ _ _ _ _ => (pgn 13 nd)) (fun _ _ _ _ _ => (pts_one (pt_cmpR (op_niK K) (pv 13) (pv 5) rfl))) (fun _ _ _ _ _ => (pv 13))) pa_nil)))
    (pss_cons (ps_setLc (i := 10) (own := [("_law_at", 13)]) rfl nd rfl rfl (sw_true rfl rfl rfl (by decide +kernel)) (pi_tupK K (pv 6)) (blkOk_by (own := [("_law_at", 13)]) (N := ["_law_digits", "_law_table", "_law_program", "_law_numbers", "_law_size_here", "_law_one", "_law_other", "_law_due", "_law_told", "_law_left", "_law_common", "_law_apart", "_law_free_here", "_law_at"]) (by kernel_rfl)) (fun _ _ _ _ _ => (pgn 13 nd)) (fun _ _ _ _ _ => (pts_one (pt_cmpR (op_inK K) (pv 13) (pv 5) rfl))) (fun _ _ _ _ _ => (pv 13)))
    (pss_cons (ps_if (pt_cmpR (op_neDK K hr.units) (C8.pe_c c_l_add hr (by decide) (by rfl) (pa_cons (C8.pe_c c_covariance hr (by decide) (by rfl) (pa_cons (pv 2) (pa_cons (pv 5) (pa_cons (pv 10) pa_nil)))) (pa_cons (C8.pe_c c_covariance hr (by decide) (by rfl) (pa_cons (pv 2) (pa_cons (pv 5) (pa_cons (pv 9) pa_nil)))) pa_nil))) (pv 7) (nomark _)) (pss_one (ps_ret pe_bl)) pss_nil)
    (pss_cons (pset 11 nd (C8.pe_c c_covariance hr (by decide) (by rfl) (pa_cons (pv 2) (pa_cons (pv 5) (pa_cons (pv 9) pa_nil)))))
    (pss_cons (pset 12 nd (C8.pe_c c_independent hr (by decide) (by rfl) (pa_cons (pv 2) (pa_cons (pv 5) (pa_cons (pv 9) pa_nil)))))
    (pss_cons (ps_if (PW.pt (pw_and (pt_val (pv 12)) (pw_and1 (pt_cmpR op_ne (pe_ix (ix_tupK K) (pv 11) pe_int (fun _ _ => rfl)) pe_int (nomark _))))) (pss_one (ps_ret pe_bl)) pss_nil)
    (pss_cons (ps_if (pt_cmpR op_isN (C8.pe_c c_l_own hr (by decide) (by rfl) (pa_cons (pv 1) pa_nil)) pe_non (nomark _)) (pss_one (ps_ret pe_bl)) pss_nil)
    (pss_one (ps_ret (pe_and (pe_cmpR op_le (pe_ix (ix_tupK K) (pv 11) pe_int (fun _ _ => rfl)) pe_int (nomark _)) (pe_and (pe_cmpR op_eq (pe_cmpR op_eq (pe_ix (ix_tupK K) (pv 11) pe_int (fun _ _ => rfl)) pe_int (nomark _)) (pv 12) (nomark _)) (pe_one (pe_cmpR op_eq (pv 12) (pe_notT (C8.pe_c c_l_links hr (by decide) (by rfl) (pa_cons (pv 1) (pa_cons (pv 5) (pa_cons (pv 9) pa_nil))))) (nomark _))))))))))))))))))))), ?_⟩
    refine rd_ltN (ht.ex wo_sub) rfl ?_
    refine ⟨_, rfl, _, rfl, d, n, rfl, by omega, hd, fun v1 S H1 e1 hd1 hv1 okS _ => ?_⟩
    refine ⟨_, rfl, _, rfl, d, n, rfl, by omega, hd1, fun v2 T H2 e2 hd2 hv2 okT _ => ?_⟩
    have e12 := e1.trans e2
    have up : Ex (wo d H) H2 := e12.trans wo_sub
    obtain ⟨q1, rfl, h1⟩ := hv1.ex (e2.trans wo_sub)
    obtain ⟨q2, rfl, h2⟩ := hv2.ex wo_sub
    have ht2 := ht.ex up
    have hpr2 := hpr.ex up
    have hpn2 := up _ _ hpn
    have hax2 := hax.ex mono_frac up
    have hz := sz_KD hD0 hDb hA
    have hSl := okS.len
    have hTl := okT.len
    refine ⟨_, rfl, _, rfl, _, rfl, _, rfl, pn, .ref q1, .ref q2, Db, n, A, xs, S, T, rfl, hn, hD0, hDb, hpn2, hlx, hax2, hcb, ⟨q1, rfl, .inr h1⟩, ⟨q2, rfl, h2⟩, okS, okT, fun v7 H7 e7 hv7 => ?_⟩
    refine ⟨_, rfl, _, rfl, q1, _, rfl, Evl.ex_t e7 h1, fun qr hqr => ?_⟩
    have er := Evl.Ex.new (o := .tup (nV S).reverse) hqr
    refine ⟨qr, _, rfl, .inr (SqT.of upd_same), fun ql hql => ?_⟩
    have el := Evl.Ex.new (o := .lst (nV S).reverse) hql
    have e7l := (e7.trans er).trans el
    have bST : ∀ a b : Nat, a ≤ 5 → b ≤ 5 → a * b ≤ 125 := fun a b ha hb => Nat.le_trans (Nat.mul_le_mul ha hb) (by decide)
    have szc : ∀ a b : Nat, a ≤ 5 → b ≤ 5 → 1 + a * (61 * b + 31) ≤ 1700 := fun a b ha hb => by
      have : a * (61 * b + 31) ≤ 5 * (61 * 5 + 31) := Nat.mul_le_mul ha (by omega)
      omega
    refine ⟨_, rfl, pr, .ref ql, .ref q2, n, Mth.K Db A, S.reverse, T, rfl, hpr2.ex e7l, by omega, hz, ⟨ql, rfl, .inl (SqL.of (by rw [upd_same, nV_rev]))⟩, ⟨q2, rfl, .inr (Evl.ex_t e7l h2)⟩, okS.perm (List.reverse_perm _), okT, by rw [List.length_reverse]; exact bST _ _ (by omega) (by omega), fun v8 H8 e8 hv8 sz8 => ?_⟩
    rw [cov_perm (List.reverse_perm _) (List.Perm.refl _)] at hv8 sz8
    rw [List.length_reverse] at sz8
    have e28 := e7l.trans e8
    have sz8' := sz8.mono (szc _ _ (by omega) (by omega))
    refine ⟨_, rfl, v8, _, rfl, hv8, sz8'.mono (by decide), _, rfl, ?_⟩
    refine iteF ⟨_, rfl, _, rfl, ne_same hv8 (hv7.ex ((er.trans el).trans e8)) ⟨_, rfl, iteF ?_⟩⟩
    refine ⟨_, rfl, _, rfl, _, rfl, pr, .ref q2, .ref q1, n, Mth.K Db A, T, S, rfl, hpr2.ex e28, by omega, hz, ⟨q2, rfl, .inr (Evl.ex_t e28 h2)⟩, ⟨q1, rfl, .inr (Evl.ex_t e28 h1)⟩, okT, okS, bST _ _ (by omega) (by omega), fun v9 H9 e9 hv9 _ => ?_⟩
    rw [cov_symm] at hv9
    have e79 := ((er.trans el).trans e8).trans e9
    refine ⟨_, rfl, ne_same hv9 (hv7.ex e79) ⟨_, rfl, iteF ?_⟩⟩
    have e29 := e28.trans e9
    -- the variance
    refine ⟨_, rfl, _, rfl, pr, .ref q1, n, Mth.K Db A, S, rfl, hpr2.ex e29, by omega, hz, ⟨q1, rfl, .inr (Evl.ex_t e29 h1)⟩, okS, bST _ _ (by omega) (by omega), fun v10 H10 e10 hv10 _ => ?_⟩
    have e2a := e29.trans e10
    refine ⟨_, rfl, _, rfl, _, rfl, _, rfl, pn, .ref q1, .ref q1, Db, n, A, xs, S, S, rfl, hn, hD0, hDb, e2a _ _ hpn2, hlx, hax2.ex mono_frac e2a, hcb, ⟨q1, rfl, .inr (Evl.ex_t e2a h1)⟩, ⟨q1, rfl, Evl.ex_t e2a h1⟩, okS, okS, fun v11 H11 e11 hv11 => ?_⟩
    refine ne_same (hv10.ex e11) hv11 ⟨_, rfl, iteF ?_⟩
    have e2b := e2a.trans e11
    -- left
    refine ⟨_, rfl, q2, rfl, ⟨_, Evl.ex_t e2b h2⟩, fun D1 hD1 => ?_⟩
    refine lcV walk_tup (fun _ _ g e => Evl.ex_t e g) (by rw [nV_len]; exact lt_sz (by omega)) (fun i => !decide (T.getD i 0 ∈ S)) (fun i => .int (T.getD i 0 : Nat)) hD1 (Evl.ex_t e2b h2) ?_ ?_
    · rintro i x H12 H12' Kt Kf hi e12' hg ⟨rfl, ex⟩ _ kt kf
      obtain ⟨hil, rfl⟩ := nV_at ex
      refine ⟨rfl, _, rfl, _, rfl, q1, _, rfl, .inr (Evl.ex_t (e2b.trans e12') h1), rfl, flat_nV, _, rfl, ?_⟩
      rw [if_pos rfl, inV_nV]
      rw [getD_at hil] at kt kf
      by_cases hm : T[i] ∈ S
      · rw [decide_eq_true hm] at kf ⊢
        exact iteF (kf rfl _ (Evl.Ex.refl _))
      · rw [decide_eq_false hm] at kt ⊢
        exact iteT ⟨_, rfl, kt rfl _ (Evl.Ex.refl _)⟩
    intro H12 e12' h12
    rw [nV_len, sel_list (f := fun i : Nat => V.int i) (p := fun i => !decide (i ∈ S)) (a := T) 0] at h12
    refine ⟨D1, _, rfl, .inl ⟨SqL.of h12, fun ql2 hql2 => ?_⟩⟩
    have e13 := Evl.Ex.new (o := .tup ((T.filter fun i => !decide (i ∈ S)).map fun i : Nat => V.int i)) hql2
    have e2d := e2b.trans (e12'.trans e13)
    have hL : SqT K (upd H12 ql2 (.tup ((T.filter fun i => !decide (i ∈ S)).map fun i : Nat => V.int i))) ql2 (nV (T.filter fun i => !decide (i ∈ S))) := SqT.of upd_same
    generalize upd H12 ql2 (.tup ((T.filter fun i => !decide (i ∈ S)).map fun i : Nat => V.int i)) = H13 at *
    have okL : LotOk (T.filter fun i => !decide (i ∈ S)) n := okT.filter
    have okC : LotOk (T.filter fun i => decide (i ∈ S)) n := okT.filter
    have split := cov_split (Mth.K Db A) S T (fun i => decide (i ∈ S))
    have hap : ∀ b ∈ T.filter (fun i => !decide (i ∈ S)), b ∉ S := fun b hb => by
      have := (List.mem_filter.mp hb).2
      simpa using this
    have hLl := okL.len
    have hCl := okC.len
    generalize (T.filter fun i => !decide (i ∈ S)) = L at *
    generalize hC : (T.filter fun i => decide (i ∈ S)) = Cm at *
    -- common
    refine ⟨_, rfl, q2, rfl, ⟨_, Evl.ex_t e2d h2⟩, fun D2 hD2 => ?_⟩
    refine lcV walk_tup (fun _ _ g e => Evl.ex_t e g) (by rw [nV_len]; exact lt_sz (by omega)) (fun i => decide (T.getD i 0 ∈ S)) (fun i => .int (T.getD i 0 : Nat)) hD2 (Evl.ex_t e2d h2) ?_ ?_
    · rintro i x H14 H14' Kt Kf hi e14' hg ⟨rfl, ex⟩ _ kt kf
      obtain ⟨hil, rfl⟩ := nV_at ex
      refine ⟨rfl, _, rfl, _, rfl, q1, _, rfl, .inr (Evl.ex_t (e2d.trans e14') h1), rfl, flat_nV, _, rfl, ?_⟩
      rw [if_neg Bool.false_ne_true, inV_nV]
      rw [getD_at hil] at kt kf
      by_cases hm : T[i] ∈ S
      · rw [decide_eq_true hm] at kt ⊢
        exact iteT ⟨_, rfl, kt rfl _ (Evl.Ex.refl _)⟩
      · rw [decide_eq_false hm] at kf ⊢
        exact iteF (kf rfl _ (Evl.Ex.refl _))
    intro H14 e14 h14
    rw [nV_len, sel_list (f := fun i : Nat => V.int i) (p := fun i => decide (i ∈ S)) (a := T) 0, hC] at h14
    have hCm : SqL K H14 D2 (nV Cm) := SqL.of h14
    have e2e := e2d.trans e14
    have hL14 := Evl.ex_t e14 hL
    refine ⟨_, rfl, _, rfl, _, rfl, pr, .ref q1, .ref D2, n, Mth.K Db A, S, Cm, rfl, hpr2.ex e2e, by omega, hz, ⟨q1, rfl, .inr (Evl.ex_t e2e h1)⟩, ⟨D2, rfl, .inl hCm⟩, okS, okC, bST _ _ (by omega) (by omega), fun v15 H15 e15 hv15 sz15 => ?_⟩
    have e2f := e2e.trans e15
    refine ⟨_, rfl, _, rfl, _, rfl, pr, .ref q1, .ref ql2, n, Mth.K Db A, S, L, rfl, hpr2.ex e2f, by omega, hz, ⟨q1, rfl, .inr (Evl.ex_t e2f h1)⟩, ⟨ql2, rfl, .inr (Evl.ex_t e15 hL14)⟩, okS, okL, bST _ _ (by omega) (by omega), fun v16 H16 e16 hv16 sz16 => ?_⟩
    have e2g := e2f.trans e16
    refine ⟨v15, v16, _, _, 1700, 1700, rfl, hv15.ex e16, hv16, sz15.mono (szc _ _ (by omega) (by omega)), sz16.mono (szc _ _ (by omega) (by omega)), by decide, by decide, by decide, fun v17 H17 e17 hv17 => ?_⟩
    have hv17' : Frac K H17 v17 (Mth.cov (Mth.K Db A) S T) := by rw [← split]; exact hv17
    have e7g : Ex H7 H17 := e79.trans (e10.trans (e11.trans (e12'.trans (e13.trans (e14.trans (e15.trans (e16.trans e17)))))))
    refine ⟨_, rfl, ne_same hv17' (hv7.ex e7g) ⟨_, rfl, iteF ?_⟩⟩
    have e2h := e2g.trans e17
    have hL17 := Evl.ex_t (e15.trans (e16.trans e17)) hL14
    -- apart
    refine ⟨_, rfl, _, rfl, _, rfl, pr, .ref q1, .ref ql2, n, Mth.K Db A, S, L, rfl, hpr2.ex e2h, by omega, hz, ⟨q1, rfl, .inr (Evl.ex_t e2h h1)⟩, ⟨ql2, rfl, .inr hL17⟩, okS, okL, bST _ _ (by omega) (by omega), fun v18 H18 e18 hv18 _ => ?_⟩
    have e2i := e2h.trans e18
    have hL18 := Evl.ex_t e18 hL17
    refine ⟨_, rfl, _, rfl, _, rfl, pr, .ref q1, .ref ql2, n, Mth.K Db A, S, L, rfl, hpr2.ex e2i, hn, ⟨q1, rfl, .inr (Evl.ex_t e2i h1)⟩, ⟨ql2, rfl, .inr hL18⟩, okS, okL, hap, fun Pl fr H19 e19 hPl hfr => ?_⟩
    have e2j := e2i.trans e19
    obtain ⟨p18, rfl, t18⟩ := hv18.ex e19
    have hL19 := Evl.ex_t e19 hL18
    have fin : ∀ H', Ex H19 H' → Q (.bl true) H' := fun H' e => kk H' (e12.trans (wo_ex (e2j.trans e))) (hd2.ex (e2j.trans e))
    have num0 : (Mth.cov (Mth.K Db A) S L).num = 0 ↔ Mth.cov (Mth.K Db A) S L = 0 := Rat.num_eq_zero
    have cf : fr = true → (Mth.cov (Mth.K Db A) S L).num = 0 := fun h => num0.mpr (cov_free hPl hap (hfr.mp h))
    have t18' : SqT K H19 p18 [.int (Mth.cov (Mth.K Db A) S L).num, .int (Mth.cov (Mth.K Db A) S L).den] := t18
    refine ⟨_, rfl, fr, rfl, ?_⟩
    have fin2 : ∀ H', Ex H19 H' → Bal n A → (Mth.cov (Mth.K Db A) S L).num ≤ 0 ∧ decide ((Mth.cov (Mth.K Db A) S L).num = 0) = fr ∧ (NoL A S L ↔ fr = true) := fun H' e hbal => by
      obtain ⟨b1, b2, b3⟩ := bal_law hD0 hbal okS.lt okL.lt hPl hap
      refine ⟨?_, ?_, ?_⟩
      · by_cases q : 0 < (Mth.cov (Mth.K Db A) S L).num
        · have := num_pos'.mp q
          grind
        · omega
      · rw [Bool.eq_iff_iff, decide_eq_true_iff, num0, hfr, b3, b2]
      · rw [hfr, b3]
    cases fr
    case' true => refine iteT ⟨_, rfl, p18, _, 0, _, rfl, rfl, t18', rfl, rfl, _, rfl, ?_⟩
    case' true => rw [show (!decide (V.int (Mth.cov (Mth.K Db A) S L).num = V.int 0)) = false by rw [cf rfl]; rfl]
    case' true => refine iteF ?_
    case' false => refine iteF (iteF ?_)
    all_goals
      refine ⟨_, rfl, t, Db, n, A, rfl, ht2.ex e2j, hn, hA, fun H20 e20 => ⟨rfl, true, rfl, iteT (fin H20 e20)⟩, fun p20 H20 e20 hbal => ⟨rfl, false, rfl, iteF ?_⟩⟩
      obtain ⟨c1, c2, c3⟩ := fin2 H20 e20 hbal
      have t20 := Evl.ex_t e20 t18'
      refine ⟨_, rfl, p18, _, 0, _, rfl, rfl, t20, rfl, _, _, rfl, rfl, _, rfl, ?_⟩
      rw [decide_eq_true c1]
      refine iteT ⟨_, rfl, p18, _, 0, _, rfl, rfl, t20, rfl, rfl, _, rfl, rfl, _, rfl, ?_⟩
      rw [eqbl c2]
      refine iteT ⟨_, rfl, _, rfl, _, rfl, _, rfl, t, .ref q1, .ref ql2, Db, n, A, S, L, rfl, ht2.ex (e2j.trans e20), ⟨q1, rfl, Evl.ex_t (e2j.trans e20) h1⟩, ⟨ql2, rfl, Evl.ex_t e20 hL19⟩, hn, okS, okL, fun p21 ys H21 e21 hp21 hys => ⟨_, .inl ⟨_, SqL.of hp21, rfl⟩, rfl, ?_⟩⟩
      have hb := eqbl2 (hys.trans c3)
      rw [hb]
      exact fin _ (e20.trans e21)
end
end K18
end
section
set_option Elab.async false
set_option linter.all false
set_option maxRecDepth 100000
set_option maxHeartbeats 4000000
namespace K18
open PySem PySem.Spec PyProof.Rows L2
section
variable {P : Program} {w : World} {K : PySem.W.Frag} {mg : Str → Option Value} {base : Heap} {C : Addr}
/-- the table and the program's table, one turn on -/
def spNext (K : PySem.W.Frag) (C : Addr) : Sp := fun vs H Q _ => ∃ (d : Addr) (t pr : V) (D : Int) (n b : Nat) (A : Mth.Mat), vs = [.ref d, t, pr] ∧ Dig d H ∧ n ≤ 5 ∧ 0 < D ∧ D.natAbs < 2 ^ b ∧ b ≤ 18 ∧ Bnd b n A ∧ LT (wo d H) t D n A ∧ Tab K C (wo d H) pr n (Mth.K D A) ∧
  ∀ p (t' pr' : V) (D' : Int) (A' : Mth.Mat) H', Ex (wo d H) (wo d H') → Dig d H' → (wo d H') p = some (.lst [t', pr']) → LT (wo d H') t' D' n A' → Tab K C (wo d H') pr' n (Mth.K D' A') → 0 < D' → D'.natAbs < 2 ^ (b + 4) → Bnd (b + 4) n A' → Q (.ref p) H'
theorem Tab.sans {K : PySem.W.Frag} {C d : Addr} {H : Hp} {v : V} {n : Nat} {k : Nat → Nat → Rat} (h : Tab K C H v n k) (hd : Dig d H) : Tab K C (wo d H) v n k := by
  obtain ⟨ds, hds⟩ := hd
  have tt : ∀ {p : Addr} {xs : List V}, SqT K H p xs → SqT K (wo d H) p xs := fun {p xs} h => by
    rcases h with (h | ⟨o, h⟩) | h
    · exact .inl (.inl (by rw [wo_at (fun z => by rw [z, hds] at h; cases h)]; exact h))
    · exact .inl (.inr ⟨o, by rw [wo_at (fun z => by rw [z, hds] at h; cases h)]; exact h⟩)
    · exact .inr h
  obtain ⟨p, dx, rv, rfl, hp, rs, ⟨q, rfl, hq⟩, hl, hx⟩ := h
  refine ⟨p, dx, .ref q, rfl, by rw [wo_at (fun z => by rw [z, hds] at hp; cases hp)]; exact hp, rs, ⟨q, rfl, tt hq⟩, hl, fun i v hv => ?_⟩
  obtain ⟨es, ⟨q', rfl, hq'⟩, hl', hx'⟩ := hx i v hv
  refine ⟨es, ⟨q', rfl, tt hq'⟩, hl', fun j w hw => ?_⟩
  obtain ⟨q2, rfl, h2⟩ := hx' j w hw
  exact ⟨q2, rfl, tt h2⟩
theorem KD_off {D : Int} {A : Mth.Mat} (hD : 0 < D) (i j : Nat) : (if i = j then (1 : Rat) else 0) - Mth.K D A i j = Mth.K D (Mth.off D A) i j := by
  have h0 := num_pos hD
  unfold Mth.K Mth.off Mth.unit
  rw [Rat.intCast_sub]
  by_cases e : i = j
  · rw [if_pos e, if_pos e]; grind
  · rw [if_neg e, if_neg e, show ((0 : Int) : Rat) = 0 from rfl]; grind
theorem KD_dim {D : Int} {A : Mth.Mat} (hD : 0 < D) (a b : Nat) (i j : Nat) : Mth.K D A i j * (Mth.fr a 6 - Mth.fr b 6) + (if i = j then Mth.fr b 6 else 0) = Mth.K (6 * D) (fun i j => ((a : Int) - b) * A i j + if i = j then (b : Int) * D else 0) i j := by
  have h0 := num_pos hD
  unfold Mth.K Mth.fr
  rw [Rat.intCast_add, Rat.intCast_mul, Rat.intCast_mul, Rat.intCast_sub, show ((6 : Int) : Rat) = 6 from rfl]
  by_cases e : i = j
  · rw [if_pos e, if_pos e, Rat.intCast_mul]; grind
  · rw [if_neg e, if_neg e, show ((0 : Int) : Rat) = 0 from rfl]; grind
theorem sz_KD8 {b n : Nat} {D : Int} {A : Mth.Mat} (hD : 0 < D) (hDb : D.natAbs < 2 ^ b) (hb : b ≤ 18) (hA : Bnd b n A) : SzT 8000 n (Mth.K D A) := fun i j hi hj => (Mth.Sz.fr (k := b) hD (hA i hi j hj) hDb).mono (by omega)
theorem sc_next : FnScope ["_law_digits", "_law_table", "_law_program", "_law_size_here", "_law_word", "_law_order", "_law_inside", "_law_outside", "_law_dim", "_law_at"] ["_law_digits", "_law_table", "_law_program"] (C8.fnScope (top 85)) := C8.fnScope_by (by decide +kernel)
theorem cal_next (B : Bt mg) (D : DD K mg "_law_next" 85) (c_l_eat : C8.Cal P w K mg base 1 "_law_eat" (spEat) []) (c_l_turned : C8.Cal P w K mg base 1 "_law_turned" (spLTurned) []) (c_t___invert : C8.Met P w K mg base 6 C "__invert__" (spInv K C) []) (c_l_across : C8.Cal P w K mg base 1 "_law_across" (spAcross) []) (c_t_transposed : C8.Met P w K mg base 6 C "transposed" (spTrans K C) []) (c_l_perm : C8.Cal P w K mg base 2 "_law_perm" (spPerm) []) (c_l_moved : C8.Cal P w K mg base 1 "_law_moved" (spLMoved) []) (c_t_moved : C8.Met P w K mg base 6 C "moved" (spMoved K C) []) (c_blurred : C8.Cal P w K mg base 7 "blurred" (spBlur K C) []) (c_l_dimmed : C8.Cal P w K mg base 1 "_law_dimmed" (spDimmed) []) : C8.Cal P w K mg base 8 "_law_next" (spNext K C) [] := by
  refine cal_mk D sc_next (fun _ _ _ _ _ _ us hl => match us, hl with | [_, _, _], _ => rfl) (fun vs H Q E h => ?_) (fun f cdv A outer s H vs Q E hr h => ?_)
  · obtain ⟨d, t, pr, D, n, b, A, rfl, _⟩ := h; rfl
  · obtain ⟨d, t, pr, Db, n, b, A, rfl, hd, hn, hD0, hDb, hb, hA, ht, hpr, kk⟩ := h
    have nd := sc_next.nd
    refine ⟨_, (pss_cons (pset 3 nd (pe_callB (call_lenK K) (by rfl) B.len PySem.boot_len (pa_cons (pe_ix (ix_listK K) (pv 1) pe_int (fun _ _ => rfl)) pa_nil)))
    (pss_cons (pset 4 nd (C8.pe_c c_l_eat hr (by decide) (by rfl) (pa_cons (pv 0) (pa_cons pe_int pa_nil))))
    (pss_cons (ps_if (pt_cmpR op_eq (pv 4) pe_int (nomark _)) (pss_one (ps_ret (pe_lst (pa_cons (C8.pe_c c_l_turned hr (by decide) (by rfl) (pa_cons (pv 1) pa_nil)) (pa_cons (pe_un (un_invO c_t___invert hr (by decide)) (pv 2)) pa_nil))))) pss_nil)
    (pss_cons (ps_if (pt_cmpR op_eq (pv 4) pe_int (nomark _)) (pss_one (ps_ret (pe_lst (pa_cons (C8.pe_c c_l_across hr (by decide) (by rfl) (pa_cons (pv 1) pa_nil)) (pa_cons (C8.pe_mt0 c_t_transposed hr (by decide) (pv 2)) pa_nil))))) pss_nil)
    (pss_cons (ps_if (pt_cmpR op_eq (pv 4) pe_int (nomark _)) (pss_cons (pset 5 nd (C8.pe_c c_l_perm hr (by decide) (by rfl) (pa_cons (pv 0) (pa_cons (pv 3) pa_nil))))
      (pss_one (ps_ret (pe_lst (pa_cons (C8.pe_c c_l_moved hr (by decide) (by rfl) (pa_cons (pv 1) (pa_cons (pv 5) pa_nil))) (pa_cons (C8.pe_mt c_t_moved hr (by decide) (pv 2) (pa_cons (pv 5) pa_nil)) pa_nil)))))) pss_nil)
    (pss_cons (pset 6 nd (C8.pe_c c_l_eat hr (by decide) (by rfl) (pa_cons (pv 0) (pa_cons pe_int pa_nil))))
    (pss_cons (pset 7 nd (C8.pe_c c_l_eat hr (by decide) (by rfl) (pa_cons (pv 0) (pa_cons pe_int pa_nil))))
    (pss_cons (pset 8 nd (C8.pe_c c_blurred hr (by decide) (by rfl) (pa_cons (pv 2) (pa_cons (pe_lc (own := [("_law_at", 9)]) rfl nd (pi_range1 (by rfl) B.range (pa_cons (pv 3) pa_nil)) (blkOk_by (own := [("_law_at", 9)]) (N := ["_law_digits", "_law_table", "_law_program", "_law_size_here", "_law_word", "_law_order", "_law_inside", "_law_outside", "_law_dim", "_law_at"]) (by kernel_rfl)) (fun _ _ _ _ _ => (pgn 9 nd)) (fun _ _ _ _ _ => pts_nil) (fun _ _ _ _ _ => (pe_tup (pa_cons (pv 6) (pa_cons pe_int pa_nil))))) (pa_cons (pe_callTy (call_tupK K) (by rfl) B.tuple PyProof.Rows.boot_tuple (pa_cons (pe_lc (own := [("_law_at", 9)]) rfl nd (pi_range1 (by rfl) B.range (pa_cons (pv 3) pa_nil)) (blkOk_by (own := [("_law_at", 9)]) (N := ["_law_digits", "_law_table", "_law_program", "_law_size_here", "_law_word", "_law_order", "_law_inside", "_law_outside", "_law_dim", "_law_at"]) (by kernel_rfl)) (fun _ _ _ _ _ => (pgn 9 nd)) (fun _ _ _ _ _ => pts_nil) (fun _ _ _ _ _ => (pe_tup (pa_cons (pv 7) (pa_cons pe_int pa_nil))))) pa_nil)) pa_nil)))))
    (pss_one (ps_ret (pe_lst (pa_cons (C8.pe_c c_l_dimmed hr (by decide) (by rfl) (pa_cons (pv 1) (pa_cons (pv 6) (pa_cons (pv 7) pa_nil)))) (pa_cons (pv 8) pa_nil))))))))))))), ?_⟩
    refine rd_ltN (ht.ex wo_sub) rfl ?_
    refine ⟨_, rfl, d, 4, rfl, by decide, hd, fun wd H1 hwd e1 hd1 => ?_⟩
    have up := e1.trans wo_sub
    have ht1 := ht.ex up
    have hpr1 := hpr.ex up
    have hz := sz_KD8 hD0 hDb hb hA
    refine ⟨_, rfl, rfl, _, rfl, ?_⟩
    by_cases w0 : wd = 0
    · rw [show decide (V.int (wd : Int) = V.int 0) = true by rw [w0]; exact decide_eq_true rfl]
      refine iteT ⟨_, rfl, t, Db, n, A, rfl, ht1, hn, fun v2 H2 e2 l2 => ?_⟩
      obtain ⟨p, dx, rv, rfl, hp, hr'⟩ := hpr1.ex e2
      refine ⟨_, rfl, p, dx, _, rfl, hp, .ref p, n, _, rfl, ⟨p, dx, rv, rfl, hp, hr'⟩, by omega, hz, fun w H3 e3 hw => ?_⟩
      refine ⟨by show 2 ≤ sizeLine; decide, fun pl hpl => ?_⟩
      have hd3 := (hd1.ex e2).ex e3
      have en := Evl.Ex.new (o := .lst [v2, w]) hpl
      have hd4 := hd3.ex en
      refine kk pl v2 w Db (Mth.off Db A) _ (e1.trans (wo_ex (e2.trans (e3.trans en)))) hd4 (by rw [wo_at (hd3.ne hpl), upd_same]) ((l2.wo hd1).ex (wo_ex (e3.trans en))) (((hw.ex en).sans hd4).congr fun i j _ _ => KD_off hD0 i j) hD0 (Mth.lt_mono hDb (by omega)) fun i hi j hj => ?_
      show ((if i = j then Db else 0) - A i j).natAbs < _
      have := hA i hi j hj
      split
      · exact Mth.lt_mono (Mth.sub_lt hDb this) (by omega)
      · exact Mth.lt_mono (Mth.sub_lt (i := 0) (a := b) (Nat.two_pow_pos _) this) (by omega)
    rw [decide_eq_false (fun q => w0 (by injection q with q; omega))]
    refine iteF ⟨_, rfl, rfl, _, rfl, ?_⟩
    by_cases w1 : wd = 1
    · rw [show decide (V.int (wd : Int) = V.int 1) = true by rw [w1]; exact decide_eq_true rfl]
      refine iteT ⟨_, rfl, t, Db, n, A, rfl, ht1, hn, fun v2 H2 e2 l2 => ?_⟩
      obtain ⟨p, dx, rv, rfl, hp, hr'⟩ := hpr1.ex e2
      refine ⟨_, rfl, p, dx, _, rfl, hp, rfl, .ref p, n, _, rfl, ⟨p, dx, rv, rfl, hp, hr'⟩, by omega, hz, fun w H3 e3 hw => ?_⟩
      refine ⟨by show 2 ≤ sizeLine; decide, fun pl hpl => ?_⟩
      have hd3 := (hd1.ex e2).ex e3
      have en := Evl.Ex.new (o := .lst [v2, w]) hpl
      exact kk pl v2 w Db (fun i j => A j i) _ (e1.trans (wo_ex (e2.trans (e3.trans en)))) (hd3.ex en) (by rw [wo_at (hd3.ne hpl), upd_same]) ((l2.wo hd1).ex (wo_ex (e3.trans en))) ((hw.ex en).sans (hd3.ex en)) hD0 (Mth.lt_mono hDb (by omega)) fun i hi j hj => Mth.lt_mono (hA j hj i hi) (by omega)
    rw [decide_eq_false (fun q => w1 (by injection q with q; omega))]
    refine iteF ⟨_, rfl, rfl, _, rfl, ?_⟩
    by_cases w2 : wd = 2
    · rw [show decide (V.int (wd : Int) = V.int 2) = true by rw [w2]; exact decide_eq_true rfl]
      refine iteT ⟨_, rfl, _, rfl, d, n, rfl, hn, hd1, fun po l H2 e2 hd2 hpo1 hpo hpm => ?_⟩
      have hll : l.length = n := by rw [hpm.length_eq, List.length_range]
      have hlt : ∀ x ∈ l, x < n := fun x hx => List.mem_range.mp (hpm.mem_iff.mp hx)
      have up2 : Ex (wo d H) H2 := (e1.trans e2).trans wo_sub
      refine ⟨_, rfl, _, rfl, t, po, Db, n, A, l, rfl, ht.ex up2, hpo, hll, hlt, hn, fun v3 H3 e3 l3 => ?_⟩
      obtain ⟨p, dx, rv, rfl, hp, hr'⟩ := hpr.ex (up2.trans e3)
      refine ⟨_, rfl, p, dx, _, rfl, hp, rfl, _, rfl, .ref p, .ref po, n, _, l, rfl, ⟨p, dx, rv, rfl, hp, hr'⟩, by omega, ⟨po, rfl, .inl (SqL.of (e3 _ _ hpo))⟩, ⟨hlt, hpm.nodup_iff.mpr List.nodup_range⟩, hll, hz, fun w H4 e4 hw => ?_⟩
      refine ⟨by show 2 ≤ sizeLine; decide, fun pl hpl => ?_⟩
      have hd4 := (hd2.ex e3).ex e4
      have en := Evl.Ex.new (o := .lst [v3, w]) hpl
      have lm : ∀ i, i < n → l.getD i 0 < n := fun i hi => by rw [getD_at (by omega)]; exact hlt _ (List.getElem_mem _)
      exact kk pl v3 w Db (fun i j => A (l.getD i 0) (l.getD j 0)) _ ((e1.trans e2).trans (wo_ex (e3.trans (e4.trans en)))) (hd4.ex en) (by rw [wo_at (hd4.ne hpl), upd_same]) ((l3.wo hd2).ex (wo_ex (e4.trans en))) ((hw.ex en).sans (hd4.ex en)) hD0 (Mth.lt_mono hDb (by omega)) fun i hi j hj => Mth.lt_mono (hA _ (lm i hi) _ (lm j hj)) (by omega)
    rw [decide_eq_false (fun q => w2 (by injection q with q; omega))]
    refine iteF ⟨_, rfl, d, 7, rfl, by decide, hd1, fun a H2 ha e2 hd2 => ⟨_, rfl, d, 7, rfl, by decide, hd2, fun c H3 hc e3 hd3 => ?_⟩⟩
    have up3 : Ex (wo d H) H3 := ((e1.trans e2).trans e3).trans wo_sub
    have za : Mth.Sz 60 (Mth.fr (a : Int) 6) := (Mth.Sz.fr (k := 3) (by decide) (by omega) (by decide)).mono (by decide)
    have zc : Mth.Sz 60 (Mth.fr (c : Int) 6) := (Mth.Sz.fr (k := 3) (by decide) (by omega) (by decide)).mono (by decide)
    have mD : ∀ (D : Addr) (r : Rat), MonoD D (NumR K fun _ => r) := fun D r _ _ _ _ _ hD e h => ⟨Num.exD hD e h.1, h.2⟩
    refine ⟨_, rfl, _, rfl, _, rfl, by omega, by omega, fun D1 hD1 => ?_⟩
    refine lcA walk_rng gm_true (lt_sz (by omega)) (P := NumR K fun _ => Mth.fr (a : Int) 6) mono_num (mD D1 _) hD1 True.intro ?_ ?_
    · rintro i x H4 H4' Kt hi e4 _ ⟨rfl, rfl⟩ _ kt
      exact ⟨rfl, _, rfl, by show 2 ≤ sizeLine; decide, fun q hq => kt _ _ (Evl.Ex.new hq) ⟨.inr ⟨_, _, TupV.new, by decide, Mth.lt_mono (a := 3) (by decide) (by decide), rfl⟩, za.mono (by decide)⟩⟩
    intro H4 xs e4 h4 hl4 ha4
    refine ⟨_, rfl, _, rfl, by omega, by omega, fun D2 hD2 => ?_⟩
    refine lcA walk_rng gm_true (lt_sz (by omega)) (P := NumR K fun _ => Mth.fr (c : Int) 6) mono_num (mD D2 _) hD2 True.intro ?_ ?_
    · rintro i x H5 H5' Kt hi e5 _ ⟨rfl, rfl⟩ _ kt
      exact ⟨rfl, _, rfl, by show 2 ≤ sizeLine; decide, fun q hq => kt _ _ (Evl.Ex.new hq) ⟨.inr ⟨_, _, TupV.new, by decide, Mth.lt_mono (a := 3) (by decide) (by decide), rfl⟩, zc.mono (by decide)⟩⟩
    intro H5 ys e5 h5 hl5 ha5
    refine ⟨D2, ys, rfl, .inl ⟨SqL.of h5, fun q6 hq6 => ?_⟩⟩
    have e6 := Evl.Ex.new (o := .tup ys) hq6
    have e46 := e5.trans e6
    have e36 := e4.trans e46
    refine ⟨pr, .ref D1, .ref q6, n, _, xs, ys, Mth.fr (a : Int) 6, Mth.fr (c : Int) 6, rfl, hpr.ex (up3.trans e36), by omega, fun i j hi hj => (Mth.Sz.fr (k := b) hD0 (hA i hi j hj) hDb).mono (by omega), ⟨D1, rfl, .inl (SqL.of (e46 _ _ h4))⟩, ⟨q6, rfl, .inr (SqT.of upd_same)⟩, by rw [hl4]; rfl, by rw [hl5]; rfl, ha4.ex mono_num e46, ha5.ex mono_num e6, za, zc, fun w H7 e7 hw => ?_⟩
    have e37 := e36.trans e7
    refine ⟨_, rfl, _, rfl, _, rfl, t, a, c, Db, n, A, rfl, ht.ex (up3.trans e37), hn, ha, hc, Mth.lt_mono hDb (by omega), fun i hi j hj => Mth.lt_mono (hA i hi j hj) (by omega), fun v8 H8 e8 l8 => ?_⟩
    refine ⟨_, rfl, by show 2 ≤ sizeLine; decide, fun pl hpl => ?_⟩
    have hd7 := hd3.ex e37
    have hd8 := hd7.ex e8
    have en := Evl.Ex.new (o := .lst [v8, w]) hpl
    have b6 : ∀ z : Int, z.natAbs < 2 ^ b → (6 * z).natAbs < 2 ^ (b + 3) := fun z h => by have := Mth.mul_lt (i := 6) (a := 3) (by decide) h; rw [Nat.add_comm] at this; exact this
    refine kk pl v8 w (6 * Db) _ _ (((e1.trans e2).trans e3).trans (wo_ex (e37.trans (e8.trans en)))) (hd8.ex en) (by rw [wo_at (hd8.ne hpl), upd_same]) ((l8.wo hd7).ex (wo_ex en)) (((hw.ex (e8.trans en)).sans (hd8.ex en)).congr fun i j _ _ => KD_dim hD0 a c i j) (by omega) (Mth.lt_mono (b6 _ hDb) (by omega)) fun i hi j hj => ?_
    show (((a : Int) - c) * A i j + if i = j then (c : Int) * Db else 0).natAbs < 2 ^ (b + 4)
    have h1 : (((a : Int) - c) * A i j).natAbs < 2 ^ (3 + b) := Mth.mul_lt (by omega) (hA i hi j hj)
    have h2 : (if i = j then (c : Int) * Db else 0).natAbs < 2 ^ (3 + b) := by
      split
      · exact Mth.mul_lt (by omega) hDb
      · exact Nat.two_pow_pos _
    have := Mth.add_lt h1 h2
    exact Mth.lt_mono this (by omega)
end
end K18
end
section
set_option Elab.async false
set_option linter.all false
set_option maxRecDepth 100000
set_option maxHeartbeats 4000000
namespace K18
open PySem PySem.Spec PyProof.Rows L2
theorem monoD_num {K : PySem.W.Frag} {D : Addr} {f : Nat → Rat} : MonoD D (NumR K f) := fun _ _ _ _ _ hD e h => ⟨Num.exD hD e h.1, h.2⟩
theorem eq_same {K : PySem.W.Frag} {H : Hp} {x y : V} {r : Rat} {Q : VK} (hx : Frac K H x r) (hy : Frac K H y r) (q : Q (.bl true) H) : rEqD K x y H Q := by
  refine ⟨dFr r, dFr r, hx.dp, hy.dp, shaped_fr r, shaped_fr r, ?_⟩
  rw [SeqAt.eqv_refl _ (lay_fr r).1]
  exact q
theorem sz_beside {n m : Nat} {k : Nat → Nat → Rat} {f : Nat → Rat} (hk : SzT 30 n k) (hf : ∀ i, Mth.Sz 30 (f i)) : SzT 30 (n + m) (beside n k (coinK f)) := fun i j _ _ => by
  have z0 : Mth.Sz 30 (0 : Rat) := (Mth.Sz.int (k := 1) (i := 0) (by decide) (Nat.le_refl _)).mono (by decide)
  unfold beside coinK
  by_cases hi : i < n
  · rw [if_pos hi]
    by_cases hj : j < n
    · rw [if_pos hj]; exact hk i j hi hj
    · rw [if_neg hj]; exact z0
  · rw [if_neg hi]
    by_cases hj : j < n
    · rw [if_pos hj]; exact z0
    · rw [if_neg hj]
      split
      · exact hf _
      · exact z0
theorem lot_wide {n m : Nat} {S : List Nat} (h : LotOk S n) : LotOk (coinsL n m ++ S) (n + m) := by
  refine ⟨fun x hx => ?_, ?_⟩
  · rcases List.mem_append.mp hx with hx | hx
    · exact coinsL_lt hx
    · have := h.lt x hx; omega
  · refine List.nodup_append.mpr ⟨coinsL_nd, h.nd, fun a ha b hb => ?_⟩
    have h1 := coinsL_ge ha
    have h2 := h.lt b hb
    omega
theorem lot_coins {n m : Nat} : LotOk (coinsL n m) (n + m) := ⟨fun _ => coinsL_lt, coinsL_nd⟩
theorem LotOk.sub {l l' : List Nat} {n : Nat} (h : LotOk l n) (s : List.Sublist l' l) : LotOk l' n := ⟨fun x hx => h.lt x (s.subset hx), h.nd.sublist s⟩
theorem cut_from {xs : List V} {i : Nat} (hi : i ≤ xs.length) : cutV xs (some (i : Int)) none = xs.drop i := by
  unfold cutV
  have e1 : HT.sIx xs.length 0 (some (i : Int)) = i := by
    rw [HT.sIx_nat]
    omega
  have e2 : HT.sIx xs.length xs.length none = xs.length := rfl
  rw [e1, e2]
  exact List.take_of_length_le (by rw [List.length_drop]; exact Nat.le_refl _)
theorem rd_sub12 {b n : Nat} {m : Int} {σ : L2.St} {H : Hp} {Q : VK} (h0 : σ[b]? = some (some (.int (n : Nat)))) (e : (12 : Int) - (n : Nat) = m) (q : Q (.int m) H) : tOp (rI0 fun i j => .int (i - j)) (tC (.int 12)) (tVar b) σ H Q :=
  ⟨_, h0, 12, n, rfl, rfl, by show Q (.int ((12 : Int) - (n : Nat))) H; rw [e]; exact q⟩
section
variable {P : Program} {w : World} {K : PySem.W.Frag} {mg : Str → Option Value} {base : Heap} {C : Addr}
def spWide (K : PySem.W.Frag) (C : Addr) : Sp := fun vs H Q _ => ∃ (d pn : Addr) (t pr : V) (D : Int) (n : Nat) (A : Mth.Mat) (xs : List V), vs = [.ref d, t, pr, .ref pn] ∧ Dig d H ∧ 1 ≤ n ∧ n ≤ 5 ∧ 0 < D ∧ D.natAbs < 2 ^ 24 ∧ Bnd 24 n A ∧ LT (wo d H) t D n A ∧ Tab K C (wo d H) pr n (Mth.K D A) ∧
  (wo d H) pn = some (.lst xs) ∧ xs.length = 2 ^ n ∧ At (FracR K fun m => Mth.fr (Mth.cN n D A m) (D ^ n)) xs (wo d H) ∧ (∀ m, m < 2 ^ n → (Mth.cN n D A m).natAbs < 2 ^ 1024) ∧ ∀ H', Ex (wo d H) (wo d H') → Dig d H' → Q (.bl true) H'
theorem sc_wide : FnScope ["_law_digits", "_law_table", "_law_program", "_law_numbers", "_law_size_here", "_law_many", "_law_shares", "_law_wide_here", "_law_coins", "_law_one", "_law_other", "_law_parts", "_law_due", "_law_at", "_law_number"] ["_law_digits", "_law_table", "_law_program", "_law_numbers"] (C8.fnScope (top 87)) := C8.fnScope_by (by decide +kernel)
theorem cal_wide (B : Bt mg) (D : DD K mg "_law_wide" 87) (c_l_eat : C8.Cal P w K mg base 1 "_law_eat" (spEat) []) (c_t___add : C8.Met P w K mg base 6 C "__add__" (spAdd K C) []) (c_l_some : C8.Cal P w K mg base 2 "_law_some" (spSome K) []) (c_covariance : C8.Cal P w K mg base 5 "covariance" (spCov K C) []) (c_l_moment : C8.Cal P w K mg base 5 "_law_moment" (spMoment K) []) (c_t___getitem : C8.Met P w K mg base 4 C "__getitem__" (spGet K C) []) (c_l_sum : C8.Cal P w K mg base 4 "_law_sum" (spLSum K) []) (c_l_mul : C8.Cal P w K mg base 3 "_law_mul" (spBin (· * ·) K) []) (c_l_sub : C8.Cal P w K mg base 3 "_law_sub" (spBin (· - ·) K) []) (c_variance : C8.Cal P w K mg base 6 "variance" (spVar K C) []) (W : TabW K C) (gT : mg "Table" = some (.ref C)) {p0 g0 : Addr} {mc : Value} (CR : ClX.CRead K C mc) (CM : ClX.CMet K C mc "coins" p0 g0) (cF : FnR P w K mg base C8.CX0 7 g0 (spClsCoins K C)) (hfi : ∀ f, Meth K C "__getitem__" f → PySem.W.fnIn K f = true) : C8.Cal P w K mg base 9 "_law_wide" (spWide K C) [] := by
  refine cal_mk D sc_wide (fun _ _ _ _ _ _ us hl => match us, hl with | [_, _, _, _], _ => rfl) (fun vs H Q E h => ?_) (fun f cdv A outer s H vs Q E hr h => ?_)
  · obtain ⟨d, pn, t, pr, D, n, A, xs, rfl, _⟩ := h; rfl
  · obtain ⟨d, pn, t, pr, Db, n, A, xs, rfl, hd, hn1, hn, hD0, hDb, hA, ht, hpr, hpn, hlx, hax, hcb, kk⟩ := h
    have nd := sc_wide.nd
    refine ⟨_, (pss_cons (pset 4 nd (pe_callB (call_lenK K) (by rfl) B.len PySem.boot_len (pa_cons (pe_ix (ix_listK K) (pv 1) pe_int (fun _ _ => rfl)) pa_nil)))
    (pss_cons (pset 5 nd (pe_op op_sub pe_int (pv 4)))
    (pss_cons (pset 6 nd (pe_lc (own := [("_law_at", 13)]) rfl nd (pi_range1 (by rfl) B.range (pa_cons (pv 5) pa_nil)) (blkOk_by (own := [("_law_at", 13)]) (N := ["_law_digits", "_law_table", "_law_program", "_law_numbers", "_law_size_here", "_law_many", "_law_shares", "_law_wide_here", "_law_coins", "_law_one", "_law_other", "_law_parts", "_law_due", "_law_at", "_law_number"]) (by kernel_rfl)) (fun _ _ _ _ _ => (pgn 13 nd)) (fun _ _ _ _ _ => pts_nil) (fun _ _ _ _ _ => (pe_ix (ix_listK K) (pe_lst (pa_cons (pe_tup (pa_cons pe_int (pa_cons pe_int pa_nil))) (pa_cons (pe_tup (pa_cons pe_int (pa_cons pe_int pa_nil))) (pa_cons pe_int (pa_cons pe_int (pa_cons (pe_tup (pa_cons pe_int (pa_cons pe_int pa_nil))) pa_nil)))))) (C8.pe_c c_l_eat hr (by decide) (by rfl) (pa_cons (pv 0) (pa_cons pe_int pa_nil))) (fun _ _ => rfl)))))
    (pss_cons (pset 7 nd (pe_op (op_addO W.tc c_t___add hr (by decide)) (pv 2) (ClX.pe_cmeth (E := C8.E0) (C8.pe_gc (v := .ref C) (by rfl) ⟨_, gT, rfl⟩) CR CM cF (hr.mono (by decide)) C8.pass0 (pa_cons (pv 6) pa_nil))))
    (pss_cons (ps_setLc (i := 8) (own := [("_law_at", 13)]) rfl nd rfl rfl (sw_true rfl rfl rfl (by decide +kernel)) (pi_range1 (by rfl) B.range (pa_cons (pv 5) pa_nil)) (blkOk_by (own := [("_law_at", 13)]) (N := ["_law_digits", "_law_table", "_law_program", "_law_numbers", "_law_size_here", "_law_many", "_law_shares", "_law_wide_here", "_law_coins", "_law_one", "_law_other", "_law_parts", "_law_due", "_law_at", "_law_number"]) (by kernel_rfl)) (fun _ _ _ _ _ => (pgn 13 nd)) (fun _ _ _ _ _ => pts_nil) (fun _ _ _ _ _ => (pe_op op_add (pv 4) (pv 13))))
    (pss_cons (pset 9 nd (pe_callTy (call_lstK K) (by rfl) B.list PyProof.Rows.boot_list (pa_cons (C8.pe_c c_l_some hr (by decide) (by rfl) (pa_cons (pv 0) (pa_cons (pv 4) pa_nil))) pa_nil)))
    (pss_cons (pset 10 nd (C8.pe_c c_l_some hr (by decide) (by rfl) (pa_cons (pv 0) (pa_cons (pv 4) pa_nil))))
    (pss_cons (ps_if (pt_cmpR (op_neDK K hr.units) (C8.pe_c c_covariance hr (by decide) (by rfl) (pa_cons (pv 7) (pa_cons (pe_op op_cat (pv 8) (pv 9)) (pa_cons (pv 10) pa_nil)))) (C8.pe_c c_l_moment hr (by decide) (by rfl) (pa_cons (pv 3) (pa_cons (pv 9) (pa_cons (pv 10) (pa_cons (pv 4) pa_nil))))) (nomark _)) (pss_one (ps_ret pe_bl)) pss_nil)
    (pss_cons (ps_setLc (i := 11) (own := [("_law_at", 13)]) rfl nd rfl rfl (sw_true rfl rfl rfl (by decide +kernel)) (pi_range1 (by rfl) B.range (pa_cons (pv 5) pa_nil)) (blkOk_by (own := [("_law_at", 13)]) (N := ["_law_digits", "_law_table", "_law_program", "_law_numbers", "_law_size_here", "_law_many", "_law_shares", "_law_wide_here", "_law_coins", "_law_one", "_law_other", "_law_parts", "_law_due", "_law_at", "_law_number"]) (by kernel_rfl)) (fun _ _ _ _ _ => (pgn 13 nd)) (fun _ _ _ _ _ => pts_nil) (fun _ _ _ _ _ => (pe_ixO c_t___getitem hr (by decide) hfi (ClX.pe_cmeth (E := C8.E0) (C8.pe_gc (v := .ref C) (by rfl) ⟨_, gT, rfl⟩) CR CM cF (hr.mono (by decide)) C8.pass0 (pa_cons (pv 6) pa_nil)) (pe_tup (pa_cons (pv 13) (pa_cons (pv 13) pa_nil))) (fun _ _ => rfl))))
    (pss_cons (pset 12 nd (C8.pe_c c_l_sum hr (by decide) (by rfl) (pa_cons (pe_lc (own := [("_law_number", 14)]) rfl nd (pi_listK K (pv 11)) (blkOk_by (own := [("_law_number", 14)]) (N := ["_law_digits", "_law_table", "_law_program", "_law_numbers", "_law_size_here", "_law_many", "_law_shares", "_law_wide_here", "_law_coins", "_law_one", "_law_other", "_law_parts", "_law_due", "_law_at", "_law_number"]) (by kernel_rfl)) (fun _ _ _ _ _ => (pgn 14 nd)) (fun _ _ _ _ _ => pts_nil) (fun _ _ _ _ _ => (C8.pe_c c_l_mul hr (by decide) (by rfl) (pa_cons (pv 14) (pa_cons (C8.pe_c c_l_sub hr (by decide) (by rfl) (pa_cons (pe_tup (pa_cons pe_int (pa_cons pe_int pa_nil))) (pa_cons (pv 14) pa_nil))) pa_nil))))) pa_nil)))
    (pss_one (ps_ret (pe_and (pe_cmpR (op_eqDK K hr.units) (C8.pe_c c_variance hr (by decide) (by rfl) (pa_cons (pv 7) (pa_cons (pv 8) pa_nil))) (pv 12) (nomark _)) (pe_one (pe_cmpR (op_eqDK K hr.units) (C8.pe_c c_covariance hr (by decide) (by rfl) (pa_cons (pv 7) (pa_cons (pe_slice (sl_listK K) (pv 8) po_none (po_some pe_int)) (pa_cons (pe_slice (sl_listK K) (pv 8) (po_some pe_int) po_none) pa_nil)))) (pe_tup (pa_cons pe_int (pa_cons pe_int pa_nil))) (nomark _)))))))))))))))), ?_⟩
    obtain ⟨m, hm⟩ : ∃ m : Nat, n + m = 12 := ⟨12 - n, by omega⟩
    have hz := sz_KD hD0 hDb hA
    refine rd_ltN (ht.ex wo_sub) rfl ?_
    refine rd_sub12 (m := (m : Int)) rfl (by omega) ?_
    change gName 5 _ [some (.ref d), some t, some pr, some (.ref pn), some (.int n), none, none, none, none, none, none, none, none, none, none] _ _
    refine ⟨_, rfl, _, rfl, by omega, by omega, fun D6 hD6 => ?_⟩
    have n6 := hd.ne hD6
    refine it_gen walk_rng (Pv := fun i H' => ∃ (ys : List V) (f : Nat → Rat), Ex (wo d H) (wo d H') ∧ Dig d H' ∧ H' D6 = some (.lst ys) ∧ ys.length = i ∧ At (NumR K f) ys (wo d H') ∧ ∀ j, Mth.Sz 30 (f j)) ⟨[], fun _ => 0, wo_new hd hD6, hd.upd n6, upd_same, rfl, At.nil, fun _ => (Mth.Sz.int (k := 1) (i := 0) (by decide) (Nat.le_refl _)).mono (by decide)⟩ (fun _ _ _ _ => True.intro) ?_ ?_
    · rintro i x H2 H2' hi ⟨ys, f, e2, hd2, h2, hl2, ha2, hf⟩ ⟨rfl, rfl⟩
      have hi' : i < m := hi
      refine ⟨rfl, by show 2 ≤ sizeLine; decide, fun q1 hq1 => ⟨by show 2 ≤ sizeLine; decide, fun q2 hq2 => ⟨by show 2 ≤ sizeLine; decide, fun q3 hq3 => ⟨by show 5 ≤ sizeLine; decide, fun q4 hq4 => ?_⟩⟩⟩⟩
      have x1 := Evl.Ex.new (o := .tup [.int 1, .int 2]) hq1
      have x2 := Evl.Ex.new (o := .tup [.int 1, .int 3]) hq2
      have x3 := Evl.Ex.new (o := .tup [.int 999999999, .int 1000000007]) hq3
      have x4 := Evl.Ex.new (o := .lst [.ref q1, .ref q2, .int 0, .int 1, .ref q3]) hq4
      have E := ((x1.trans x2).trans x3).trans x4
      have n1 := hd2.ne hq1
      have n2 := (hd2.ex x1).ne hq2
      have n3 := ((hd2.ex x1).ex x2).ne hq3
      have n4 := (((hd2.ex x1).ex x2).ex x3).ne hq4
      refine ⟨_, rfl, d, 5, rfl, by decide, hd2.ex E, fun c H4 hc e4 hd4 => ?_⟩
      have k1 := wo_keep n1 e4 (((x2.trans x3).trans x4) _ _ upd_same)
      have k2 := wo_keep n2 e4 ((x3.trans x4) _ _ upd_same)
      have k3 := wo_keep n3 e4 (x4 _ _ upd_same)
      have k4 := wo_keep n4 e4 upd_same
      have k6 := wo_keep n6 e4 (E _ _ h2)
      have nt : ∀ {q : Addr} {a b : Int}, q ≠ d → H4 q = some (.tup [.int a, .int b]) → 0 < b → a.natAbs < 2 ^ 30 → b.natAbs < 2 ^ 30 → ∃ r, NumR K (fun _ => r) 0 (.ref q) (wo d H4) ∧ Mth.Sz 30 r := fun {q a b} hq h0 hb za zb => by
        have z := Mth.Sz.fr hb za zb
        exact ⟨_, ⟨.inr ⟨a, b, ⟨q, rfl, SqT.of (by rw [wo_at hq]; exact h0)⟩, hb, Mth.lt_mono zb (by decide), rfl⟩, z.mono (by decide)⟩, z⟩
      have ni : ∀ i : Int, i.natAbs < 2 → ∃ r, NumR K (fun _ => r) 0 (.int i) (wo d H4) ∧ Mth.Sz 30 r := fun i hi => by
        have z : Mth.Sz 30 (i : Rat) := (Mth.Sz.int (k := 1) hi (Nat.le_refl _)).mono (by decide)
        exact ⟨_, ⟨.inl ⟨i, rfl, rfl⟩, z.mono (by decide)⟩, z⟩
      have hv : ∃ v, ([.ref q1, .ref q2, .int 0, .int 1, .ref q3] : List V)[c]? = some v ∧ ∃ r, NumR K (fun _ => r) 0 v (wo d H4) ∧ Mth.Sz 30 r := by
        match c, hc with
        | 0, _ => exact ⟨_, rfl, nt n1 k1 (by decide) (by decide) (by decide)⟩
        | 1, _ => exact ⟨_, rfl, nt n2 k2 (by decide) (by decide) (by decide)⟩
        | 2, _ => exact ⟨_, rfl, ni 0 (by decide)⟩
        | 3, _ => exact ⟨_, rfl, ni 1 (by decide)⟩
        | 4, _ => exact ⟨_, rfl, nt n3 k3 (by decide) (by decide) (by decide)⟩
        | c + 5, h => exact absurd h (by omega)
      obtain ⟨v, hv, r, hr0, hrz⟩ := hv
      have hW : wo d H4 D6 = some (.lst ys) := by rw [wo_at n6]; exact k6
      have up : ∀ b' o, b' ≠ D6 → (wo d H4) b' = some o → (upd (wo d H4) D6 (.lst (ys ++ [v]))) b' = some o := fun b' o hb q => by rw [upd_ne hb]; exact q
      refine ⟨q4, _, _, _, rfl, rfl, SqL.of k4, at_some hv, ys, k6, by rw [hl2]; exact lt_sz (by omega), ys ++ [v], fun j => if j = i then r else f j, wo_mut hd hD6 (e2.trans ((wo_ex E).trans e4)), hd4.upd n6, upd_same, by rw [List.length_append, hl2]; rfl, ?_, fun j => ?_⟩
      · rw [wo_upd n6]
        refine At.snoc ((monoD_num.at_ hW up (ha2.ex mono_num ((wo_ex E).trans e4))).imp fun j w hj h => ?_) ?_
        · show Num K _ w (if j = i then r else f j) ∧ Mth.Sz big (if j = i then r else f j)
          rw [if_neg (by omega)]
          exact h
        · have := monoD_num (D := D6) (f := fun _ => r) 0 v _ _ ys hW up hr0
          show Num K _ v (if ys.length = i then r else f ys.length) ∧ Mth.Sz big (if ys.length = i then r else f ys.length)
          rw [if_pos hl2]
          exact this
      · show Mth.Sz 30 (if j = i then r else f j)
        split
        · exact hrz
        · exact hf j
    rintro H5 ⟨ys, f, e5, hd5, h5, hl5, ha5, hf⟩
    change gName 6 _ [some (.ref d), some t, some pr, some (.ref pn), some (.int n), some (.int m), none, none, none, none, none, none, none, none, none] _ _
    have hl5' : ys.length = m := hl5
    have up5 := e5.trans (wo_sub (d := d) (H := H5))
    have hfz : ∀ i, i < m → Mth.Sz 8000 (f i) := fun i _ => (hf i).mono (by decide)
    -- the wide table
    refine ⟨_, rfl, rfl, _, rfl, .ref D6, m, ys, f, rfl, ⟨D6, rfl, .inl (SqL.of h5)⟩, hl5', by omega, ha5.ex mono_num wo_sub, hfz, fun w6 H6 e6 hw6 => ?_⟩
    obtain ⟨p, dx, rv, rfl, hp, hrv⟩ := hpr.ex (up5.trans e6)
    obtain ⟨p', dx', rv', rfl, hp', hrv'⟩ := hw6
    refine ⟨p, p', dx, dx', _, _, rfl, rfl, hp, hp', .ref p, .ref p', n, m, Mth.K Db A, coinK f, rfl, ⟨p, dx, rv, rfl, hp, hrv⟩, ⟨p', dx', rv', rfl, hp', hrv'⟩, by omega, fun i j hi hj => (hz i j hi hj).mono (by decide), fun i j hi hj => ?_, fun w7 H7 e7 hw7 => ?_⟩
    · unfold coinK
      split
      · exact hfz i hi
      · exact (Mth.Sz.int (k := 1) (i := 0) (by decide) (Nat.le_refl _)).mono (by decide)
    have hw7' := hw7
    obtain ⟨p7, dx7, rv7, rfl, _, _⟩ := hw7'
    refine ⟨⟨_, rfl⟩, ?_⟩
    change gName 7 _ [some (.ref d), some t, some (.ref p), some (.ref pn), some (.int n), some (.int m), some (.ref D6), none, none, none, none, none, none, none, none] _ _
    have e57 := e6.trans e7
    have hd7 := hd5.ex e57
    -- the coins
    refine ⟨_, rfl, _, rfl, by omega, by omega, fun D8 hD8 => ?_⟩
    have n8 := hd7.ne hD8
    refine lcA walk_rng gm_true (lt_sz (by omega)) (P := fun i v _ => v = .int ((n + i : Nat) : Int)) mono_eq monoD_eq hD8 True.intro ?_ ?_
    · rintro i x H' H'' Kt hi e _ ⟨rfl, rfl⟩ _ kt
      exact ⟨rfl, _, rfl, _, rfl, _, _, rfl, rfl, kt _ _ (Evl.Ex.refl _) (by rw [Int.natCast_add])⟩
    intro H8 zs e8 h8 hl8 ha8
    change gName 8 _ [some (.ref d), some t, some (.ref p), some (.ref pn), some (.int n), some (.int m), some (.ref D6), some (.ref p7), none, none, none, none, none, none, none] _ _
    have hzs : zs = nV (coinsL n m) := by
      rw [at_eq ha8 hl8]
      unfold nV coinsL
      rw [List.map_map]
      rfl
    subst hzs
    have hd8 := hd7.ex e8
    -- the lots
    refine ⟨_, rfl, _, rfl, d, n, rfl, by omega, hd8, fun v9 S H9 e9 hd9 hv9 okS _ => ?_⟩
    obtain ⟨q9, rfl, h9⟩ := hv9.ex wo_sub
    refine ⟨q9, _, rfl, .inr h9, fun D9 hD9 => ?_⟩
    change gName 9 _ [some (.ref d), some t, some (.ref p), some (.ref pn), some (.int n), some (.int m), some (.ref D6), some (.ref p7), some (.ref D8), none, none, none, none, none, none] _ _
    have x9 := Evl.Ex.new (o := .lst (nV S)) hD9
    have hd9' := hd9.ex x9
    refine ⟨_, rfl, _, rfl, d, n, rfl, by omega, hd9', fun v10 T H10 e10 hd10 hv10 okT _ => ?_⟩
    obtain ⟨q10, rfl, h10⟩ := hv10.ex wo_sub
    change gName 10 _ [some (.ref d), some t, some (.ref p), some (.ref pn), some (.int n), some (.int m), some (.ref D6), some (.ref p7), some (.ref D8), some (.ref D9), none, none, none, none, none] _ _
    have n9 := hd9.ne hD9
    have e8a : Ex (wo d H8) (wo d H10) := (e9.trans (wo_ex x9)).trans e10
    have e5a : Ex (wo d H5) (wo d H10) := ((wo_ex e57).trans (wo_ex e8)).trans e8a
    have upa : Ex (wo d H) H10 := (e5.trans e5a).trans wo_sub
    have h8a := wo_keep n8 e8a h8
    have h9a := wo_keep n9 e10 upd_same
    have h6a := wo_keep n6 e5a h5
    have hwa : Tab K C H10 (.ref p7) (n + m) (beside n (Mth.K Db A) (coinK f)) := (((hw7.ex e8).sans hd8).ex e8a).ex wo_sub
    have ha6 := ha5.ex mono_num (e5a.trans wo_sub)
    have hSl := okS.len
    have hTl := okT.len
    have szw := sz_beside (m := m) hz hf
    -- covariance
    refine ⟨_, rfl, _, rfl, _, rfl, D8, D9, _, _, rfl, rfl, h8a, h9a, le_sz (by rw [nV_len, nV_len, coinsL_len]; omega), fun p1 hp1 => ?_⟩
    have x1 := Evl.Ex.new (o := .lst (nV (coinsL n m) ++ nV S)) hp1
    refine ⟨_, rfl, .ref p7, .ref p1, .ref q10, n + m, _, coinsL n m ++ S, T, rfl, hwa.ex x1, by omega, szw, ⟨p1, rfl, .inl (SqL.of (by rw [upd_same]; unfold nV; rw [List.map_append]))⟩, ⟨q10, rfl, .inr (Evl.ex_t x1 h10)⟩, lot_wide okS, ⟨fun x hx => by have := okT.lt x hx; omega, okT.nd⟩, ?_, fun v12 H12 e12 hv12 _ => ?_⟩
    · rw [List.length_append, coinsL_len]
      exact Nat.le_trans (Nat.mul_le_mul (by omega : m + S.length ≤ 12) (by omega : T.length ≤ 5)) (by decide)
    rw [cov_beside (fun a => coinsL_ge) okS.lt okT.lt] at hv12
    have eac := x1.trans e12
    refine ⟨_, rfl, _, rfl, _, rfl, _, rfl, pn, .ref D9, .ref q10, Db, n, A, xs, S, T, rfl, hn, hD0, hDb, (upa.trans eac) _ _ hpn, hlx, hax.ex mono_frac (upa.trans eac), hcb, ⟨D9, rfl, .inl (SqL.of (eac _ _ h9a))⟩, ⟨q10, rfl, Evl.ex_t eac h10⟩, okS, okT, fun v13 H13 e13 hv13 => ?_⟩
    refine ne_same (hv12.ex e13) hv13 ⟨_, rfl, iteF ?_⟩
    have ead := eac.trans e13
    have h6d := ead _ _ h6a
    have had := ha6.ex mono_num ead
    -- the parts
    refine ⟨_, rfl, _, rfl, by omega, by omega, fun D11 hD11 => ?_⟩
    refine lcA walk_rng gm_true (lt_sz (by omega)) (P := FracR K f) mono_frac monoD_frac hD11 True.intro ?_ ?_
    · rintro i x H' H'' Kt hi e' _ ⟨rfl, rfl⟩ _ kt
      refine ⟨rfl, rfl, _, rfl, .ref D6, m, ys, f, rfl, ⟨D6, rfl, .inl (SqL.of (e' _ _ h6d))⟩, hl5', by omega, had.ex mono_num e', hfz, fun w H14 e14 hw => ?_⟩
      refine ⟨_, rfl, _, rfl, by show 2 ≤ sizeLine; decide, fun q hq => ?_⟩
      have xq := Evl.Ex.new (o := .tup [.int (i : Nat), .int (i : Nat)]) hq
      obtain ⟨pc, dc, rc, rfl, hpc, hrc⟩ := hw.ex xq
      refine ⟨pc, dc, _, rfl, hpc, .ref pc, .ref q, m, i, i, coinK f, rfl, ⟨pc, dc, rc, rfl, hpc, hrc⟩, TupV.new, hi, hi, fun x hx => kt x _ (e14.trans xq) ?_⟩
      unfold coinK at hx
      rw [if_pos rfl] at hx
      exact hx
    intro H14 zs e14 h14 hl14 ha14
    change gName 11 _ [some (.ref d), some t, some (.ref p), some (.ref pn), some (.int n), some (.int m), some (.ref D6), some (.ref p7), some (.ref D8), some (.ref D9), some (.ref q10), none, none, none, none] _ _
    have hl14' : zs.length = m := hl14
    have eae := ead.trans e14
    -- their sum
    refine ⟨_, rfl, D11, rfl, ⟨_, SqL.of h14⟩, fun D12 hD12 => ?_⟩
    refine lcA walk_list (fun _ _ g e => Evl.ex_l e g) (lt_sz (by omega)) (P := FracR K fun i => f i * (1 - f i)) mono_frac monoD_frac hD12 (SqL.of h14) ?_ ?_
    · rintro i x H' H'' Kt hi e' _ ⟨rfl, ex⟩ _ kt
      have hx : Frac K H'' x (f i) := Frac.ex (ha14 i x ex) e'
      refine ⟨rfl, _, rfl, by show 2 ≤ sizeLine; decide, fun q hq => ?_⟩
      have xq := Evl.Ex.new (o := .tup [.int 1, .int 1]) hq
      refine ⟨_, rfl, .ref q, x, 1, f i, 1, 30, rfl, TupV.new, hx.ex xq, (Mth.Sz.int (k := 1) (i := 1) (by decide) (Nat.le_refl _)), hf i, by decide, by decide, by decide, fun v3 H3 e3 hv3 => ?_⟩
      refine ⟨x, v3, f i, 1 - f i, 30, 32, rfl, hx.ex (xq.trans e3), hv3, hf i, ?_, by decide, by decide, by decide, fun v4 H4 e4 hv4 => kt v4 _ ((xq.trans e3).trans e4) hv4⟩
      exact ((Mth.Sz.int (k := 1) (i := 1) (by decide) (Nat.le_refl _)).sub (hf i)).mono (by decide)
    intro H15 zs' e15 h15 hl15 ha15
    have hl15' : zs'.length = m := hl15.trans hl14'
    refine ⟨.ref D12, zs', _, 800, rfl, ⟨D12, rfl, SqL.of h15⟩, ha15, by decide, by decide, fun i _ => (sz_coin (hf i)).mono (by decide), fun i hi => (sz_rs (fun i => sz_coin (hf i)) i).mono ?_, fun v16 H16 e16 hv16 => ?_⟩
    · have : i ≤ 12 := by omega
      omega
    rw [hl15'] at hv16
    change gName 12 _ [some (.ref d), some t, some (.ref p), some (.ref pn), some (.int n), some (.int m), some (.ref D6), some (.ref p7), some (.ref D8), some (.ref D9), some (.ref q10), some (.ref D11), none, none, none] _ _
    have eaf := (eae.trans e15).trans e16
    -- variance
    refine ⟨_, rfl, _, rfl, .ref p7, .ref D8, n + m, _, coinsL n m, rfl, hwa.ex eaf, by omega, szw, ⟨D8, rfl, .inl (SqL.of (eaf _ _ h8a))⟩, lot_coins, ?_, fun v17 H17 e17 hv17 _ => ?_⟩
    · rw [coinsL_len]
      exact Nat.le_trans (Nat.mul_le_mul (by omega : m ≤ 11) (by omega : m ≤ 11)) (by decide)
    rw [cov_coinsL] at hv17
    refine ⟨_, rfl, eq_same hv17 (hv16.ex e17) ⟨_, rfl, iteT ?_⟩⟩
    have eag := eaf.trans e17
    -- three coins and the others
    refine ⟨_, rfl, _, rfl, 3, rfl, D8, _, rfl, SqL.of (eag _ _ h8a), fun p3 hp3 => ?_⟩
    have x3 := Evl.Ex.new (o := .lst (cutV (nV (coinsL n m)) none (some 3))) hp3
    refine ⟨_, rfl, 3, rfl, D8, _, rfl, SqL.of (x3 _ _ (eag _ _ h8a)), fun p4 hp4 => ?_⟩
    have x4 := Evl.Ex.new (o := .lst (cutV (nV (coinsL n m)) (some 3) none)) hp4
    have h3len : 3 ≤ (nV (coinsL n m)).length := by rw [nV_len, coinsL_len]; omega
    have c3 : cutV (nV (coinsL n m)) none (some 3) = nV ((coinsL n m).take 3) := by rw [← nV_take]; exact cut_to (i := 3) h3len
    have c4 : cutV (nV (coinsL n m)) (some 3) none = nV ((coinsL n m).drop 3) := by
      have := cut_from (i := 3) h3len
      rw [show nV ((coinsL n m).drop 3) = (nV (coinsL n m)).drop 3 by unfold nV; rw [List.map_drop]]
      exact this
    have okc : LotOk (coinsL n m) (n + m) := lot_coins
    have ok3 := okc.sub (List.take_sublist 3 _)
    have ok4 := okc.sub (List.drop_sublist 3 _)
    refine ⟨.ref p7, .ref p3, .ref p4, n + m, _, (coinsL n m).take 3, (coinsL n m).drop 3, rfl, hwa.ex ((eag.trans x3).trans x4), by omega, szw, ⟨p3, rfl, .inl (SqL.of (x4 _ _ (by rw [upd_same, c3])))⟩, ⟨p4, rfl, .inl (SqL.of (by rw [upd_same, c4]))⟩, ok3, ok4, ?_, fun v18 H18 e18 hv18 _ => ?_⟩
    · rw [List.length_take, List.length_drop, coinsL_len]
      exact Nat.le_trans (Nat.mul_le_mul (by omega : min 3 m ≤ 3) (by omega : m - 3 ≤ 12)) (by decide)
    rw [cov_coins0 (fun a ha => coinsL_ge (List.mem_of_mem_take ha)) (fun a ha => coinsL_ge (List.mem_of_mem_drop ha)) (drop_take coinsL_nd 3)] at hv18
    refine ⟨by show 2 ≤ sizeLine; decide, fun q hq => ?_⟩
    have xq := Evl.Ex.new (o := .tup [.int 0, .int 1]) hq
    have fin := ((((eag.trans x3).trans x4).trans e18).trans xq)
    exact eq_same (hv18.ex xq) TupV.new (kk _ ((e5.trans e5a).trans (wo_ex fin)) (hd10.ex fin))
end
end K18
end
section
set_option Elab.async false
set_option linter.all false
set_option maxRecDepth 100000
set_option maxHeartbeats 4000000
namespace K18
open PySem PySem.Spec PyProof.Rows L2 PySem.W
section
variable {prog : Program} {w : World} {A : Around} {E : Value → Shared → Prop} {h : Heap} {g : Array GenState} {d : Drawn} {t : Nat} {os : OsState}
theorem call_mw {nm q : Str} {C N : Addr} {bs bm : List Value} {hdct : Bool} {sn : List Str} {sub : List Value} {ab : Bool} {col : Option Bool} {dd : Option Addr} {k0 k1 k2 k3 k5 : Option Value} {u e t0 : Addr} {rest : List Value} {Q : Value → Shared → Prop}
    (hC : h.get? C = some (excClassObj nm q C N bs bm hdct sn sub ab col dd k0 k1 k2 k3 k5 "ValueError.__new__")) (he : h.get? e = some (HandSPX.excO C t0)) (hu : h.get? u = some (kxs_mw "ValueError.__init__" e)) (hrest : rest.length ≤ sizeLine)
    (hq : ∀ h' t1, (∀ b o, b ≠ e → h.get? b = some o → h'.get? b = some o) → h'.get? e = some (HandSPX.excO C t1) → Q .none ⟨h', g, d, t, os⟩) :
    wpAny (model prog w) A (call (.ref u) rest) Q E ⟨h, g, d, t, os⟩ := by
  refine wpAny_call (codeAny_of_tree ?_)
  show wpAny _ A.in1 (callAny (.ref u) ⟨rest, []⟩) _ _ _
  simp only [callAny]
  refine wpAny_bind (wpAny_load hu ?_)
  simp only [kxs_mw, show (Value.type "method-wrapper" == Value.type "method" || Value.type "method-wrapper" == Value.type "builtin_function_or_method" || Value.type "method-wrapper" == Value.type "method-wrapper") = true by decide, if_true]
  refine KFB.if_so (by decide) ?_
  refine wpAny_bind (check_bound_init F.excBase_ValueError.toExcCallFacts hC he rfl ?_)
  refine wpAny_bind (wpAny_pure (wpAny_pure ?_))
  refine ⟨plainId_quiet F.excBase_ValueError.init.plain _, codeAny_builtin F.excBase_ValueError.initEntry ?_⟩
  exact exc_init_tree (cls := .ref C) (t0 := t0) (dv := none) (c2 := .none) (c3 := .none) (b4 := .bool false) he hrest fun h' k hx _ => hq h' h.objs.size k hx
end
/-- what is asked of the def -/
structure BlC (P : Program) (K : Frag) (mg : Str → Option Value) (D f : Addr) (fd : FuncData) : Prop where
  def_ : ∃ (oc od osl : _) (dV kV doc pm : Value) (an : Option Addr) (ct : Value) (cc cda : Addr) (ccl cl : Value) (cdd cld : Option Addr) (ccs csl : Array (Option Value)) (vs : Array Value) (file : Str) (tf : Tok),
    fd = ksFn "__init__" "BadLot.__init__" (C8.fnArgs blInit) (C8.fnBody blInit) (C8.fnScope blInit) dV kV doc pm an (.ref cda) ct cc ∧ K.lookup f = some ⟨oc, od, .func fd, osl⟩ ∧ codeIn K (.ref cda) "BadLot.__init__" = true ∧
    K.lookup cda = some ⟨ccl, cdd, .fields vs, ccs⟩ ∧ vs[2]? = some (.str file tf) ∧ ((P.main.file : Str) == file) = true ∧ K.lookup cc = some ⟨cl, cld, .cell (some (.ref D)), csl⟩
  oex : OexC K D
  sup : ks_superIn K D D "__init__" = some (some (.builtin "ValueError.__init__"))
  hB : subIn K (.ref D) (.type "ValueError") = some true
  self : mroIn K D (.ref D) = some true
  opq : nsIn K cStatics "thirdparty.any" = some none
  nat : findIn K (.ref D) "at" = some none
  sn : mg "super" = none
  topn : (P.main.scope.names.lookup ("super" : Str)).isSome = false
def spBl (D : Addr) : Sp := fun vs H Q _ => ∃ a y, vs = [.ref a, y] ∧ H a = some (exo a D none) ∧ ∀ dx, H dx = none → dx ≠ a → Q .non (upd (upd H dx (exd dx [("at", y)])) a (exo a D (some dx)))
theorem bl_kind : (C8.fnScope blInit).names.lookup ("super" : Str) = some .globalImplicit ∧ (C8.fnScope blInit).names.lookup ("__class__" : Str) = some .free ∧ (C8.fnScope blInit).names.lookup ("self" : Str) = some .local ∧ (C8.fnScope blInit).names.lookup ("at" : Str) = some .local ∧ (∀ x ∈ (C8.fnScope blInit).names, x.2 ≠ .cell) := by decide +kernel

section
variable {P : Program} {w : World} {K : Frag} {mg : Str → Option Value} {base : Heap} {D f : Addr} {fd : FuncData}
def blBinds (a : Addr) (u : Value) : List (Str × Value) := [("self", .ref a), ("at", u)]
theorem bl_raw (B : BlC P K mg D f fd) {A : Around} {outer : List Env} {s : Shared} {H : Hp} {a : Addr} {u : Value} {args : Args} (hroom : A.depth < recursionLimit) (e0 : Env0 P w K mg base A outer s H) (hb : BindsTo s fd args (blBinds a u))
    (ha : H a = some (exo a D none)) {R : Result → Shared → Prop}
    (h : ∀ h' tk dx, (∀ b o, b ≠ a → s.heap.get? b = some o → h'.get? b = some o) → s.heap.objs.size ≤ dx → dx ≠ a → (∃ t1 : Addr, h'.get? a = some ({ cls := .ref D, dict := some dx, data := .fields #[.ref t1, .none, .none, .none, .bool false, .none] } : Obj)) →
      h'.Ns1 dx (fun y => if y = "at" then some u else none) → R (.ok (.ret .none)) { s with heap := h', toks := tk }) :
    codeAny (model P w) A (.call (.ref f) args) R s := by
  obtain ⟨oc, od, osl, dV, kV, doc, pm, an, ct, cc, cda, ccl, cl, cdd, cld, ccs, csl, vs, file, tf, rfl, lk, hcd, hcode, hvs, hfile, hcell⟩ := B.def_
  obtain ⟨nm, q, N, bs, bm, sn, sub, ab, col, dd, k0, k1, k2, k3, k5, hC, hbm⟩ := B.oex.cls
  have hcl : clsIn K D = some { name := nm, bases := bs, mro := .ref D :: bm, ns := N, qualname := q, hasDict := true, slotNames := sn, subclasses := sub, abstract := ab, collection := col, hasDel := false } := by unfold clsIn; rw [hC] <;> rfl
  obtain ⟨hks, hkc, hka, hkat, hnc⟩ := bl_kind
  have KX : K.In s.heap := e0.mod.kin.keeps fun b o e => (e0.bs b o e).1
  have lim : s.heap.NoLimit := e0.mod.nolimit.keeps fun b o e => (e0.bs b o e).1
  obtain ⟨t1, hoa⟩ := exo_at e0.hok ha
  have hal : a < s.heap.objs.size := Heap.lt_size hoa
  refine ks_codeAny_call_defAt (fd := ksFn "__init__" "BadLot.__init__" (C8.fnArgs blInit) (C8.fnBody blInit) (C8.fnScope blInit) dV kV doc pm an (.ref cda) ct cc) (body := C8.fnBody blInit) hroom (KX _ _ lk) rfl lim (codeRec_of KX hcd) rfl hb hnc (fun x hx => ?_) (fun h₁ hns k1 => ?_) rfl rfl rfl
  · rcases List.mem_cons.mp hx with rfl | hx
    · exact hka
    · rcases List.mem_cons.mp hx with rfl | hx
      · exact hkat
      · exact absurd hx (by simp)
  have K1 : K.In h₁ := KX.keeps k1
  have hL : s.heap.objs.size ≠ a := Nat.ne_of_gt hal
  have hoa1 := k1 _ _ hoa
  have hns' : ∀ {h'' : Heap}, (∀ b o, b ≠ a → h₁.get? b = some o → h''.get? b = some o) → h''.Ns s.heap.objs.size (fun x => (blBinds a u).reverse.lookup x) := fun k => by
    obtain ⟨o, es, ep, e, r⟩ := hns
    exact ⟨o, es, ep, k _ _ hL e, r⟩
  have hself : (blBinds a u).reverse.lookup ("self" : Str) = some (.ref a) := rfl
  have hat : (blBinds a u).reverse.lookup ("at" : Str) = some u := rfl
  obtain ⟨mb, hmb, hboot⟩ := e0.mod.blt
  have gl : base.Ns mainGlobals mg := e0.mod.glob
  have kb : ∀ b o, base.get? b = some o → h₁.get? b = some o := fun b o e => k1 _ _ (e0.bs b o e).1
  have hC1 := K1 _ _ hC
  refine ks_wpAt_execs_cons (ks_wpAt_Expr_any (ks_wpAt_MethodCall ?_) rfl rfl)
  refine ks_wpAt_super_base hks hkc (by decide) rfl (K1 _ _ lk) rfl rfl rfl (K1 _ _ hcode) rfl hvs hfile B.topn ?_
  refine ks_loadName_global rfl hks (Calls.loadGlobal_builtin (gl.keeps kb) B.sn (hmb.keeps kb) ((hboot _ (by decide)).trans (by boot_by_name)) ⟨rfl, ?_⟩)
  refine wpAny_loadName_free rfl hkc rfl ⟨_, K1 _ _ hcell, rfl⟩ ?_
  refine wpAny_loadName_local rfl hka (hns' fun b o _ e => e) hself ?_
  refine ks_wpAny_isType_cls hC1 rfl ⟨rfl, ?_⟩
  refine ks_wpAny_call_super hC1 rfl hoa1 rfl (fun c e => by cases e) (looks_mroIn K1 B.self) (fun h₂ hso k2 => ?_)
  have K2 : K.In h₂ := K1.keeps k2
  have hI : Looks (model P w) h₂ (isInstance (.ref a) (.type "ValueError")) true := (show Looks (model P w) h₂ (typeOf (.ref a)) (.ref D) from (InstAt.mk (od := none) (k2 _ _ hoa1) rfl rfl trivial : InstAt h₂ a _ D none).type).andThen (looks_subIn K2 B.hB)
  have hf := B.sup
  unfold ks_superIn at hf
  rw [hcl, Option.bind_some] at hf
  have haD : a ≠ D := fun z => by
    have e1 := KX _ _ hC
    rw [← z, hoa] at e1
    cases e1
  refine kxs_getMethod kxs_ValueError hso (looks_opaque K2 B.opq) ((looks_clsIn K2 hcl).andThen .now) rfl K2 hf hI haD (by decide) ?_
  have hoa3 : (h₂.push (kxs_mw "ValueError.__init__" a)).get? a = some ({ cls := .ref D, dict := none, data := .fields #[.ref t1, .none, .none, .none, .bool false, .none] } : Obj) := Heap.get?_push_of_some _ (k2 _ _ hoa1)
  refine kxs_callWith (i := "ValueError.__init__") (x := a) rfl (Calls.evalArgs_plain (Calls.spliced_cons (Calls.Constant_str (k := 0) (pos := ⟨0, 0, 0, 0⟩) (Calls.spliced_nil ⟨Heap.get?_push_size _ rfl, ?_⟩))))
  refine call_mw (Heap.get?_push_of_some _ (k2 _ _ hC1)) hoa3 (Heap.get?_push_size _ rfl) (by rw [sizeLine_eq]; exact (show (1 : Nat) ≤ 16777216 by decide)) fun h₄ t4 k4 hoa4 => ?_
  have k14 : ∀ b o, b ≠ a → h₁.get? b = some o → h₄.get? b = some o := fun b o hb e => k4 b o hb (Heap.get?_push_of_some _ (k2 _ _ e))
  have K4 : K.In h₄ := fun b o e => by
    have e1 := KX _ _ e
    have hb : b ≠ a := fun z => by
      have e2 := (e0.bs b o (e0.mod.kin _ _ e)).2
      rw [z, ha] at e2
      cases e2
    exact k14 b o hb (k1 _ _ e1)
  refine ks_wpAt_execs_cons (ks_wpAt_Assign_Attr (wpAt_of_wpAny (wpAny_Name (wpAny_loadName_local rfl hkat (hns' k14) hat ?_) (by decide))) rfl)
  refine wpAny_Name (wpAny_loadName_local rfl hka (hns' k14) hself ?_) (by decide)
  refine set_plain K4 (ox := { cls := .ref D, dict := none, data := .fields #[.ref t4, .none, .none, .none, .bool false, .none] }) (od := none) ⟨hoa4, rfl, rfl, trivial⟩ B.oex.sa ?_
  refine HandSPX.exc_osa K4 hoa4 hcl (show HandSPX.refsVE (.ref D :: bm) = true from hbm) rfl B.nat (fun h' tk' dx k dn dne hx hn => ?_)
  refine wpAt_of_wpAny (wpAny_pure ?_)
  refine h h' tk' dx (fun b o hb e => k b o hb (k14 b o hb (k1 _ _ e))) ?_ dne ⟨t4, hx⟩ hn
  obtain ⟨oL, es, ep, eL, _⟩ := hns' k14
  exact Nat.le_of_lt (Nat.lt_of_lt_of_le (Heap.lt_size eL) dn)
theorem fn_bl {k : Nat} {CX : CXT} (B : BlC P K mg D f fd) : FnOk P w K mg base CX (k + 1) f fd ["self", "at"] (spBl D) := by
  refine ⟨fun vs H Q E h => ?_, fun A outer s H args us vs Q E hr e0 hb r hsp => ?_⟩
  · obtain ⟨a, y, rfl, _⟩ := h
    rfl
  obtain ⟨a, y, rfl, ha, hq⟩ := hsp
  obtain ⟨v1, u, rfl, r1, ru⟩ := vals2 r
  cases r1
  refine bl_raw (H := H) (a := a) (u := u) B hr.depth e0 hb ha fun h' tk dx k dn dne hx hn => ?_
  obtain ⟨t1, ho⟩ := exo_at e0.hok ha
  obtain ⟨t2, hx⟩ := hx
  have hnd : H dx = none := e0.hok.fresh dn
  have nd : ∀ {b : Addr} {o : Obj}, s.heap.get? b = some o → b ≠ dx := fun {b o} q => Nat.ne_of_lt (Nat.lt_of_lt_of_le (Heap.lt_size q) dn)
  have na : ∀ {b : Addr}, H b = none → b ≠ a := fun {b} n z => by
    rw [z, ha] at n
    cases n
  have Un1 : Un (frs outer) [] H (upd (upd H dx (exd dx [("at", y)])) a (exo a D (some dx))) s.heap h' := {
    keep := fun b o q n _ _ => k b o (na n) q
    slot := fun b o q n _ _ => ⟨o.slots, k b o (na n) q⟩
    free := fun b o q n _ => by rw [upd_ne (na n), upd_ne (nd q)]; exact n
    there := fun b o q _ => by
      by_cases hb : b = a
      · exact ⟨_, by rw [hb]; exact hx⟩
      · exact ⟨o, k b o hb q⟩
    tups := fun b xs q => by rw [upd_ne (at_ne ha q exo_tup), upd_ne (ne_of_none q hnd)]; exact q
    frzs := fun b o v q => by rw [upd_ne (at_ne ha q exo_frz), upd_ne (ne_of_none q hnd)]; exact q
    tbls := fun b ps q => ⟨#[], by rw [upd_ne (at_ne ha q exo_tbl), upd_ne (ne_of_none q hnd), q]; simp⟩ }
  refine ⟨V.non, _, rfl, e0.bare, Un1, fun b o q => ?_, rfl, hq dx hnd dne⟩
  by_cases hb : b = a
  · subst hb
    rw [upd_same] at q
    cases q
    exact exo_ok hx
  · rw [upd_ne hb] at q
    by_cases hd : b = dx
    · subst hd
      rw [upd_same] at q
      cases q
      exact exd_ok hn (relO_put (fs := []) ru fun g => True.intro)
    · rw [upd_ne hd] at q
      exact (e0.hok b o q).stay (fun c v hc z => k c v (by
          rcases hc with hc | hc
          · rw [hc]
            exact hb
          · exact at_ne ha hc exo_own) z)
        (fun c hc => by rw [upd_ne (at_ne ha hc exo_own), upd_ne (ne_of_none hc hnd)]; exact hc) (fun c xs hc => by rw [upd_ne (at_ne ha hc exo_tup), upd_ne (ne_of_none hc hnd)]; exact hc)
/-- BadLot(e), as it is raised -/
theorem pmk_bl {X : Cx} {k j : Nat} {e : Expr} {ta : TA} {p pos : Pos} (B : BlC X.prog X.K X.mg D f fd) (iC : findIn X.K (.ref D) "__init__" = some (some (.ref f))) (tI : typeIn X.K (.ref f) = some (.type "function")) (hm : X.mg "BadLot" = some (.ref D))
    (hb : Binds X.K fd ["self", "at"] []) (hr : Room j X.A) (hk : 2 ≤ j) (hg : Gl X "BadLot") (ha : PA X [e] ta)
    (he : starEach [e] X.env = (false, eval e X.env) :: starEach [] X.env := by rfl) (hpl : (backTo pos (starEach [] X.env)).any (·.1) = false := by rfl) :
    PMk X (.Call (.Name "BadLot" p) [e] [] pos) (tMkO D (spBl D) [] ta) :=
  pmk_oex B.oex iC tI (fn_bl (CX := C8.CX0) (k := 0) B) (hr.mono hk) hb .nil C8.pass0 hg hm ha (by decide) he hpl
end
end K18
end
section
set_option Elab.async false
set_option linter.all false
set_option maxRecDepth 100000
set_option maxHeartbeats 4000000
namespace K18
open PySem PySem.Spec PyProof.Rows L2
section
variable {P : Program} {w : World} {K : PySem.W.Frag} {mg : Str → Option Value} {base : Heap} {C : Addr}
/-- a def that may raise -/
structure CalX (P : Program) (w : World) (K : PySem.W.Frag) (mg : Str → Option Value) (base : Heap) (k : Nat) (x : Str) (sp : Sp) : Prop where
  ex : ∃ (f : Addr) (fd : FuncData) (ps : List Str), FnOk P w K mg base (L2.CX P w) k f fd ps sp ∧ mg x = some (.ref f) ∧ PySem.W.keepIn K (.ref f) = true ∧ Binds K fd ps []
theorem calx_mk {x : Str} {i k : Nat} {N ps : List Str} {sp : Sp} (D : DD K mg x i) (S : FnScope N ps (C8.fnScope (top i)))
    (hb : ∀ (kV doc pm : Value) (an : Option Addr) (cdv ct : Value) (us : List Value), us.length = ps.length → bindArgs (PySem.W.fnOf x x (C8.fnArgs (top i)) (C8.fnBody (top i)) (C8.fnScope (top i)) .none kV doc pm an cdv ct) ⟨us, []⟩ = pure (ps.zip us))
    (len : ∀ vs H Q E, sp vs H Q E → vs.length = ps.length)
    (hbody : ∀ (f : Addr) (cdv : Value) (A : Around) (outer : List Env) (s : Shared) (H : Hp) (vs : List V) (Q : VK) (E : XK), Room k (A.deeper (envOfC x (C8.fnScope (top i)) s.heap.objs.size f cdv)) → sp vs H Q E →
      ∃ t, PSs (cxOf (L2.CX P w) P w K mg base N x (C8.fnScope (top i)) f cdv A outer s H E) (C8.fnBody (top i)) t ∧ t { nx := fun _ H' => Q .non H', rt := Q } (start N vs) H) : CalX P w K mg base (k + 1) x sp := by
  obtain ⟨f, fd, F, df⟩ := D
  have bd := F.fn.binds df hb
  obtain ⟨oc, od, dV, kV, doc, pm, an, cdv, ct, osl, rfl, lk, hcd⟩ := F.fn.ex
  exact ⟨f, _, ps, fn_of lk hcd S len fun A outer s H vs Q E hr h => hbody f cdv A outer s H vs Q E hr h, F.mgf, F.kp, bd⟩
theorem pe_cX {X : Cx} {k j : Nat} {x : Str} {sp : Sp} {E : L2.St → XK} {p pos : Pos} {e : Expr} {es : List Expr} {t : TA} (c : CalX X.prog X.w X.K X.mg X.base k x sp) (hr : Room j X.A) (hk : k ≤ j) (hg : Gl X x) (hx : ∀ σ, PassesAt (L2.CX X.prog X.w) X σ (E σ)) (ha : PA X (e :: es) t)
    (hdb : (x == ("__debug__" : Str)) = false := by decide) (he : starEach (e :: es) X.env = (false, eval e X.env) :: starEach es X.env := by rfl) (hpl : (backTo pos (starEach es X.env)).any (·.1) = false := by rfl) :
    PE X (.Call (.Name x p) (e :: es) [] pos) (tCallS sp E t) := by
  obtain ⟨f, fd, ps, F, hm, kp, b⟩ := c.ex
  exact pe_callS F (hr.mono hk) hg hm kp b hx ha hdb he hpl
end
end K18
end
section
set_option Elab.async false
set_option linter.all false
set_option maxRecDepth 100000
set_option maxHeartbeats 4000000
namespace K18
open PySem PySem.Spec PyProof.Rows L2
/-- what BadLot's making asks -/
structure BlW (P : Program) (K : PySem.W.Frag) (mg : Str → Option Value) (D : Addr) : Prop where
  ex : ∃ f fd, BlC P K mg D f fd ∧ PySem.W.findIn K (.ref D) "__init__" = some (some (.ref f)) ∧ PySem.W.typeIn K (.ref f) = some (.type "function") ∧ Binds K fd ["self", "at"] []
  mg_ : mg "BadLot" = some (.ref D)
theorem pmk_blw {X : Cx} {j : Nat} {D : Addr} {e : Expr} {ta : TA} {p pos : Pos} (B : BlW X.prog X.K X.mg D) (hr : Room j X.A) (hk : 2 ≤ j) (hg : Gl X "BadLot") (ha : PA X [e] ta)
    (he : starEach [e] X.env = (false, eval e X.env) :: starEach [] X.env := by rfl) (hpl : (backTo pos (starEach [] X.env)).any (·.1) = false := by rfl) :
    PMk X (.Call (.Name "BadLot" p) [e] [] pos) (tMkO D (spBl D) [] ta) := by
  obtain ⟨f, fd, b, i, t, bd⟩ := B.ex
  exact pmk_bl (k := 2) b i t B.mg_ bd hr hk hg ha he hpl
/-- the reading of BadLot(z), answered -/
theorem rd_bl {D : Addr} {z : Int} {ta : TA} {σ : L2.St} {H : Hp} {Q : XK} (ht : ∀ R : List V → Hp → Prop, R [.int z] H → ta σ H R) (k : ∀ dx H', Ex H H' → H' dx = some (.xd [("at", .int z)]) → Q (.ref D) (some dx) H') : tMkO D (spBl D) [] ta σ H Q := by
  refine ht _ ⟨by show 1 ≤ 1000; decide, fun a ha => ⟨a, .int z, rfl, upd_same, fun dx hdx hne => ⟨rfl, dx, [("at", .int z)], upd_same, ?_, ?_, ?_⟩⟩⟩
  · rw [upd_ne hne, upd_same]
  · rw [upd_ne hne] at hdx; exact hdx
  · refine k dx _ (fun b o hb => ?_) upd_same
    have hba : b ≠ a := fun z => by rw [z, ha] at hb; cases hb
    have hdx0 : H dx = none := by rw [upd_ne hne] at hdx; exact hdx
    have hbd : b ≠ dx := fun z => by rw [z, hdx0] at hb; cases hb
    rw [upd_ne hbd]
    unfold del
    rw [if_neg hba, upd_ne hba, upd_ne hbd, upd_ne hba]
    exact hb
end K18
end
section
set_option Elab.async false
set_option linter.all false
set_option maxRecDepth 100000
set_option maxHeartbeats 4000000
namespace K18
open PySem PySem.Spec PyProof.Rows L2
theorem kit_lt_s {K : PySem.W.Frag} : PySem.W.kitAny K (.type "str") [.type "list", .type "tuple"] = some false := kitAny_cons (b := false) (kit_ty (by decide +kernel)) (fun _ => kitAny_cons (b := false) (kit_ty (by decide +kernel)) (fun _ => rfl) (fun q => by cases q)) (fun q => by cases q)
section
variable {P : Program} {w : World} {K : PySem.W.Frag} {mg : Str → Option Value} {base : Heap} {C : Addr}
/-- lots that are refused, and where -/
inductive Bad (K : PySem.W.Frag) (n : Nat) (H : Hp) : V → Int → Prop
  | str (z : Str) : Bad K n H (.str z) (-1)
  | item {p : Addr} {l : List Nat} {x : V} {r : List V} (hl : LotOk l n) (hq : SqL K H p (nV l ++ x :: r)) (hx : (∃ b, x = .bl b) ∨ (∃ i : Int, x = .int i ∧ (i < 0 ∨ (n : Int) ≤ i)) ∨ (∃ i : Nat, x = .int i ∧ i < n ∧ i ∈ l)) : Bad K n H (.ref p) l.length
def spApX (K : PySem.W.Frag) (D : Addr) : Sp := fun vs H Q E => ∃ (v tk : V) (n : Nat) (z : Int), vs = [v, .int n, tk] ∧ n ≤ 12 ∧ TupV K H tk (nV []) ∧ Bad K n H v z ∧ ∀ dx H', Ex H H' → H' dx = some (.xd [("at", .int z)]) → E (.ref D) (some dx) H'
theorem calx_apart (B : Bt mg) (D : DD K mg "apart_lot" 27) (c_check_size : C8.Cal P w K mg base 2 "check_size" (spChkSize) []) (c_is_place : C8.Cal P w K mg base 2 "is_place" (spIsPl) []) {D0 : Addr} (Bl : BlW P K mg D0) : CalX P w K mg base 3 "apart_lot" (spApX K D0) := by
  refine calx_mk D sc_apart (fun _ _ _ _ _ _ us hl => match us, hl with | [_, _, _], _ => rfl) (fun vs H Q E h => ?_) (fun f cdv A outer s H vs Q E hr h => ?_)
  · obtain ⟨v, tk, n, z, rfl, _⟩ := h; rfl
  · obtain ⟨v, tk, n, z, rfl, hn, ⟨pt, rfl, ht⟩, hb, kk⟩ := h
    have nd := sc_apart.nd
    refine ⟨_, (pss_cons (ps_expr (C8.pe_c c_check_size hr (by decide) (by rfl) (pa_cons (pv 1) pa_nil)))
    (pss_cons (ps_if (pt_not (pt_val (pe_callB (call_isiTK K) (by rfl) B.isinstance PyProof.Rows.boot_isinstance (pa_cons (pv 0) (pa_cons (pe_tup (pa_cons (pe_bltn (v := .ty "list") (by rfl) B.list PyProof.Rows.boot_list rfl) (pa_cons (pe_bltn (v := .ty "tuple") (by rfl) B.tuple PyProof.Rows.boot_tuple rfl) pa_nil))) pa_nil))))) (pss_one (ps_raise rfl (takes_of rfl rfl rfl rfl) (pmk_blw Bl hr (by decide) (by rfl) (pa_cons (pe_un un_neg pe_int) pa_nil)))) pss_nil)
    (pss_cons (ps_for (passes_of rfl) rfl (pi_enumK K (by rfl) B.enumerate (pa_cons (pv 0) pa_nil)) (pg_tupK K (n := 2) rfl (pgs_cons (pgn 3 nd) (pgs_cons (pgn 4 nd) pgs_nil)))
      (pss_one (ps_if (PW.pt (pw_or (pt_not (pt_val (C8.pe_c c_is_place hr (by decide) (by rfl) (pa_cons (pv 4) (pa_cons (pv 1) pa_nil))))) (pw_or (pt_cmpR (op_inK K) (pv 4) (pv 2) rfl) (pw_or1 (pt_cmpR (op_inK K) (pv 4) (pe_slice ((sl_listK K).or (sl_tupK K)) (pv 0) po_none (po_some (pv 3))) rfl))))) (pss_one (ps_raise rfl (takes_of rfl rfl rfl rfl) (pmk_blw Bl hr (by decide) (by rfl) (pa_cons (pv 3) pa_nil)))) pss_nil)))
    (pss_one (ps_ret (pe_callTy (call_tupK K) (by rfl) B.tuple PyProof.Rows.boot_tuple (pa_cons (pe_callB (cr_sortK K) (by rfl) B.sorted PyProof.Rows.boot_sorted (pa_cons (pv 0) pa_nil)) pa_nil))))))), ?_⟩
    refine ⟨_, rfl, n, rfl, hn, _, rfl, (by show 2 ≤ sizeLine; decide), fun p0 hp0 => ?_⟩
    have e0 := Evl.Ex.new (o := .tup [.ty "list", .ty "tuple"]) hp0
    cases hb with
    | str z =>
      refine ⟨_, p0, _, .type "str", [.type "list", .type "tuple"], false, rfl, upd_same, cls_lt, .base (.str _), kit_lt_s, false, rfl, ?_⟩
      exact iteT (rd_bl (fun R h => ⟨_, rfl, h⟩) fun dx H' e h => kk dx H' (e0.trans e) h)
    | @item p l x r hl hq hx =>
      obtain ⟨ty0, hty0, kt0⟩ := isi_ty (.inl hq) hp0
      have hll := hl.len
      refine ⟨_, p0, _, ty0, [.type "list", .type "tuple"], true, rfl, upd_same, cls_lt, hty0, kt0, true, rfl, ?_⟩
      refine iteF ⟨_, rfl, p, _, _, rfl, .inl hq, e0, fun J G wk gm g0 => ?_⟩
      have hlen : (nV l ++ x :: r).length = l.length + (r.length + 1) := by rw [List.length_append, nV_len]; rfl
      refine for_it wk (Pv := fun i σ' H' => i ≤ l.length ∧ ∃ a3 a4, σ' = [some (.ref p), some (.int n), some (.ref pt), a3, a4] ∧ Ex H H') ⟨Nat.zero_le _, _, _, rfl, e0⟩ (fun i σ' H' hi h => gm _ _ g0 h.2.choose_spec.choose_spec.2) ?_ ?_
      · rintro i v σ' H' H2 hi ⟨hil, a3, a4, rfl, e2⟩ ⟨T, x0, y, rfl, hT, rfl, ex1, ey⟩
        cases ex1
        have e3 := e2.trans (Evl.Ex.new (o := .tup [.int (i : Nat), y]) hT)
        refine ⟨T, _, rfl, SqT.of upd_same, rfl, _, _, rfl, _, _, rfl, rfl, ?_⟩
        have ec : cutV (nV l ++ x :: r) none (some (i : Int)) = nV (l.take i) := by
          rw [cut_to (by omega), List.take_append_of_le_length (by rw [nV_len]; exact hil), nV_take]
        by_cases hi' : i < l.length
        · have ey' : (nV l)[i]? = some y := by
            have : (nV l ++ x :: r)[i]? = some y := ey
            rwa [List.getElem?_append_left (by rw [nV_len]; exact hi')] at this
          obtain ⟨_, rfl⟩ := nV_at ey'
          have hm : l[i] ∈ l := List.getElem_mem hi'
          refine ⟨_, rfl, _, rfl, _, n, rfl, .inl ⟨_, rfl, true, (by have := hl.lt _ hm; rw [decide_eq_true (by omega)]), iteF ?_⟩⟩
          refine ⟨_, rfl, _, rfl, pt, _, rfl, .inr (Evl.ex_t e3 ht), rfl, flat_nV, false, rfl, iteF ?_⟩
          refine ⟨_, rfl, _, rfl, _, rfl, i, rfl, .inl ⟨p, _, rfl, Evl.ex_l e3 hq, fun q hq' => ?_⟩⟩
          rw [ec]
          refine ⟨q, _, rfl, .inl (SqL.of upd_same), rfl, flat_nV, false, ?_, iteF ⟨by omega, _, _, rfl, e3.trans (Evl.Ex.new hq')⟩⟩
          show V.bl (inV _ _) = _
          rw [inV_nV, decide_eq_false (fun hmem => ?_)]
          obtain ⟨j, hj, ej⟩ := List.mem_iff_getElem.mp hmem
          rw [List.getElem_take] at ej
          rw [List.length_take] at hj
          have := hl.inj (by omega) hi' ej
          omega
        · have ei : i = l.length := by omega
          subst ei
          have ey' : y = x := by
            have : (nV l ++ x :: r)[l.length]? = some y := ey
            rw [List.getElem?_append_right (by rw [nV_len]; exact Nat.le_refl _), nV_len, Nat.sub_self] at this
            exact (Option.some.inj this).symm
          subst ey'
          rcases hx with ⟨b, rfl⟩ | ⟨z, rfl, hz⟩ | ⟨z, rfl, hzn, hzl⟩
          · refine ⟨_, rfl, _, rfl, _, n, rfl, .inr ⟨_, rfl, false, rfl, iteT (iteT (rd_bl (fun R h => ⟨_, rfl, h⟩) fun dx H' e h => kk dx H' (e3.trans e) h))⟩⟩
          · refine ⟨_, rfl, _, rfl, _, n, rfl, .inl ⟨_, rfl, false, by rw [decide_eq_false (by omega)], iteT (iteT (rd_bl (fun R h => ⟨_, rfl, h⟩) fun dx H' e h => kk dx H' (e3.trans e) h))⟩⟩
          · refine ⟨_, rfl, _, rfl, _, n, rfl, .inl ⟨_, rfl, true, by rw [decide_eq_true (by omega)], iteF ?_⟩⟩
            refine ⟨_, rfl, _, rfl, pt, _, rfl, .inr (Evl.ex_t e3 ht), rfl, flat_nV, false, rfl, iteF ?_⟩
            refine ⟨_, rfl, _, rfl, _, rfl, l.length, rfl, .inl ⟨p, _, rfl, Evl.ex_l e3 hq, fun q hq' => ?_⟩⟩
            rw [ec, List.take_length]
            refine ⟨q, _, rfl, .inl (SqL.of upd_same), rfl, flat_nV, true, ?_, iteT (rd_bl (fun R h => ⟨_, rfl, h⟩) fun dx H' e h => kk dx H' (e3.trans ((Evl.Ex.new hq').trans e)) h)⟩
            show V.bl (inV _ _) = _
            rw [inV_nV, decide_eq_true hzl]
      · rintro σ' H' ⟨h, _⟩
        rw [hlen] at h
        omega
end
end K18
end
section
set_option Elab.async false
set_option linter.all false
set_option maxRecDepth 100000
set_option maxHeartbeats 4000000
namespace K18
open PySem PySem.Spec PyProof.Rows L2
theorem pss_no {X : Cx} {b : List Stmt} : PSs X b (fun _ _ _ => False) := ⟨fun _ _ _ _ _ _ h => h.elim⟩
section
variable {P : Program} {w : World} {K : PySem.W.Frag} {mg : Str → Option Value} {base : Heap} {C : Addr}
variable {D0 : Addr}
def spLotX (K : PySem.W.Frag) (D : Addr) : Sp := fun vs H Q E => ∃ (v : V) (n : Nat) (z : Int), vs = [v, .int n] ∧ n ≤ 12 ∧ Bad K n H v z ∧ ∀ dx H', Ex H H' → H' dx = some (.xd [("at", .int z)]) → E (.ref D) (some dx) H'
theorem Bad.ex {K : PySem.W.Frag} {n : Nat} {H H' : Hp} {v : V} {z : Int} (h : Bad K n H v z) (e : Ex H H') : Bad K n H' v z := by
  cases h with
  | str z => exact .str z
  | item hl hq hx => exact .item hl (Evl.ex_l e hq) hx
theorem calx_lot (D : DD K mg "lot_of" 28) (c_apart_lot : CalX P w K mg base 3 "apart_lot" (spApX K D0)) : CalX P w K mg base 4 "lot_of" (spLotX K D0) := by
  refine calx_mk D sc_lot (fun _ _ _ _ _ _ us hl => match us, hl with | [_, _], _ => rfl) (fun vs H Q E h => ?_) (fun f cdv A outer s H vs Q E hr h => ?_)
  · obtain ⟨v, n, z, rfl, _⟩ := h; rfl
  · obtain ⟨v, n, z, rfl, hn, hb, kk⟩ := h
    refine ⟨_, pss_one (ps_ret (pe_cX (E := WE (fun cls d _ H => E cls d H)) c_apart_lot hr (by decide) (by rfl) (fun σ => passAt (takes_of rfl rfl rfl rfl) σ) (pa_cons (pv 0) (pa_cons (pv 1) (pa_cons (pe_tup pa_nil) pa_nil))))), ?_⟩
    refine ⟨_, rfl, _, rfl, (by show 0 ≤ sizeLine; decide), fun p0 hp0 => ?_⟩
    have e0 := Evl.Ex.new (o := .tup []) hp0
    exact ⟨v, _, n, z, rfl, hn, TupV.new, hb.ex e0, fun dx H' e h => kk dx H' (e0.trans e) h⟩
/-- a pair of lots of which one is refused -/
def spCovX (K : PySem.W.Frag) (C D : Addr) : Sp := fun vs H Q E => ∃ (t x y : V) (n : Nat) (k : Nat → Nat → Rat) (z : Int), vs = [t, x, y] ∧ Tab K C H t n k ∧ n ≤ 12 ∧ (Bad K n H x z ∨ ∃ S, SeqV K H x (nV S) ∧ LotOk S n ∧ Bad K n H y z) ∧ ∀ dx H', Ex H H' → H' dx = some (.xd [("at", .int z)]) → E (.ref D) (some dx) H'
theorem calx_cov (W : TabW K C) (D : DD K mg "covariance" 34) (c_lot_of : C8.Cal P w K mg base 4 "lot_of" (spLot K) []) (cx_lot_of : CalX P w K mg base 4 "lot_of" (spLotX K D0)) : CalX P w K mg base 5 "covariance" (spCovX K C D0) := by
  refine calx_mk D sc_cov (fun _ _ _ _ _ _ us hl => match us, hl with | [_, _, _], _ => rfl) (fun vs H Q E h => ?_) (fun f cdv A outer s H vs Q E hr h => ?_)
  · obtain ⟨t, x, y, n, k, z, rfl, _⟩ := h; rfl
  · obtain ⟨t, x, y, n, k, z, rfl, ht, hn, hb, kk⟩ := h
    have nd := sc_cov.nd
    rcases hb with hb | ⟨S, hS, okS, hb⟩
    · refine ⟨_, pss_cons (ps_par (i := 3) (j := 4) (by rfl) nd rfl rfl (by decide) rfl rfl (pa_cons (pe_cX (E := WE (fun cls d _ H => E cls d H)) cx_lot_of hr (by decide) (by rfl) (fun σ => passAt (takes_of rfl rfl rfl rfl) σ) (pa_cons (pv 1) (pa_cons (pe_fldK K (pv 0) (by rfl)) pa_nil))) (pa_cons pe_no pa_nil)) (by rfl)) pss_no, ?_⟩
      exact ⟨_, rfl, rd_size W ht rfl ⟨x, n, z, rfl, hn, hb, kk⟩⟩
    · refine ⟨_, pss_cons (ps_par (i := 3) (j := 4) (by rfl) nd rfl rfl (by decide) rfl rfl (pa_cons (C8.pe_c c_lot_of hr (by decide) (by rfl) (pa_cons (pv 1) (pa_cons (pe_fldK K (pv 0) (by rfl)) pa_nil))) (pa_cons (pe_cX (E := WE (fun cls d _ H => E cls d H)) cx_lot_of hr (by decide) (by rfl) (fun σ => passAt (takes_of rfl rfl rfl rfl) σ) (pa_cons (pv 2) (pa_cons (pe_fldK K (pv 0) (by rfl)) pa_nil))) pa_nil)) (by rfl)) pss_no, ?_⟩
      refine ⟨_, rfl, rd_size W ht rfl ⟨x, n, S, rfl, hn, hS, okS, fun v S' H1 e1 _ _ _ => ?_⟩⟩
      exact ⟨_, rfl, rd_size W (ht.ex e1) rfl ⟨y, n, z, rfl, hn, hb.ex e1, fun dx H' e h => kk dx H' (e1.trans e) h⟩⟩
def spVarX (K : PySem.W.Frag) (C D : Addr) : Sp := fun vs H Q E => ∃ (t x : V) (n : Nat) (k : Nat → Nat → Rat) (z : Int), vs = [t, x] ∧ Tab K C H t n k ∧ n ≤ 12 ∧ Bad K n H x z ∧ ∀ dx H', Ex H H' → H' dx = some (.xd [("at", .int z)]) → E (.ref D) (some dx) H'
theorem calx_var (D : DD K mg "variance" 35) (cx_cov : CalX P w K mg base 5 "covariance" (spCovX K C D0)) : CalX P w K mg base 6 "variance" (spVarX K C D0) := by
  refine calx_mk D sc_var (fun _ _ _ _ _ _ us hl => match us, hl with | [_, _], _ => rfl) (fun vs H Q E h => ?_) (fun f cdv A outer s H vs Q E hr h => ?_)
  · obtain ⟨t, x, n, k, z, rfl, _⟩ := h; rfl
  · obtain ⟨t, x, n, k, z, rfl, ht, hn, hb, kk⟩ := h
    refine ⟨_, pss_one (ps_ret (pe_cX (E := WE (fun cls d _ H => E cls d H)) cx_cov hr (by decide) (by rfl) (fun σ => passAt (takes_of rfl rfl rfl rfl) σ) (pa_cons (pv 0) (pa_cons (pv 1) (pa_cons (pv 1) pa_nil))))), ?_⟩
    exact ⟨_, rfl, _, rfl, _, rfl, t, x, x, n, k, z, rfl, ht, hn, .inl hb, kk⟩
end
end K18
end
section
set_option Elab.async false
set_option linter.all false
set_option maxRecDepth 100000
set_option maxHeartbeats 4000000
namespace K18
open PySem PySem.Spec PyProof.Rows L2
/-- what reading .at of a BadLot asks, and naming it in an except -/
structure BlR (K : PySem.W.Frag) (D : Addr) : Prop where
  ga : PySem.W.findIn K (.ref D) "__getattribute__" = some (some (.builtin "BaseException.__getattribute__"))
  gg : PySem.W.findIn K (.ref D) "__getattr__" = some none
  nat : PySem.W.findIn K (.ref D) "at" = some none
  exC : PySem.W.subIn K (.ref D) (.type "BaseException") = some true
  hdC : PySem.W.hasDictIn K D = true
  te : PySem.W.exmOne K (.ref D) (.ref D) = some true
def tAtBl (C : Addr) (a : Addr) (cls : Value) (d : Option Addr) (te : TE) : TE := fun σ H Q => te σ H fun x H1 => x = .ref a ∧ cls = .ref C ∧ ∃ (dd : Addr) (v : V), d = some dd ∧ H1 dd = some (.xd [(("at" : Str), v)]) ∧ Q v H1
theorem pe_atBl {X : Cx} {C : Addr} {a : Addr} {oe : Obj} {cls : Value} {d : Option Addr} {pn : List (Addr × Obj)} {e : Expr} {te : TE} {pos : Pos} (T : BlR X.K C) (hz : Zc cls d oe) (hf : ∃ vs, oe.data = .fields vs) (he : PE (X.suite a ((a, oe) :: pn)) e te)
    (hb : attributeBase e "at" X.env (eval e X.env) = eval e X.env := by rfl) :
    PE (X.suite a ((a, oe) :: pn)) (.Attribute e "at" pos) (tAtBl C a cls d te) := by
  refine ⟨fun pins s σ H Q I h => ?_⟩
  refine attr_of hb (thn (he.run pins s σ H _ I h) fun u s1 hh => ?_)
  obtain ⟨x, H1, I1, rx, ex, ec, dd, v, ed, ea, q⟩ := hh
  subst ex
  obtain rfl : u = Value.ref a := rx
  subst ec
  subst ed
  obtain ⟨ha, _⟩ := I1.pin (a, oe) (List.mem_append_left _ List.mem_cons_self)
  obtain ⟨vs, hd⟩ := hf
  have hx : ObjOk X.prog X.w H1 s1.heap dd (.xd [(("at" : Str), v)]) := I1.hok dd _ ea
  obtain ⟨mA, hns, hr⟩ := hx
  obtain ⟨od, ho, hl⟩ := lookIn_ns hns
  have l : List.lookup ("at" : Str) [(("at" : Str), v)] = some v := by simp [List.lookup]
  obtain ⟨u, hu, ru⟩ := RelO.some_of (v := v) (o := mA "at") (by rw [← l]; exact hr "at")
  have J : PySem.W.InstAt s1.heap a oe C (some od) := ⟨ha, hz.1, by unfold PySem.W.notCls; rw [hd] <;> rfl, by rw [hz.2]; exact ho⟩
  exact PySem.HandSPX.exc_get I1.kIn J T.ga T.gg T.exC (PySem.W.findObj_own T.hdC T.nat rfl (by rw [hl, hu])) (handed_of ru) ⟨v, H1, I1.tok _, ru, q⟩
end K18
end
section
set_option Elab.async false
set_option linter.all false
set_option maxRecDepth 100000
set_option maxHeartbeats 4000000
namespace K18
open PySem PySem.Spec PyProof.Rows L2
section
variable {P : Program} {w : World} {K : PySem.W.Frag} {mg : Str → Option Value} {base : Heap} {C : Addr}
variable {D0 : Addr}
/-- variance or covariance asked of lots of which one is refused: where -/
def spRefused (K : PySem.W.Frag) (C : Addr) : Sp := fun vs H Q _ => ∃ (t x y : V) (n : Nat) (k : Nat → Nat → Rat) (z : Int), vs = [t, x, y] ∧ Tab K C H t n k ∧ n ≤ 12 ∧
  ((y = .non ∧ Bad K n H x z) ∨ (y ≠ .non ∧ (Bad K n H x z ∨ ∃ S, SeqV K H x (nV S) ∧ LotOk S n ∧ Bad K n H y z))) ∧ ∀ p H', Ex H H' → H' p = some (.tup [.str "lot", .int z]) → Q (.ref p) H'
theorem sc_refused : FnScope ["_law_program", "_law_one", "_law_other", "_law_told", "_law_raised"] ["_law_program", "_law_one", "_law_other"] (C8.fnScope (top 86)) := C8.fnScope_by (by decide +kernel)
theorem cal_refused (D : DD K mg "_law_refused" 86) (R : BlR K D0) (mb : mg "BadLot" = some (.ref D0)) (cx_var : CalX P w K mg base 6 "variance" (spVarX K C D0)) (cx_cov : CalX P w K mg base 5 "covariance" (spCovX K C D0)) : C8.Cal P w K mg base 7 "_law_refused" (spRefused K C) [] := by
  refine cal_mk D sc_refused (fun _ _ _ _ _ _ us hl => match us, hl with | [_, _, _], _ => rfl) (fun vs H Q E h => ?_) (fun f cdv A outer s H vs Q E hr h => ?_)
  · obtain ⟨t, x, y, n, k, z, rfl, _⟩ := h; rfl
  · obtain ⟨t, x, y, n, k, z, rfl, ht, hn, hb, kk⟩ := h
    have nd := sc_refused.nd
    refine ⟨_, pss_cons (pset 3 nd (pe_tup (pa_cons pe_str pa_nil)))
      (pss_cons (ps_try_as (i := 4) (Wout := fun _ _ _ _ => False) rfl rfl nd rfl rfl ⟨by rfl, by decide, Or.inl mb⟩ takes0
        (fun W pn xe tk _ => pss_one (ps_if (pt_cmpR op_isN (pv 2) pe_non (nomark _))
          (pss_one (pset 3 nd (pe_tup (pa_cons pe_str (pa_cons (pe_cX (E := WE W) cx_var hr (by decide) (by rfl) (fun σ => passAt tk σ) (pa_cons (pv 0) (pa_cons (pv 1) pa_nil))) pa_nil)))))
          (pss_one (pset 3 nd (pe_tup (pa_cons pe_str (pa_cons (pe_cX (E := WE W) cx_cov hr (by decide) (by rfl) (fun σ => passAt tk σ) (pa_cons (pv 0) (pa_cons (pv 1) (pa_cons (pv 2) pa_nil)))) pa_nil)))))))
        (fun a oe cls d pn hz hf => pss_one (pset 3 nd (pe_tup (pa_cons pe_str (pa_cons (pe_atBl R hz hf (pv 4)) pa_nil))))))
      (pss_one (ps_ret (pv 3)))), ?_⟩
    refine ⟨by show 1 ≤ sizeLine; decide, fun p0 hp0 => ?_⟩
    have e0 := Evl.Ex.new (o := .tup [.str "other"]) hp0
    have fin : ∀ (dx : Addr) (H' : Hp), Ex (upd H p0 (.tup [.str "other"])) H' → ∀ p, H' p = none → Q (.ref p) (upd H' p (.tup [.str "lot", .int z])) := fun dx H' e p hp => kk p _ (e0.trans (e.trans (Evl.Ex.new hp))) upd_same
    rcases hb with ⟨rfl, hb⟩ | ⟨hy, hb⟩
    · refine ⟨_, rfl, rfl, true, rfl, iteT ?_⟩
      refine ⟨_, rfl, _, rfl, t, x, n, k, z, rfl, ht.ex e0, hn, hb.ex e0, fun dx H' e h => ?_⟩
      refine ⟨true, R.te, fun _ a0 ha0 => ?_, fun q => by cases q⟩
      refine ⟨_, rfl, rfl, rfl, dx, .int z, rfl, h, by show 2 ≤ sizeLine; decide, fun p hp => ⟨_, rfl, fin dx H' e p hp⟩⟩
    · refine ⟨_, rfl, rfl, false, by rw [decide_eq_false hy], iteF ?_⟩
      refine ⟨_, rfl, _, rfl, _, rfl, t, x, y, n, k, z, rfl, ht.ex e0, hn, ?_, fun dx H' e h => ?_⟩
      · rcases hb with hb | ⟨S, hS, okS, hb⟩
        · exact .inl (hb.ex e0)
        · exact .inr ⟨S, hS.ex e0, okS, hb.ex e0⟩
      refine ⟨true, R.te, fun _ a0 ha0 => ?_, fun q => by cases q⟩
      refine ⟨_, rfl, rfl, rfl, dx, .int z, rfl, h, by show 2 ≤ sizeLine; decide, fun p hp => ⟨_, rfl, fin dx H' e p hp⟩⟩
end
end K18
end
section
set_option Elab.async false
set_option linter.all false
set_option maxRecDepth 100000
set_option maxHeartbeats 4000000
namespace K18
open PySem PySem.Spec PyProof.Rows L2
/-- what the law asks of a refused lot: the pair v, where it is refused -/
def Ask (K : PySem.W.Frag) (n : Nat) (v : V) (z : Int) (H : Hp) : Prop := ∃ q x y, v = .ref q ∧ SqT K H q [x, y] ∧ ((y = .non ∧ Bad K n H x z) ∨ (y ≠ .non ∧ (Bad K n H x z ∨ ∃ S, SeqV K H x (nV S) ∧ LotOk S n ∧ Bad K n H y z)))
theorem Ask.ex {K : PySem.W.Frag} {n : Nat} {v : V} {z : Int} {H H' : Hp} (h : Ask K n v z H) (e : Ex H H') : Ask K n v z H' := by
  obtain ⟨q, x, y, rfl, hq, h⟩ := h
  refine ⟨q, x, y, rfl, Evl.ex_t e hq, ?_⟩
  rcases h with ⟨h1, h2⟩ | ⟨h1, h2 | ⟨S, h2, h3, h4⟩⟩
  · exact .inl ⟨h1, h2.ex e⟩
  · exact .inr ⟨h1, .inl (h2.ex e)⟩
  · exact .inr ⟨h1, .inr ⟨S, h2.ex e, h3, h4.ex e⟩⟩
def whereL : List Int := [1, 1, 0, 1, -1, 1]
def dTold (i : Nat) : PyData := .tuple [.str "lot", .int (whereL.getD i 0)]
theorem At.dpw {K : PySem.W.Frag} {ys : List V} {H : Hp} (h : At (fun i v H => ∃ q, v = .ref q ∧ SqT K H q [.str "lot", .int (whereL.getD i 0)]) ys H) (hl : ys.length = 6) : DpAll K H ys ((List.range 6).map dTold) :=
  dp_at (h.imp fun i v _ hv => by
    obtain ⟨q, rfl, hq⟩ := hv
    exact .tup hq (.cons (.str _) (.cons (.int _) .nil))) hl
theorem lotOk0 {n : Nat} (h : 1 ≤ n) : LotOk [0] n := ⟨fun x hx => by rw [List.mem_singleton.mp hx]; omega, List.nodup_cons.mpr ⟨List.not_mem_nil, List.nodup_nil⟩⟩
theorem lotOkN {n : Nat} : LotOk [] n := ⟨fun x hx => (List.not_mem_nil hx).elim, List.nodup_nil⟩
theorem pow_b {x : Nat} {i c : Nat} (h : x < 2 ^ (8 + 4 * i)) (hi : i ≤ c) (hc : c ≤ 4) : x < 2 ^ 24 := Mth.lt_mono h (by omega)
theorem wo_new_any {p : Addr} {H : Hp} {o : HO} (h : H p = none) : Ex (wo p H) (wo p (upd H p o)) := by rw [wo_same]; exact Evl.Ex.refl _
theorem frac_wo {K : PySem.W.Frag} {d : Addr} {f : Nat → Rat} {xs : List V} {H : Hp} (hd : Dig d H) (h : At (FracR K f) xs H) : At (FracR K f) xs (wo d H) := by
  intro j v hv
  obtain ⟨ds, hds⟩ := hd
  obtain ⟨q, rfl, hq⟩ := h j v hv
  refine ⟨q, rfl, ?_⟩
  rcases hq with (h | ⟨o, h⟩) | h
  · exact .inl (.inl (by rw [wo_at (fun z => by rw [z, hds] at h; cases h)]; exact h))
  · exact .inl (.inr ⟨o, by rw [wo_at (fun z => by rw [z, hds] at h; cases h)]; exact h⟩)
  · exact .inr h
section
variable {P : Program} {w : World} {K : PySem.W.Frag} {mg : Str → Option Value} {base : Heap} {C : Addr}
theorem fn_mk {x : Str} {i k : Nat} {N ps : List Str} {sp : Sp} {f0 : Addr} {fd0 : FuncData} (D : C8.Def K mg x (top i) f0 fd0) (S : FnScope N ps (C8.fnScope (top i)))
    (len : ∀ vs H Q E, sp vs H Q E → vs.length = ps.length)
    (hbody : ∀ (f : Addr) (cdv : Value) (A : Around) (outer : List Env) (s : Shared) (H : Hp) (vs : List V) (Q : VK) (E : XK), Room k (A.deeper (envOfC x (C8.fnScope (top i)) s.heap.objs.size f cdv)) → sp vs H Q E →
      ∃ t, PSs (cxOf C8.CX0 P w K mg base N x (C8.fnScope (top i)) f cdv A outer s H E).nox (C8.fnBody (top i)) t ∧ t { nx := fun _ H' => Q .non H', rt := Q } (start N vs) H) : FnOk P w K mg base C8.CX0 (k + 1) f0 fd0 ps sp :=
  C8.fn0 D.fn S len fun cdv A outer s H vs Q E hr h => hbody f0 cdv A outer s H vs Q E hr h
/-- Table(_law_rows(t)) -/
theorem rd_newtab (W : TabW K C) {b n : Nat} {σ : L2.St} {H : Hp} {Q : VK} {t : V} {D : Int} {A : Mth.Mat} (h0 : σ[b]? = some (some t)) (l : LT H t D n A) (hn : n ≤ 5) (hD0 : 0 < D) (hD : D.natAbs < 2 ^ 24) (hA : Bnd 24 n A)
    (kont : ∀ w H', Ex H H' → Tab K C H' w n (Mth.K D A) → Q w H') : tMake C (spInit K) [] C8.E0 (tCons (tCall (spLRows K) [] C8.E0 (tCons (tVar b) tNil)) tNil) σ H Q :=
  ⟨_, h0, t, D, n, A, rfl, l, hn, hD0, hD, hA, fun v H1 e hv => mk_tab W (by omega) hv fun w H' e' hw => kont w H' (e.trans e') hw⟩
theorem rd_newtab0 (W : TabW K C) {b n : Nat} {σ : L2.St} {H : Hp} {Q : VK} {p : Addr} {t u : V} {D : Int} {A : Mth.Mat} (h0 : σ[b]? = some (some (.ref p))) (hp : H p = some (.lst [t, u])) (l : LT H t D n A) (hn : n ≤ 5) (hD0 : 0 < D) (hD : D.natAbs < 2 ^ 24) (hA : Bnd 24 n A)
    (kont : ∀ w H', Ex H H' → Tab K C H' w n (Mth.K D A) → Q w H') : tMake C (spInit K) [] C8.E0 (tCons (tCall (spLRows K) [] C8.E0 (tCons (tOp (rIxL K) (tVar b) (tC (.int 0))) tNil)) tNil) σ H Q :=
  ⟨_, h0, p, _, 0, _, rfl, rfl, SqL.of hp, rfl, t, D, n, A, rfl, l, hn, hD0, hD, hA, fun v H1 e hv => mk_tab W (by omega) hv fun w H' e' hw => kont w H' (e.trans e') hw⟩
theorem rd_asgtab (W : TabW K C) {i b n : Nat} {u : TS} {E : Ends} {σ : L2.St} {H : Hp} {t : V} {D : Int} {A : Mth.Mat} (h0 : σ[b]? = some (some t)) (l : LT H t D n A) (hn : n ≤ 5) (hD0 : 0 < D) (hD : D.natAbs < 2 ^ 24) (hA : Bnd 24 n A)
    (kont : ∀ w H', Ex H H' → Tab K C H' w n (Mth.K D A) → u E (σ.set i (some w)) H') : tSeq (tAsg (tMake C (spInit K) [] C8.E0 (tCons (tCall (spLRows K) [] C8.E0 (tCons (tVar b) tNil)) tNil)) (gName i)) u E σ H :=
  rd_newtab (Q := fun w H' => u E (σ.set i (some w)) H') W h0 l hn hD0 hD hA kont
def spLaw (K : PySem.W.Frag) : Sp := fun vs H Q _ => ∃ (ps : Addr) (is : List Int), vs = [.ref ps] ∧ SqL K H ps (is.map V.int) ∧ ∀ H', Q (.bl true) H'
theorem sc_law : FnScope ["_law_script", "_law_digits", "_law_size_here", "_law_table", "_law_program", "_law_turn", "_law_both", "_law_numbers", "_law_again", "_law_found"] ["_law_script"] (C8.fnScope (top 88)) := C8.fnScope_by (by decide +kernel)
theorem fn_law (B : Bt mg) {f0 : Addr} {fd0 : FuncData} (D : C8.Def K mg "law" (top 88) f0 fd0) (c_l_draws : C8.Cal P w K mg base 1 "_law_draws" (spDraws K) []) (c_l_size : C8.Cal P w K mg base 2 "_law_size" (spSize) []) (c_l_eat : C8.Cal P w K mg base 1 "_law_eat" (spEat) []) (c_l_free : C8.Cal P w K mg base 2 "_law_free" (spFree) []) (c_l_plain : C8.Cal P w K mg base 4 "_law_plain" (spPlain) []) (c_t___init : C8.Mak P w K mg base 4 "Table" C (spInit K) []) (c_l_rows : C8.Cal P w K mg base 3 "_law_rows" (spLRows K) []) (c_l_next : C8.Cal P w K mg base 8 "_law_next" (spNext K C) []) (c_l_chances : C8.Cal P w K mg base 4 "_law_chances" (spChances K) []) (c_l_asked : C8.Cal P w K mg base 10 "_law_asked" (spAsked K C) []) (c_t___eq : C8.Met P w K mg base 1 C "__eq__" (spEq K C) []) (c_l_wide : C8.Cal P w K mg base 9 "_law_wide" (spWide K C) []) (c_l_refused : C8.Cal P w K mg base 7 "_law_refused" (spRefused K C) []) (W : TabW K C) : FnOk P w K mg base C8.CX0 12 f0 fd0 ["_law_script"] (spLaw K) := by
  refine fn_mk D sc_law (fun vs H Q E h => ?_) (fun f cdv A outer s H vs Q E hr h => ?_)
  · obtain ⟨ps, is, rfl, _⟩ := h; rfl
  · obtain ⟨ps, is, rfl, hps, kk⟩ := h
    have nd := sc_law.nd
    refine ⟨_, (pss_cons (pset 1 nd (C8.pe_c c_l_draws hr (by decide) (by rfl) (pa_cons (pv 0) pa_nil)))
    (pss_cons (pset 2 nd (C8.pe_c c_l_size hr (by decide) (by rfl) (pa_cons (pv 1) pa_nil)))
    (C8.pss_cut (ps_if (pt_cmpR op_eq (C8.pe_c c_l_eat hr (by decide) (by rfl) (pa_cons (pv 1) (pa_cons pe_int pa_nil))) pe_int (nomark _)) (pss_one (pset 3 nd (C8.pe_c c_l_free hr (by decide) (by rfl) (pa_cons (pv 1) (pa_cons (pv 2) pa_nil))))) (pss_one (pset 3 nd (C8.pe_c c_l_plain hr (by decide) (by rfl) (pa_cons (pv 1) (pa_cons (pv 2) pa_nil))))))
    (pss_cons (pset 4 nd (C8.pe_mk c_t___init hr (by decide) (by rfl) (pa_cons (C8.pe_c c_l_rows hr (by decide) (by rfl) (pa_cons (pv 3) pa_nil)) pa_nil)))
    (pss_cons (ps_for PassesOwn.never rfl (pi_range1 (by rfl) B.range (pa_cons (pe_op op_add pe_int (C8.pe_c c_l_eat hr (by decide) (by rfl) (pa_cons (pv 1) (pa_cons pe_int pa_nil)))) pa_nil)) (pgn 5 nd)
      (pss_cons (pset 6 nd (C8.pe_c c_l_next hr (by decide) (by rfl) (pa_cons (pv 1) (pa_cons (pv 3) (pa_cons (pv 4) pa_nil)))))
      (pss_cons (pset 7 nd (C8.pe_c c_l_chances hr (by decide) (by rfl) (pa_cons (pe_ix (ix_listK K) (pv 6) pe_int (fun _ _ => rfl)) pa_nil)))
      (pss_cons (ps_for PassesOwn.never rfl (pi_range1 (by rfl) B.range (pa_cons pe_int pa_nil)) (pgn 8 nd)
        (pss_one (ps_if (pt_not (pt_val (C8.pe_c c_l_asked hr (by decide) (by rfl) (pa_cons (pv 1) (pa_cons (pe_ix (ix_listK K) (pv 6) pe_int (fun _ _ => rfl)) (pa_cons (pe_ix (ix_listK K) (pv 6) pe_int (fun _ _ => rfl)) (pa_cons (pv 7) pa_nil))))))) (pss_one (ps_ret pe_bl)) pss_nil)))
      (pss_cons (ps_if (PW.pt (pw_or (pt_cmpR (op_neO W.tc c_t___eq hr (by decide)) (pe_ix (ix_listK K) (pv 6) pe_int (fun _ _ => rfl)) (C8.pe_mk c_t___init hr (by decide) (by rfl) (pa_cons (C8.pe_c c_l_rows hr (by decide) (by rfl) (pa_cons (pe_ix (ix_listK K) (pv 6) pe_int (fun _ _ => rfl)) pa_nil)) pa_nil)) (nomark _)) (pw_or1 (pt_cmpR (op_neO W.tc c_t___eq hr (by decide)) (pv 4) (C8.pe_mk c_t___init hr (by decide) (by rfl) (pa_cons (C8.pe_c c_l_rows hr (by decide) (by rfl) (pa_cons (pv 3) pa_nil)) pa_nil)) (nomark _))))) (pss_one (ps_ret pe_bl)) pss_nil)
      (pss_cons (pset 3 nd (pe_ix (ix_listK K) (pv 6) pe_int (fun _ _ => rfl)))
      (pss_one (pset 4 nd (pe_ix (ix_listK K) (pv 6) pe_int (fun _ _ => rfl))))))))))
    (pss_cons (ps_if (pt_not (pt_val (C8.pe_c c_l_wide hr (by decide) (by rfl) (pa_cons (pv 1) (pa_cons (pv 3) (pa_cons (pv 4) (pa_cons (C8.pe_c c_l_chances hr (by decide) (by rfl) (pa_cons (pv 3) pa_nil)) pa_nil))))))) (pss_one (ps_ret pe_bl)) pss_nil)
    (pss_cons (pset 9 nd (pe_lst pa_nil))
    (pss_cons (ps_for PassesOwn.never rfl (pi_listK K (pe_lst (pa_cons (pe_tup (pa_cons (pe_lst (pa_cons pe_int (pa_cons pe_int pa_nil))) (pa_cons pe_non pa_nil))) (pa_cons (pe_tup (pa_cons (pe_lst (pa_cons pe_int (pa_cons pe_int pa_nil))) (pa_cons pe_int pa_nil))) (pa_cons (pe_tup (pa_cons (pe_tup pa_nil) (pa_cons (pe_lst (pa_cons (pv 2) pa_nil)) pa_nil))) (pa_cons (pe_tup (pa_cons (pe_lst (pa_cons pe_int (pa_cons pe_bl pa_nil))) (pa_cons (pe_tup pa_nil) pa_nil))) (pa_cons (pe_tup (pa_cons pe_str (pa_cons (pe_lst (pa_cons (pe_un un_neg pe_int) pa_nil)) pa_nil))) (pa_cons (pe_tup (pa_cons (pe_lst (pa_cons pe_int pa_nil)) (pa_cons (pe_lst (pa_cons pe_int (pa_cons (pe_un un_neg pe_int) pa_nil))) pa_nil))) pa_nil)))))))) (pgn 6 nd)
      (pss_one (ps_expr (pe_bm PySem.F.plainAttrs_list PySem.F.slot_list_append PySem.F.type_list_append mt_append (pv 9) (pa_cons (C8.pe_c c_l_refused hr (by decide) (by rfl) (pa_cons (pv 4) (pa_cons (pe_ix (ix_tupK K) (pv 6) pe_int (fun _ _ => rfl)) (pa_cons (pe_ix (ix_tupK K) (pv 6) pe_int (fun _ _ => rfl)) pa_nil)))) pa_nil)))))
    (pss_one (ps_ret (pe_cmpR (op_eqDK K hr.units) (pv 9) (pe_lst (pa_cons (pe_tup (pa_cons pe_str (pa_cons pe_int pa_nil))) (pa_cons (pe_tup (pa_cons pe_str (pa_cons pe_int pa_nil))) (pa_cons (pe_tup (pa_cons pe_str (pa_cons pe_int pa_nil))) (pa_cons (pe_tup (pa_cons pe_str (pa_cons pe_int pa_nil))) (pa_cons (pe_tup (pa_cons pe_str (pa_cons (pe_un un_neg pe_int) pa_nil))) (pa_cons (pe_tup (pa_cons pe_str (pa_cons pe_int pa_nil))) pa_nil))))))) (nomark _)))))))))))), ?_⟩
    refine ⟨_, rfl, ps, is, rfl, hps, fun d H1 e1 hd0 hd1 => ?_⟩
    refine ⟨_, rfl, d, rfl, hd1, fun n H2 hn1 hn5 e2 hd2 => ?_⟩
    refine ⟨fun σ' H' => ∃ (v : V) (D : Int) (A : Mth.Mat), σ' = [some (.ref ps), some (.ref d), some (.int n), some v, none, none, none, none, none, none] ∧ Dig d H' ∧ LT (wo d H') v D n A ∧ 0 < D ∧ D.natAbs < 2 ^ 8 ∧ Bnd 8 n A, ?_, ?_⟩
    · refine ⟨_, rfl, d, 3, rfl, by decide, hd2, fun c H3 hc e3 hd3 => ⟨rfl, _, rfl, ?_⟩⟩
      by_cases c2 : c = 2
      · rw [show decide (V.int (c : Int) = V.int 2) = true by rw [c2]; exact decide_eq_true rfl]
        exact iteT ⟨_, rfl, _, rfl, d, n, rfl, hn5, hd3, fun v D A H' e hd' l h0 hb hB => ⟨v, D, A, rfl, hd', l, h0, hb, hB⟩⟩
      · rw [decide_eq_false (fun q => c2 (by injection q with q; omega))]
        exact iteF ⟨_, rfl, _, rfl, d, n, rfl, hn5, hd3, fun v D A H' e hd' l h0 hb hB => ⟨v, D, A, rfl, hd', l, h0, hb, hB⟩⟩
    rintro σ' H3 ⟨t0, D0, A0, rfl, hd3, l3, hD0, hDb0, hA0⟩
    refine rd_asgtab W rfl (l3.ex wo_sub) hn5 hD0 (Mth.lt_mono hDb0 (by decide)) (fun i hi j hj => Mth.lt_mono (hA0 i hi j hj) (by decide)) fun pr0 H5 e35 hpr0 => ?_
    have hd5 := hd3.ex e35
    have l5 := l3.ex (wo_ex e35)
    refine ⟨_, rfl, d, 3, rfl, by decide, hd5, fun c H6 hc e6 hd6 => ⟨_, _, rfl, rfl, _, rfl, by omega, by omega, ?_⟩⟩
    refine for_rg (a := 0) rfl (by omega : (1 + (c : Int)).toNat = 1 + c) (Pv := fun i σ' H' => ∃ (a5 a6 a7 a8 : Option V) (t pr : V) (D : Int) (A : Mth.Mat), σ' = [some (.ref ps), some (.ref d), some (.int n), some t, some pr, a5, a6, a7, a8, none] ∧ Dig d H' ∧ LT (wo d H') t D n A ∧ Tab K C (wo d H') pr n (Mth.K D A) ∧ 0 < D ∧ D.natAbs < 2 ^ (8 + 4 * i) ∧ Bnd (8 + 4 * i) n A)
      ⟨none, none, none, none, t0, pr0, D0, A0, rfl, hd6, l5.ex e6, (hpr0.sans hd5).ex e6, hD0, hDb0, hA0⟩ ?_ ?_
    · rintro i σ' H7 hi ⟨a5, a6, a7, a8, t, pr, Db, A, rfl, hd7, l7, hpr7, hDp, hDb, hA⟩
      have hbi : 8 + 4 * i + 4 ≤ 24 := by omega
      refine ⟨_, rfl, _, rfl, _, rfl, d, t, pr, Db, n, 8 + 4 * i, A, rfl, hd7, hn5, hDp, hDb, by omega, hA, l7, hpr7, fun pb t' pr' D' A' H8 e8 hd8 hb8 l8 hpr8 hDp' hDb' hA' => ?_⟩
      have hDw : D'.natAbs < 2 ^ 24 := Mth.lt_mono hDb' hbi
      have hAw : Bnd 24 n A' := fun i hi j hj => Mth.lt_mono (hA' i hi j hj) hbi
      have hDv : Db.natAbs < 2 ^ 24 := Mth.lt_mono hDb (by omega)
      have hAv : Bnd 24 n A := fun i hi j hj => Mth.lt_mono (hA i hi j hj) (by omega)
      have hbF := wo_sub _ _ hb8
      refine ⟨_, rfl, pb, _, 0, _, rfl, rfl, SqL.of hbF, rfl, t', D', n, A', rfl, l8.ex wo_sub, hn5, hDp', hDw, hAw, fun pn xs H9 e9 hpn0 hpn hlx hax hcb => ?_⟩
      have hd9 := hd8.ex e9
      have npn := hd8.ne hpn0
      have w9 := wo_ex (d := d) e9
      refine ⟨2, rfl, by omega, by omega, ?_⟩
      have hpn9 : wo d H9 pn = some (.lst xs) := by rw [wo_at npn]; exact hpn
      have hax9 : At (FracR K fun m => Mth.fr (Mth.cN n D' A' m) (D' ^ n)) xs (wo d H9) := frac_wo hd9 hax
      refine for_rg (a := 0) rfl (by omega : ((2 : Int)).toNat = 2) (Pv := fun j σ'' H'' => ∃ (a8 : Option V), σ'' = [some (.ref ps), some (.ref d), some (.int n), some t, some pr, some (.int ((0 + i : Nat) : Int)), some (.ref pb), some (.ref pn), a8, none] ∧ Ex (wo d H9) (wo d H'') ∧ Dig d H'') ⟨_, rfl, Evl.Ex.refl _, hd9⟩ ?_ ?_
      · rintro j σ'' Ha hj ⟨b8, rfl, ea, hda⟩
        have hba := (ea _ _ (w9 _ _ hb8))
        have hbaF := wo_sub _ _ hba
        refine ⟨_, rfl, _, rfl, pb, _, 0, _, rfl, rfl, SqL.of hbaF, rfl, _, rfl, pb, _, 1, _, rfl, rfl, SqL.of hbaF, rfl, _, rfl, ?_⟩
        refine ⟨d, pn, t', pr', D', n, A', xs, rfl, hda, hn5, hDp', hDw, hAw, (l8.ex w9).ex ea, (hpr8.ex w9).ex ea, ea _ _ hpn9, hlx, hax9.ex mono_frac ea, hcb, fun H' e hd' => ⟨true, rfl, iteF ⟨_, rfl, ea.trans e, hd'⟩⟩⟩
      rintro σ'' Ha ⟨b8, rfl, ea, hda⟩
      have e8a := w9.trans ea
      have hbaF := wo_sub _ _ (e8a _ _ hb8)
      have la := l8.ex e8a
      have pra := hpr8.ex e8a
      have e7a := e8.trans e8a
      -- the program's table is that of the law's rows
      refine ⟨_, rfl, pb, _, 1, _, rfl, rfl, SqL.of hbaF, rfl, ?_⟩
      refine rd_newtab0 W (by rfl) hbaF (la.ex wo_sub) hn5 hDp' hDw hAw fun w11 H11 ea11 hw11 => ?_
      have T1 : Tab K C H11 pr' n (Mth.K D' A') := (pra.ex wo_sub).ex ea11
      obtain ⟨p1, dx1, rv1, rfl, h11, r11⟩ := T1
      have T2 : Tab K C H11 w11 n (Mth.K D' A') := hw11
      obtain ⟨p2, dx2, rv2, rfl, h12, r12⟩ := T2
      refine ⟨p1, p2, dx1, dx2, _, _, rfl, rfl, h11, h12, .ref p1, .ref p2, n, Mth.K D' A', rfl, ⟨p1, dx1, rv1, rfl, h11, r11⟩, ⟨p2, dx2, rv2, rfl, h12, r12⟩, true, rfl, _, rfl, iteF ?_⟩
      -- the old one too
      have ltb := (l7.ex e7a).ex (wo_ex ea11)
      refine ⟨_, rfl, ?_⟩
      refine rd_newtab W (by rfl) (ltb.ex wo_sub) hn5 hDp hDv hAv fun w13 H13 e13 hw13 => ?_
      have ea13 := ea11.trans e13
      have T3 : Tab K C H13 pr n (Mth.K Db A) := ((hpr7.ex e7a).ex wo_sub).ex ea13
      obtain ⟨p3, dx3, rv3, rfl, h13, r13⟩ := T3
      have T4 : Tab K C H13 w13 n (Mth.K Db A) := hw13
      obtain ⟨p4, dx4, rv4, rfl, h14, r14⟩ := T4
      refine ⟨p3, p4, dx3, dx4, _, _, rfl, rfl, h13, h14, .ref p3, .ref p4, n, Mth.K Db A, rfl, ⟨p3, dx3, rv3, rfl, h13, r13⟩, ⟨p4, dx4, rv4, rfl, h14, r14⟩, true, rfl, _, rfl, iteF ?_⟩
      have hb13 := ea13 _ _ hbaF
      refine ⟨_, rfl, pb, _, 0, _, rfl, rfl, SqL.of hb13, rfl, _, rfl, pb, _, 1, _, rfl, rfl, SqL.of hb13, rfl, ?_⟩
      have eb : 8 + 4 * (i + 1) = 8 + 4 * i + 4 := by omega
      exact ⟨_, _, _, _, t', .ref p1, D', A', rfl, hda.ex ea13, la.ex (wo_ex ea13), pra.ex (wo_ex ea13), hDp', by rw [eb]; exact hDb', by rw [eb]; exact hA'⟩
    rintro σ' H7 ⟨a5, a6, a7, a8, t, pr, Db, A, rfl, hd7, l7, hpr7, hDp, hDb, hA⟩
    have hbi : 8 + 4 * (1 + c) ≤ 24 := by omega
    have hDw : Db.natAbs < 2 ^ 24 := Mth.lt_mono hDb hbi
    have hAw : Bnd 24 n A := fun i hi j hj => Mth.lt_mono (hA i hi j hj) hbi
    refine ⟨_, rfl, _, rfl, _, rfl, _, rfl, t, Db, n, A, rfl, l7.ex wo_sub, hn5, hDp, hDw, hAw, fun pn xs H9 e9 hpn0 hpn hlx hax hcb => ?_⟩
    have hd9 := hd7.ex e9
    have npn := hd7.ne hpn0
    have w9 := wo_ex (d := d) e9
    have hpn9 : wo d H9 pn = some (.lst xs) := by rw [wo_at npn]; exact hpn
    have hax9 : At (FracR K fun m => Mth.fr (Mth.cN n Db A m) (Db ^ n)) xs (wo d H9) := frac_wo hd9 hax
    refine ⟨d, pn, t, pr, Db, n, A, xs, rfl, hd9, hn1, hn5, hDp, hDw, hAw, l7.ex w9, hpr7.ex w9, hpn9, hlx, hax9, hcb, fun Hb eb hdb => ⟨true, rfl, iteF ?_⟩⟩
    have prb : Tab K C Hb pr n (Mth.K Db A) := ((hpr7.ex w9).ex eb).ex wo_sub
    -- the refused lots
    refine ⟨by show 0 ≤ sizeLine; decide, fun p9 hp9 => ?_⟩
    have x0 := Evl.Ex.new (o := .lst []) hp9
    have ne9 : ∀ {q : Addr} {Hk : Hp}, Ex (upd Hb p9 (.lst [])) Hk → Hk q = none → q ≠ p9 := fun {q Hk} e h z => by
      subst z
      rw [e _ _ upd_same] at h
      cases h
    refine ⟨by show 2 ≤ sizeLine; decide, fun a1 ha1 => ⟨by show 2 ≤ sizeLine; decide, fun t1 ht1 => ?_⟩⟩
    have ea1 := Evl.Ex.new (o := .lst [.int 0, .int 0]) ha1
    have et1 := Evl.Ex.new (o := .tup [.ref a1, .non]) ht1
    refine ⟨by show 2 ≤ sizeLine; decide, fun a2 ha2 => ⟨by show 2 ≤ sizeLine; decide, fun t2 ht2 => ?_⟩⟩
    have ea2 := Evl.Ex.new (o := .lst [.int 0, .int 0]) ha2
    have et2 := Evl.Ex.new (o := .tup [.ref a2, .int 1]) ht2
    refine ⟨by show 0 ≤ sizeLine; decide, fun a3 ha3 => ⟨_, rfl, by show 1 ≤ sizeLine; decide, fun b3 hb3 => ⟨by show 2 ≤ sizeLine; decide, fun t3 ht3 => ?_⟩⟩⟩
    have ea3 := Evl.Ex.new (o := .tup []) ha3
    have eb3 := Evl.Ex.new (o := .lst [.int (n : Nat)]) hb3
    have et3 := Evl.Ex.new (o := .tup [.ref a3, .ref b3]) ht3
    refine ⟨by show 2 ≤ sizeLine; decide, fun a4 ha4 => ⟨by show 0 ≤ sizeLine; decide, fun b4 hb4 => ⟨by show 2 ≤ sizeLine; decide, fun t4 ht4 => ?_⟩⟩⟩
    have ea4 := Evl.Ex.new (o := .lst [.int 0, .bl true]) ha4
    have eb4 := Evl.Ex.new (o := .tup []) hb4
    have et4 := Evl.Ex.new (o := .tup [.ref a4, .ref b4]) ht4
    refine ⟨_, rfl, by show 1 ≤ sizeLine; decide, fun b5 hb5 => ⟨by show 2 ≤ sizeLine; decide, fun t5 ht5 => ?_⟩⟩
    have eb5 := Evl.Ex.new (o := .lst [.int (-1)]) hb5
    have et5 := Evl.Ex.new (o := .tup [.str "0", .ref b5]) ht5
    refine ⟨by show 1 ≤ sizeLine; decide, fun a6' ha6 => ⟨_, rfl, by show 2 ≤ sizeLine; decide, fun b6 hb6 => ⟨by show 2 ≤ sizeLine; decide, fun t6 ht6 => ?_⟩⟩⟩
    have ea6 := Evl.Ex.new (o := .lst [.int 0]) ha6
    have eb6 := Evl.Ex.new (o := .lst [.int 0, .int (-1)]) hb6
    have et6 := Evl.Ex.new (o := .tup [.ref a6', .ref b6]) ht6
    refine ⟨by show 6 ≤ sizeLine; decide, fun L hL => ?_⟩
    have eL := Evl.Ex.new (o := .lst [.ref t1, .ref t2, .ref t3, .ref t4, .ref t5, .ref t6]) hL
    have f6 := et6.trans eL
    have g6 := eb6.trans f6
    have k6 := ea6.trans g6
    have f5 := et5.trans k6
    have g5 := eb5.trans f5
    have f4 := et4.trans g5
    have g4 := eb4.trans f4
    have k4 := ea4.trans g4
    have f3 := et3.trans k4
    have g3 := eb3.trans f3
    have k3 := ea3.trans g3
    have f2 := et2.trans k3
    have g2 := ea2.trans f2
    have f1 := et1.trans g2
    have g1 := ea1.trans f1
    -- none of them is the list of answers
    have m1 := (Evl.Ex.refl (upd Hb p9 (.lst []))).trans ea1
    have m2 := m1.trans et1
    have m3 := m2.trans ea2
    have m4 := m3.trans et2
    have m5 := m4.trans ea3
    have m6 := m5.trans eb3
    have m7 := m6.trans et3
    have m8 := m7.trans ea4
    have m9 := m8.trans eb4
    have m10 := m9.trans et4
    have m11 := m10.trans eb5
    have m12 := m11.trans et5
    have m13 := m12.trans ea6
    have m14 := m13.trans eb6
    have m15 := m14.trans et6
    have na1 := ne9 (Evl.Ex.refl _) ha1
    have nt1 := ne9 m1 ht1
    have na2 := ne9 m2 ha2
    have nt2 := ne9 m3 ht2
    have na3 := ne9 m4 ha3
    have nb3 := ne9 m5 hb3
    have nt3 := ne9 m6 ht3
    have na4 := ne9 m7 ha4
    have nb4 := ne9 m8 hb4
    have nt4 := ne9 m9 ht4
    have nb5 := ne9 m10 hb5
    have nt5 := ne9 m11 ht5
    have na6 := ne9 m12 ha6
    have nb6 := ne9 m13 hb6
    have nt6 := ne9 m14 ht6
    have nL := ne9 m15 hL
    let Hs := upd (upd (upd (upd (upd (upd (upd (upd (upd (upd (upd (upd (upd (upd (upd (upd (upd Hb p9 (.lst [])) a1 (.lst [.int 0, .int 0])) t1 (.tup [.ref a1, .non])) a2 (.lst [.int 0, .int 0])) t2 (.tup [.ref a2, .int 1])) a3 (.tup [])) b3 (.lst [.int (n : Nat)])) t3 (.tup [.ref a3, .ref b3])) a4 (.lst [.int 0, .bl true])) b4 (.tup [])) t4 (.tup [.ref a4, .ref b4])) b5 (.lst [.int (-1)])) t5 (.tup [.str "0", .ref b5])) a6' (.lst [.int 0])) b6 (.lst [.int 0, .int (-1)])) t6 (.tup [.ref a6', .ref b6])) L (.lst [.ref t1, .ref t2, .ref t3, .ref t4, .ref t5, .ref t6])
    have ww : ∀ {q : Addr} {o : HO}, q ≠ p9 → Hs q = some o → wo p9 Hs q = some o := fun h e => by rw [wo_at h]; exact e
    have va1 := ww na1 (f1 _ _ upd_same)
    have vt1 := ww nt1 (g2 _ _ upd_same)
    have va2 := ww na2 (f2 _ _ upd_same)
    have vt2 := ww nt2 (k3 _ _ upd_same)
    have va3 := ww na3 (g3 _ _ upd_same)
    have vb3 := ww nb3 (f3 _ _ upd_same)
    have vt3 := ww nt3 (k4 _ _ upd_same)
    have va4 := ww na4 (g4 _ _ upd_same)
    have vb4 := ww nb4 (f4 _ _ upd_same)
    have vt4 := ww nt4 (g5 _ _ upd_same)
    have vb5 := ww nb5 (f5 _ _ upd_same)
    have vt5 := ww nt5 (k6 _ _ upd_same)
    have va6 := ww na6 (g6 _ _ upd_same)
    have vb6 := ww nb6 (f6 _ _ upd_same)
    have vt6 := ww nt6 (eL _ _ upd_same)
    have vL : Hs L = some (.lst [.ref t1, .ref t2, .ref t3, .ref t4, .ref t5, .ref t6]) := upd_same
    have v9 : Hs p9 = some (.lst []) := g1 _ _ upd_same
    have prs : Tab K C (wo p9 Hs) pr n (Mth.K Db A) := (prb.ex (by rw [← show wo p9 Hb = Hb from funext fun b => by unfold wo; split; (rename_i z; rw [z, hp9]); rfl]; exact (wo_new_any hp9).trans (wo_ex g1)))
    have ok0 := lotOk0 hn1
    have asks : At (fun i v H => Ask K n v (whereL.getD i 0) H) [.ref t1, .ref t2, .ref t3, .ref t4, .ref t5, .ref t6] (wo p9 Hs) := by
      intro i v hv
      match i, hv with
      | 0, hv => cases hv; exact ⟨t1, _, _, rfl, SqT.of vt1, .inl ⟨rfl, Bad.item (l := [0]) ok0 (SqL.of va1) (.inr (.inr ⟨0, rfl, hn1, List.mem_singleton_self _⟩))⟩⟩
      | 1, hv => cases hv; exact ⟨t2, _, _, rfl, SqT.of vt2, .inr ⟨(by intro z; cases z), .inl (Bad.item (l := [0]) ok0 (SqL.of va2) (.inr (.inr ⟨0, rfl, hn1, List.mem_singleton_self _⟩)))⟩⟩
      | 2, hv => cases hv; exact ⟨t3, _, _, rfl, SqT.of vt3, .inr ⟨(by intro z; cases z), .inr ⟨[], ⟨a3, rfl, .inr (SqT.of va3)⟩, lotOkN, Bad.item (l := []) lotOkN (SqL.of vb3) (.inr (.inl ⟨_, rfl, .inr (Int.le_refl _)⟩))⟩⟩⟩
      | 3, hv => cases hv; exact ⟨t4, _, _, rfl, SqT.of vt4, .inr ⟨(by intro z; cases z), .inl (Bad.item (l := [0]) ok0 (SqL.of va4) (.inl ⟨_, rfl⟩))⟩⟩
      | 4, hv => cases hv; exact ⟨t5, _, _, rfl, SqT.of vt5, .inr ⟨(by intro z; cases z), .inl (Bad.str _)⟩⟩
      | 5, hv => cases hv; exact ⟨t6, _, _, rfl, SqT.of vt6, .inr ⟨(by intro z; cases z), .inr ⟨[0], ⟨a6', rfl, .inl (SqL.of va6)⟩, ok0, Bad.item (l := [0]) ok0 (SqL.of vb6) (.inr (.inl ⟨_, rfl, .inl (by decide)⟩))⟩⟩⟩
      | i + 6, hv => cases hv
    refine ⟨L, rfl, ⟨_, SqL.of vL⟩, ?_⟩
    refine for_it (walk_list (xs := [.ref t1, .ref t2, .ref t3, .ref t4, .ref t5, .ref t6])) (Pv := fun i σ' H' => ∃ (a6 : Option V) (ys : List V), σ' = [some (.ref ps), some (.ref d), some (.int n), some t, some pr, a5, a6, a7, a8, some (.ref p9)] ∧ Ex (wo p9 Hs) (wo p9 H') ∧ H' p9 = some (.lst ys) ∧ ys.length = i ∧ At (fun i v H => ∃ q, v = .ref q ∧ SqT K H q [.str "lot", .int (whereL.getD i 0)]) ys (wo p9 H'))
      ⟨_, [], rfl, Evl.Ex.refl _, v9, rfl, At.nil⟩ (fun i σ H' _ h => ?_) ?_ ?_
    · obtain ⟨_, _, _, e, _⟩ := h
      exact SqL.of (wo_sub _ _ (e _ _ (ww nL vL)))
    · rintro i v σ' H' H2 hi ⟨a6, ys, rfl, e', h9, hl9, hy⟩ ⟨rfl, hv⟩
      obtain ⟨q, x, y, rfl, hq, hcase⟩ := (asks i v hv).ex (e'.trans wo_sub)
      have hi6 : i < 6 := hi
      refine ⟨_, rfl, lst_ty h9, _, rfl, _, rfl, q, _, 0, _, rfl, rfl, hq, rfl, _, rfl, q, _, 1, _, rfl, rfl, hq, rfl, ?_⟩
      refine ⟨pr, x, y, n, _, _, rfl, (prs.ex e').ex wo_sub, by omega, hcase, fun pz H'' e'' hz => ?_⟩
      have h9' := e'' _ _ h9
      have nz : pz ≠ p9 := fun z => by rw [z, h9'] at hz; cases hz
      have hW : wo p9 (upd H'' p9 (.lst (ys ++ [.ref pz]))) = wo p9 H'' := wo_same
      refine ⟨p9, ys, _, rfl, rfl, h9', lt_sz (by omega), _, ys ++ [.ref pz], rfl, ?_, upd_same, by rw [List.length_append, hl9]; rfl, ?_⟩
      · rw [hW]; exact e'.trans (wo_ex e'')
      · rw [hW]
        refine At.snoc (fun j w hw => ?_) ⟨pz, rfl, SqT.of ?_⟩
        · obtain ⟨q', rfl, hq'⟩ := hy j w hw
          exact ⟨q', rfl, Evl.ex_t (wo_ex e'') hq'⟩
        · rw [wo_at nz, hl9]; exact hz
    rintro σ' H' ⟨a6, ys, rfl, e', h9, hl9, hy⟩
    refine ⟨_, rfl, ?_⟩
    refine ⟨by show 2 ≤ sizeLine; decide, fun r1 hr1 => ⟨by show 2 ≤ sizeLine; decide, fun r2 hr2 => ⟨by show 2 ≤ sizeLine; decide, fun r3 hr3 => ⟨by show 2 ≤ sizeLine; decide, fun r4 hr4 => ⟨_, rfl, by show 2 ≤ sizeLine; decide, fun r5 hr5 => ⟨by show 2 ≤ sizeLine; decide, fun r6 hr6 => ⟨by show 6 ≤ sizeLine; decide, fun r7 hr7 => ?_⟩⟩⟩⟩⟩⟩⟩
    have y1 := Evl.Ex.new (o := .tup [.str "lot", .int 1]) hr1
    have y2 := Evl.Ex.new (o := .tup [.str "lot", .int 1]) hr2
    have y3 := Evl.Ex.new (o := .tup [.str "lot", .int 0]) hr3
    have y4 := Evl.Ex.new (o := .tup [.str "lot", .int 1]) hr4
    have y5 := Evl.Ex.new (o := .tup [.str "lot", .int (-1)]) hr5
    have y6 := Evl.Ex.new (o := .tup [.str "lot", .int 1]) hr6
    have y7 := Evl.Ex.new (o := .lst [.ref r1, .ref r2, .ref r3, .ref r4, .ref r5, .ref r6]) hr7
    have z6 := y6.trans y7
    have z5 := y5.trans z6
    have z4 := y4.trans z5
    have z3 := y3.trans z4
    have z2 := y2.trans z3
    have z1 := y1.trans z2
    have dA : DpAll K _ ys ((List.range 6).map dTold) := At.dpw (fun j w hw => by
      obtain ⟨q', rfl, hq'⟩ := hy j w hw
      exact ⟨q', rfl, Evl.ex_t (wo_sub.trans z1) hq'⟩) hl9
    have dT : ∀ {q : Addr} {z : Int} {H : Hp}, H q = some (.tup [.str "lot", .int z]) → Dp K H (.ref q) (.tuple [.str "lot", .int z]) := fun h => .tup (SqT.of h) (.cons (.str _) (.cons (.int _) .nil))
    refine ⟨.list ((List.range 6).map dTold), .list ((List.range 6).map dTold), .lst (SqL.of (z1 _ _ h9)) dA, .lst (SqL.of upd_same) ?_, by decide +kernel, by decide +kernel, ?_⟩
    · exact .cons (dT (z2 _ _ upd_same)) (.cons (dT (z3 _ _ upd_same)) (.cons (dT (z4 _ _ upd_same)) (.cons (dT (z5 _ _ upd_same)) (.cons (dT (z6 _ _ upd_same)) (.cons (dT (y7 _ _ upd_same)) .nil)))))
    · rw [SeqAt.eqv_refl _ (by decide +kernel)]
      exact kk _
end
end K18
end
section
set_option Elab.async false
set_option linter.all false
set_option maxRecDepth 100000
set_option maxHeartbeats 4000000
namespace K18
open PySem PySem.Spec PyProof.Rows L2
/-- all that the text's defs lean on -/
structure AllF (P : Program) (K : PySem.W.Frag) (mg : Str → Option Value) (C D0 p0 g0 fg fl : Addr) (fdg fdl : FuncData) : Prop where
  B : Bt mg
  W : TabW K C
  gT : mg "Table" = some (.ref C)
  gP : ∃ u, mg "MOST_PLACES" = some u ∧ RelV (.int 12) u
  gL : ∃ u, mg "MOST_LISTED" = some u ∧ RelV (.int 6) u
  Z : ∃ z, ZeroC K mg z
  Bl : BlW P K mg D0
  R : BlR K D0
  mb : mg "BadLot" = some (.ref D0)
  CR : ClX.CRead K C (.type "type")
  CM : ClX.CMet K C (.type "type") "coins" p0 g0
  cD : ClsD K C "coins" "Table.coins" 1 (.type "type") p0 g0
  hfi : ∀ f, Meth K C "__getitem__" f → PySem.W.fnIn K f = true
  mkD : MkD K mg C
  Dg : C8.Def K mg "rings_of" (top 46) fg fdg
  dfg : fdg.defaults = .none
  dl : C8.Def K mg "law" (top 88) fl fdl
  m5 : MD K C "moved" "Table.moved" 5
  m6 : MD K C "transposed" "Table.transposed" 6
  m8 : MD K C "__invert__" "Table.__invert__" 8
  m9 : MD K C "__add__" "Table.__add__" 9
  m11 : MD K C "__eq__" "Table.__eq__" 11
  m12 : MD K C "__getitem__" "Table.__getitem__" 12
  d10 : DD K mg "is_whole" 10
  d11 : DD K mg "lowest" 11
  d12 : DD K mg "frac_or_none" 12
  d13 : DD K mg "frac_named" 13
  d14 : DD K mg "plus" 14
  d15 : DD K mg "minus" 15
  d16 : DD K mg "times" 16
  d17 : DD K mg "sign_of" 17
  d18 : DD K mg "row_where" 18
  d19 : DD K mg "row_of" 19
  d23 : DD K mg "check_size" 23
  d24 : DD K mg "at_most_six" 24
  d25 : DD K mg "is_place" 25
  d26 : DD K mg "check_place" 26
  d27 : DD K mg "apart_lot" 27
  d28 : DD K mg "lot_of" 28
  d30 : DD K mg "joined" 30
  d31 : DD K mg "common" 31
  d32 : DD K mg "without" 32
  d34 : DD K mg "covariance" 34
  d35 : DD K mg "variance" 35
  d38 : DD K mg "table_rows" 38
  d39 : DD K mg "coin_rows" 39
  d40 : DD K mg "picked" 40
  d41 : DD K mg "turned_rows" 41
  d42 : DD K mg "beside_rows" 42
  d45 : DD K mg "has_link" 45
  d48 : DD K mg "crossing_ring" 48
  d49 : DD K mg "independent" 49
  d51 : DD K mg "blurred" 51
  d53 : DD K mg "_law_draws" 53
  d54 : DD K mg "_law_eat" 54
  d55 : DD K mg "_law_gcd" 55
  d56 : DD K mg "_law_low" 56
  d57 : DD K mg "_law_is" 57
  d58 : DD K mg "_law_add" 58
  d59 : DD K mg "_law_sub" 59
  d60 : DD K mg "_law_mul" 60
  d61 : DD K mg "_law_sum" 61
  d62 : DD K mg "_law_power" 62
  d63 : DD K mg "_law_places" 63
  d64 : DD K mg "_law_rest" 64
  d65 : DD K mg "_law_some" 65
  d66 : DD K mg "_law_det" 66
  d67 : DD K mg "_law_show" 67
  d68 : DD K mg "_law_chances" 68
  d69 : DD K mg "_law_rows" 69
  d70 : DD K mg "_law_size" 70
  d71 : DD K mg "_law_web" 71
  d72 : DD K mg "_law_sparse" 72
  d73 : DD K mg "_law_heavy" 73
  d74 : DD K mg "_law_dimmed" 74
  d75 : DD K mg "_law_free" 75
  d76 : DD K mg "_law_perm" 76
  d77 : DD K mg "_law_moved" 77
  d78 : DD K mg "_law_own" 78
  d79 : DD K mg "_law_plain" 79
  d80 : DD K mg "_law_turned" 80
  d81 : DD K mg "_law_across" 81
  d82 : DD K mg "_law_moment" 82
  d83 : DD K mg "_law_links" 83
  d84 : DD K mg "_law_asked" 84
  d85 : DD K mg "_law_next" 85
  d86 : DD K mg "_law_refused" 86
  d87 : DD K mg "_law_wide" 87
theorem all_law {P : Program} {w : World} {K : PySem.W.Frag} {mg : Str → Option Value} {base : Heap} {C D0 p0 g0 fg fl : Addr} {fdg fdl : FuncData} (F : AllF P K mg C D0 p0 g0 fg fl fdg fdl) : FnOk P w K mg base C8.CX0 12 fl fdl ["_law_script"] (spLaw K) := by
  obtain ⟨z, hZ⟩ := F.Z
  have c_law_draws : C8.Cal P w K mg base 1 "_law_draws" (spDraws K) [] := cal_draws (B := F.B) (D := F.d53)
  have c_law_eat : C8.Cal P w K mg base 1 "_law_eat" (spEat) [] := cal_eat (B := F.B) (D := F.d54)
  have c_law_size : C8.Cal P w K mg base 2 "_law_size" (spSize) [] := cal_size (D := F.d70) (c_l_eat := c_law_eat)
  have c_law_free : C8.Cal P w K mg base 2 "_law_free" (spFree) [] := cal_free (B := F.B) (D := F.d75) (c_l_eat := c_law_eat)
  have c_law_heavy : C8.Cal P w K mg base 2 "_law_heavy" (spHeavy) [] := cal_heavy (B := F.B) (D := F.d73) (c_l_eat := c_law_eat)
  have c_law_web : C8.Cal P w K mg base 2 "_law_web" (spWeb K) [] := cal_web (B := F.B) (D := F.d71) (c_l_eat := c_law_eat)
  have c_law_sparse : C8.Cal P w K mg base 3 "_law_sparse" (spSparse) [] := cal_sparse (B := F.B) (D := F.d72) (c_l_web := c_law_web) (c_l_eat := c_law_eat)
  have c_law_plain : C8.Cal P w K mg base 4 "_law_plain" (spPlain) [] := cal_plain (B := F.B) (D := F.d79) (c_l_heavy := c_law_heavy) (c_l_eat := c_law_eat) (c_l_sparse := c_law_sparse)
  have c_is_whole : C8.Cal P w K mg base 1 "is_whole" (spWhole K) [] := cal_whole (B := F.B) (D := F.d10)
  have c_lowest : C8.Cal P w K mg base 1 "lowest" (spLowest K) [] := cal_lowest (B := F.B) (D := F.d11)
  have c_frac_or_none : C8.Cal P w K mg base 2 "frac_or_none" (spFrn K) [] := cal_frn (B := F.B) (D := F.d12) (c_is_whole := c_is_whole) (c_lowest := c_lowest)
  have c_table_rows : C8.Cal P w K mg base 3 "table_rows" (spTabRows K) [] := cal_tabRows (B := F.B) (D := F.d38) (g_MOST_PLACES := F.gP) (c_frac_or_none := c_frac_or_none)
  have k_Table : C8.Mak P w K mg base 4 "Table" C (spInit K) [] := mak_init (W := F.W) (B := F.B) (D := F.mkD) (c_table_rows := c_table_rows)
  have c_law_gcd : C8.Cal P w K mg base 1 "_law_gcd" (spGcd) [] := cal_gcd (B := F.B) (D := F.d55)
  have c_law_low : C8.Cal P w K mg base 2 "_law_low" (spLow K) [] := cal_low (D := F.d56) (c_l_gcd := c_law_gcd)
  have c_law_rows : C8.Cal P w K mg base 3 "_law_rows" (spLRows K) [] := cal_lrows (D := F.d69) (c_l_low := c_law_low)
  have c_law_turned : C8.Cal P w K mg base 1 "_law_turned" (spLTurned) [] := cal_lturned (B := F.B) (D := F.d80)
  have c_turned_rows : C8.Cal P w K mg base 1 "turned_rows" (spTurnR K) [] := cal_turnR (B := F.B) (D := F.d41)
  have m_invert : C8.Met P w K mg base 6 C "__invert__" (spInv K C) [] := met_inv (W := F.W) (D := F.m8) (c_t___init := k_Table) (c_turned_rows := c_turned_rows)
  have c_law_across : C8.Cal P w K mg base 1 "_law_across" (spAcross) [] := cal_across (B := F.B) (D := F.d81)
  have m_transposed : C8.Met P w K mg base 6 C "transposed" (spTrans K C) [] := met_trans (W := F.W) (B := F.B) (D := F.m6) (c_t___init := k_Table)
  have c_law_perm : C8.Cal P w K mg base 2 "_law_perm" (spPerm) [] := cal_perm (B := F.B) (D := F.d76) (c_l_eat := c_law_eat)
  have c_law_moved : C8.Cal P w K mg base 1 "_law_moved" (spLMoved) [] := cal_lmoved (D := F.d77)
  have c_check_size : C8.Cal P w K mg base 2 "check_size" spChkSize [] := cal_chkSize (D := F.d23) (g_MOST_PLACES := F.gP) (c_is_whole := c_is_whole)
  have c_is_place : C8.Cal P w K mg base 2 "is_place" spIsPl [] := cal_isPl (D := F.d25) (c_is_whole := c_is_whole)
  have c_apart_lot : C8.Cal P w K mg base 3 "apart_lot" (spApart K) [] := cal_apart (B := F.B) (D := F.d27) (c_check_size := c_check_size) (c_is_place := c_is_place)
  have c_lot_of : C8.Cal P w K mg base 4 "lot_of" (spLot K) [] := cal_lot (D := F.d28) (c_apart_lot := c_apart_lot)
  have c_picked : C8.Cal P w K mg base 1 "picked" (spPicked K) [] := cal_picked (D := F.d40)
  have m_moved : C8.Met P w K mg base 6 C "moved" (spMoved K C) [] := met_moved (W := F.W) (B := F.B) (D := F.m5) (c_lot_of := c_lot_of) (c_t___init := k_Table) (c_picked := c_picked)
  have c_frac_named : C8.Cal P w K mg base 3 "frac_named" (spFnm K) [] := cal_fnm (D := F.d13) (c_frac_or_none := c_frac_or_none)
  have c_sign_of : C8.Cal P w K mg base 4 "sign_of" (spSign K) [] := cal_sign (B := F.B) (D := F.d17) (c_frac_named := c_frac_named)
  have c_row_where : C8.Cal P w K mg base 5 "row_where" (spRowW K) [] := cal_rowW (B := F.B) (D := F.d18) (c_frac_or_none := c_frac_or_none) (c_sign_of := c_sign_of)
  have c_row_of : C8.Cal P w K mg base 6 "row_of" (spRowOf K) [] := cal_rowOf (D := F.d19) (c_row_where := c_row_where)
  have c_blurred : C8.Cal P w K mg base 7 "blurred" (spBlur K C) [] := cal_blur (B := F.B) (D := F.d51) (c_row_of := c_row_of) (c_lowest := c_lowest) (c_t___init := k_Table) (W := F.W)
  have c_law_dimmed : C8.Cal P w K mg base 1 "_law_dimmed" (spDimmed) [] := cal_dimmed (B := F.B) (D := F.d74)
  have c_law_next : C8.Cal P w K mg base 8 "_law_next" (spNext K C) [] := cal_next (B := F.B) (D := F.d85) (c_l_eat := c_law_eat) (c_l_turned := c_law_turned) (c_t___invert := m_invert) (c_l_across := c_law_across) (c_t_transposed := m_transposed) (c_l_perm := c_law_perm) (c_l_moved := c_law_moved) (c_t_moved := m_moved) (c_blurred := c_blurred) (c_l_dimmed := c_law_dimmed)
  have c_law_power : C8.Cal P w K mg base 1 "_law_power" (spPow) [] := cal_lpow (B := F.B) (D := F.d62)
  have c_law_places : C8.Cal P w K mg base 2 "_law_places" (spPlaces K) [] := cal_places (B := F.B) (D := F.d63) (c_l_power := c_law_power)
  have c_law_det : C8.Cal P w K mg base 1 "_law_det" (spDet) [] := cal_det (B := F.B) (D := F.d66)
  have c_law_show : C8.Cal P w K mg base 3 "_law_show" (spShow K) [] := cal_show (B := F.B) (D := F.d67) (c_l_low := c_law_low) (c_l_det := c_law_det) (c_l_power := c_law_power)
  have c_law_rest : C8.Cal P w K mg base 1 "_law_rest" (spLRest K) [] := cal_lrest (B := F.B) (D := F.d64)
  have c_law_chances : C8.Cal P w K mg base 4 "_law_chances" (spChances K) [] := cal_chances (B := F.B) (D := F.d68) (c_l_power := c_law_power) (c_l_places := c_law_places) (c_l_show := c_law_show) (c_l_rest := c_law_rest)
  have c_law_some : C8.Cal P w K mg base 2 "_law_some" (spSome K) [] := cal_some (B := F.B) (D := F.d65) (c_l_eat := c_law_eat)
  have c_law_mul : C8.Cal P w K mg base 3 "_law_mul" (spBin (· * ·) K) [] := cal_lmul (D := F.d60) (c_l_low := c_law_low)
  have c_law_sub : C8.Cal P w K mg base 3 "_law_sub" (spBin (· - ·) K) [] := cal_lsub (D := F.d59) (c_l_low := c_law_low)
  have c_law_add : C8.Cal P w K mg base 3 "_law_add" (spBin (· + ·) K) [] := cal_ladd (D := F.d58) (c_l_low := c_law_low)
  have c_law_sum : C8.Cal P w K mg base 4 "_law_sum" (spLSum K) [] := cal_lsum (D := F.d61) (c_l_add := c_law_add)
  have c_law_moment : C8.Cal P w K mg base 5 "_law_moment" (spMoment K) [] := cal_moment (B := F.B) (D := F.d82) (c_l_places := c_law_places) (c_l_mul := c_law_mul) (c_l_sub := c_law_sub) (c_l_sum := c_law_sum)
  have c_minus : C8.Cal P w K mg base 4 "minus" (spBin (· - ·) K) [] := cal_minus (D := F.d15) (c_frac_named := c_frac_named) (c_lowest := c_lowest)
  have c_times : C8.Cal P w K mg base 4 "times" (spBin (· * ·) K) [] := cal_times (D := F.d16) (c_frac_named := c_frac_named) (c_lowest := c_lowest)
  have c_plus : C8.Cal P w K mg base 4 "plus" (spBin (· + ·) K) [] := cal_plus (D := F.d14) (c_frac_named := c_frac_named) (c_lowest := c_lowest)
  have c_covariance : C8.Cal P w K mg base 5 "covariance" (spCov K C) [] := cal_cov (D := F.d34) (c_lot_of := c_lot_of) (c_minus := c_minus) (c_times := c_times) (c_plus := c_plus) (W := F.W)
  have c_law_is : C8.Cal P w K mg base 2 "_law_is" (spIs K) [] := cal_is (B := F.B) (D := F.d57) (c_l_gcd := c_law_gcd)
  have c_variance : C8.Cal P w K mg base 6 "variance" (spVar K C) [] := cal_var (D := F.d35) (c_covariance := c_covariance)
  have c_at_most_six : C8.Cal P w K mg base 1 "at_most_six" spSix [] := cal_six (D := F.d24) (g_MOST_LISTED := F.gL)
  have c_without : C8.Cal P w K mg base 1 "without" (spWithout K) [] := cal_without (B := F.B) (D := F.d32)
  have c_joined : C8.Cal P w K mg base 2 "joined" (spJoined K) [] := cal_joined (B := F.B) (D := F.d30) (c_without := c_without)
  have c_common : C8.Cal P w K mg base 1 "common" (spCommon K) [] := cal_common (B := F.B) (D := F.d31)
  have c_has_link : C8.Cal P w K mg base 1 "has_link" (spLink K C) [] := cal_link (D := F.d45) (W := F.W)
  have g_rings : GenOk P w K mg base 5 fg fdg ["table", "lot"] (RW K) (spRings K C) := gen_rings F.W F.B F.Dg c_lot_of c_at_most_six c_has_link
  have c_crossing_ring : C8.Cal P w K mg base 8 "crossing_ring" (spCross K C) [] := cal_cross (D := F.d48) (c_lot_of := c_lot_of) (c_apart_lot := c_apart_lot) (c_at_most_six := c_at_most_six) (c_joined := c_joined) (c_common := c_common) (W := F.W) (Dg := F.Dg) (dfg := F.dfg) (Fg := g_rings)
  have c_independent : C8.Cal P w K mg base 9 "independent" (spIndep K C) [] := cal_indep (D := F.d49) (c_crossing_ring := c_crossing_ring)
  have c_law_own : C8.Cal P w K mg base 4 "_law_own" (spOwn K) [] := cal_own (B := F.B) (D := F.d78) (c_l_mul := c_law_mul) (c_l_low := c_law_low)
  have c_law_links : C8.Cal P w K mg base 1 "_law_links" (spLinks K) [] := cal_links (D := F.d83)
  have c_law_asked : C8.Cal P w K mg base 10 "_law_asked" (spAsked K C) [] := cal_asked (B := F.B) (D := F.d84) (c_l_some := c_law_some) (c_l_moment := c_law_moment) (c_covariance := c_covariance) (c_l_is := c_law_is) (c_variance := c_variance) (c_l_add := c_law_add) (c_independent := c_independent) (c_l_own := c_law_own) (c_l_links := c_law_links)
  have m_eq : C8.Met P w K mg base 1 C "__eq__" (spEq K C) [] := met_eq (W := F.W) (B := F.B) (D := F.m11) (gT := F.gT)
  have c_beside_rows : C8.Cal P w K mg base 1 "beside_rows" (spBeside K) [] := cal_beside (B := F.B) (D := F.d42) (g_MOST_PLACES := F.gP) (Z := hZ)
  have m_add : C8.Met P w K mg base 6 C "__add__" (spAdd K C) [] := met_add (W := F.W) (D := F.m9) (c_t___init := k_Table) (c_beside_rows := c_beside_rows)
  have c_check_place : C8.Cal P w K mg base 3 "check_place" spChkPl [] := cal_chkPl (D := F.d26) (c_is_place := c_is_place)
  have m_getitem : C8.Met P w K mg base 4 C "__getitem__" (spGet K C) [] := met_get (W := F.W) (D := F.m12) (c_check_place := c_check_place)
  have c_coin_rows : C8.Cal P w K mg base 1 "coin_rows" (spCoins K) [] := cal_coins (B := F.B) (D := F.d39) (Z := hZ)
  have r_coins : FnR P w K mg base C8.CX0 7 g0 (spClsCoins K C) := cls_clsCoins (W := F.W) (B := F.B) (D := F.cD) (g_MOST_PLACES := F.gP) (c_coin_rows := c_coin_rows) (c_row_of := c_row_of) (c_t___init := k_Table)
  have c_law_wide : C8.Cal P w K mg base 9 "_law_wide" (spWide K C) [] := cal_wide (B := F.B) (D := F.d87) (c_l_eat := c_law_eat) (c_t___add := m_add) (c_l_some := c_law_some) (c_covariance := c_covariance) (c_l_moment := c_law_moment) (c_t___getitem := m_getitem) (c_l_sum := c_law_sum) (c_l_mul := c_law_mul) (c_l_sub := c_law_sub) (c_variance := c_variance) (W := F.W) (gT := F.gT) (CR := F.CR) (CM := F.CM) (cF := r_coins) (hfi := F.hfi)
  have x_apart_lot : CalX P w K mg base 3 "apart_lot" (spApX K D0) := calx_apart (B := F.B) (D := F.d27) (c_check_size := c_check_size) (c_is_place := c_is_place) (Bl := F.Bl)
  have x_lot_of : CalX P w K mg base 4 "lot_of" (spLotX K D0) := calx_lot (D := F.d28) (c_apart_lot := x_apart_lot)
  have x_covariance : CalX P w K mg base 5 "covariance" (spCovX K C D0) := calx_cov (W := F.W) (D := F.d34) (c_lot_of := c_lot_of) (cx_lot_of := x_lot_of)
  have x_variance : CalX P w K mg base 6 "variance" (spVarX K C D0) := calx_var (D := F.d35) (cx_cov := x_covariance)
  have c_law_refused : C8.Cal P w K mg base 7 "_law_refused" (spRefused K C) [] := cal_refused (D := F.d86) (R := F.R) (mb := F.mb) (cx_var := x_variance) (cx_cov := x_covariance)
  exact fn_law (B := F.B) (D := F.dl) (c_l_draws := c_law_draws) (c_l_size := c_law_size) (c_l_eat := c_law_eat) (c_l_free := c_law_free) (c_l_plain := c_law_plain) (c_t___init := k_Table) (c_l_rows := c_law_rows) (c_l_next := c_law_next) (c_l_chances := c_law_chances) (c_l_asked := c_law_asked) (c_t___eq := m_eq) (c_l_wide := c_law_wide) (c_l_refused := c_law_refused) (W := F.W)
section
variable {h : Heap} {K : PySem.W.Frag} {mg : Str → Option Value}
theorem k_dd (X : K.In h) (G : h.Ns mainGlobals mg) (c : obsK K = valK) {i j l : Nat} {x : Str} (hd : fnL[j]? = some (dT x i)) (hg : faL[l]? = some (.glo x)) : ∃ fd, C8.Def K mg x (top i) (He.ga K x) fd ∧ fd.defaults = .none := by
  obtain ⟨fd, F⟩ := sk_def c hd
  obtain ⟨F8, df⟩ := fun8 (x := x) (qual := x) (st := top i) F
  exact ⟨fd, ⟨F8, He.glo_ok X G (sk_fa c hg), F.kp⟩, df⟩
theorem k_d (X : K.In h) (G : h.Ns mainGlobals mg) (c : obsK K = valK) {i j l : Nat} {x : Str} (hd : fnL[j]? = some (dT x i)) (hg : faL[l]? = some (.glo x)) : DD K mg x i :=
  let ⟨fd, D, df⟩ := k_dd X G c hd hg
  ⟨_, fd, D, df⟩
theorem k_md (c : obsK K = valK) {i j l q' : Nat} {m q : Str} (hd : fnL[j]? = some (dM m q i)) (hg : faL[l]? = some (.meth "Table" m)) (hc : faL[q']? = some (.cls "Table")) : MD K (tC_ K) m q i := by
  obtain ⟨fd, F⟩ := sk_def c hd
  obtain ⟨F8, df⟩ := fun8 (x := m) (qual := q) (st := mS i) F
  obtain ⟨h1, h2, h3, h4⟩ := He.cls_ok (sk_fa c hc)
  exact ⟨_, fd, ⟨h1, h2, h3, h4⟩, He.meth_ok (sk_fa c hg), F8, df⟩
theorem k_coD (c : obsK K = valK) : ClX.CMet K (tC_ K) (.type "type") "coins" (coP K) (coG K) ∧ ClsD K (tC_ K) "coins" "Table.coins" 1 (.type "type") (coP K) (coG K) := by
  have h0 : coB K = true := sk_ex c (i := 0) rfl
  have h1 : cfB K = true := sk_ex c (i := 1) rfl
  have e7 : fn7 K (coG K) = val7 "coins" "Table.coins" (mS 1) := congrArg (fun z : AlK => z.2.2.1) c
  obtain ⟨hr, h0⟩ := He.ba h0
  obtain ⟨hf, h0⟩ := He.ba h0
  have hrec : ∃ rest, PySem.W.recIn K (coP K) "classmethod" = some (.ref (coG K) :: rest) := by
    have hr' := hr
    unfold coG
    cases q : PySem.W.recIn K (coP K) "classmethod" with
    | none => rw [q] at hr'; cases hr'
    | some l =>
      rw [q] at hr'
      cases l with
      | nil => cases hr'
      | cons v r =>
        cases v with
        | ref a => exact ⟨r, rfl⟩
        | _ => cases hr'
  refine ⟨⟨?_, hrec, hf⟩, ?_⟩
  · unfold cfB at h1
    split at h1
    · rename_i g p c' e
      obtain ⟨e1, h1⟩ := He.ba h1
      obtain ⟨e2, e3⟩ := He.ba h1
      have e1 := of_decide_eq_true e1
      have e2 := of_decide_eq_true e2
      have e3 := of_decide_eq_true e3
      subst e1 e2 e3
      exact e
    · cases h1
  · obtain ⟨oc, od, fd, osl, lk, efd⟩ := fn7_ok e7
    rw [lk] at h0
    obtain ⟨hcd, h0⟩ := He.ba (show (PySem.W.codeIn K fd.code "Table.coins" && (fd.closure.isEmpty && isNon fd.defaults)) = true from h0)
    obtain ⟨hcl, hdf⟩ := He.ba h0
    have hcl' : fd.closure = [] := List.isEmpty_iff.mp hcl
    refine ⟨fd, ⟨oc, od, fd.defaults, fd.kwdefaults, fd.doc, fd.pyModule, fd.annotations, fd.code, fd.closureTuple, osl, ?_, lk, hcd⟩, isNon_ok hdf⟩
    rw [efd, hcl']
theorem k_bl {P : Program} (hP : ((P.main.file : Str) == ("/claim/cut.py" : Str)) = true) (hT : (P.main.scope.names.lookup ("super" : Str)).isSome = false) (X : K.In h) (G : h.Ns mainGlobals mg) (c : obsK K = valK) (mb : mg "BadLot" = some (.ref (tD_ K))) (sn : mg "super" = none) : BlW P K mg (tD_ K) := by
  have h2 : blB K = true := sk_ex c (i := 2) rfl
  have h3 : oexB K (tD_ K) = true := sk_ex c (i := 3) rfl
  have e7 : fn7 K (blA K) = val7 "__init__" "BadLot.__init__" blInit := congrArg (fun z : AlK => z.2.2.2) c
  obtain ⟨oc, od, fd, osl, lk, efd⟩ := fn7_ok e7
  unfold blB at h2
  rw [lk] at h2
  obtain ⟨hcd, h2⟩ := He.ba (show (PySem.W.codeIn K fd.code "BadLot.__init__" && (clB K (tD_ K) fd.closure && (isNon fd.defaults && filB K fd.code))) = true from h2)
  obtain ⟨hcl, h2⟩ := He.ba h2
  obtain ⟨hdf, hfl⟩ := He.ba h2
  have hdf := isNon_ok hdf
  have hclo : ∃ cc, fd.closure = [(("__class__" : Str), cc)] ∧ celB K cc (tD_ K) = true := by
    cases q : fd.closure with
    | nil => rw [q] at hcl; cases hcl
    | cons a r =>
      obtain ⟨x, cc⟩ := a
      rw [q] at hcl
      cases r with
      | nil =>
        obtain ⟨ex, hc⟩ := He.ba (show (decide (x = ("__class__" : Str)) && celB K cc (tD_ K)) = true from hcl)
        have ex := of_decide_eq_true ex
        subst ex
        exact ⟨cc, rfl, hc⟩
      | cons b r => cases hcl
  obtain ⟨cc, hcc, hcel⟩ := hclo
  have hcell : ∃ cl cld csl, K.lookup cc = some ⟨cl, cld, .cell (some (.ref (tD_ K))), csl⟩ := by
    unfold celB at hcel
    split at hcel
    · rename_i a1 a2 d a3 e
      have ed := of_decide_eq_true hcel
      rw [← ed]
      exact ⟨_, _, _, e⟩
    · cases hcel
  obtain ⟨cl, cld, csl, hcell⟩ := hcell
  have hcode : ∃ (cda : Addr) (ccl : Value) (cdd : Option Addr) (ccs : Array (Option Value)) (vs : Array Value) (tf : Tok), fd.code = .ref cda ∧ K.lookup cda = some ⟨ccl, cdd, .fields vs, ccs⟩ ∧ vs[2]? = some (.str ("/claim/cut.py" : Str) tf) := by
    unfold filB at hfl
    split at hfl
    · rename_i cda e
      split at hfl
      · rename_i a1 a2 vs a3 e2
        split at hfl
        · rename_i file tf e3
          have ef := of_decide_eq_true hfl
          subst ef
          exact ⟨cda, _, _, _, vs, tf, e, e2, e3⟩
        · cases hfl
      · cases hfl
    · cases hfl
  obtain ⟨cda, ccl, cdd, ccs, vs, tf, hcda, lkc, hvs⟩ := hcode
  have hfn : PySem.W.findIn K (.ref (tD_ K)) "__init__" = some (some (.ref (blA K))) := He.eqO_ok (sk_ex c (i := 28) rfl)
  have hoex : OexC K (tD_ K) := by
    refine ⟨?_, He.eqO_ok (sk_ex c (i := 15) rfl), of_decide_eq_true (sk_ex c (i := 16) rfl), of_decide_eq_true (sk_ex c (i := 17) rfl), sk_ex c (i := 18) rfl⟩
    unfold oexB at h3
    split at h3
    · rename_i dd cd sl ho
      split at h3
      · rename_i C' bm k0 k1 k2 k3 n k5 hm hs
        obtain ⟨e1, h3⟩ := He.ba h3
        obtain ⟨e2, h3⟩ := He.ba h3
        obtain ⟨hdl0, h3⟩ := He.ba h3
        obtain ⟨hhd, hbm⟩ := He.ba h3
        have e1 := of_decide_eq_true e1
        have e2 := of_decide_eq_true e2
        have hdel : cd.hasDel = false := by simpa using hdl0
        clear hdl0
        obtain ⟨nm, bs, mro, ns, qn, hd, sn, sub, ab, col, del⟩ := cd
        dsimp only at hm hdel hhd
        subst hm hdel hhd e2
        have hsl : sl = #[k0, k1, k2, k3, some (.builtin "ValueError.__new__"), k5] := by
          obtain ⟨l⟩ := sl
          simp only at hs
          rw [hs]
        subst hsl
        rw [e1] at ho
        exact ⟨nm, qn, ns, bs, bm, sn, sub, ab, col, dd, k0, k1, k2, k3, k5, ho, hbm⟩
      · cases h3
    · cases h3
  have hfd : fd = PySem.W.ksFn "__init__" "BadLot.__init__" (C8.fnArgs blInit) (C8.fnBody blInit) (C8.fnScope blInit) fd.defaults fd.kwdefaults fd.doc fd.pyModule fd.annotations (.ref cda) fd.closureTuple cc := by
    rw [efd, hcc, hcda]
  refine ⟨⟨blA K, fd, ⟨⟨oc, od, osl, fd.defaults, fd.kwdefaults, fd.doc, fd.pyModule, fd.annotations, fd.closureTuple, cc, cda, ccl, cl, cdd, cld, ccs, csl, vs, "/claim/cut.py", tf, hfd, lk, by rw [← hcda]; exact hcd, lkc, hvs, hP, hcell⟩, hoex, He.eqO_ok (sk_ex c (i := 19) rfl), of_decide_eq_true (sk_ex c (i := 20) rfl), of_decide_eq_true (sk_ex c (i := 21) rfl), He.eqO_ok (sk_ex c (i := 22) rfl), He.eqO_ok (sk_ex c (i := 23) rfl), sn, hT⟩, hfn, of_decide_eq_true (sk_ex c (i := 29) rfl), ?_⟩, mb⟩
  refine .all fun us hl => ?_
  rw [hfd, hdf]
  match us, hl with
  | [_, _], _ => rfl
theorem k_blr (c : obsK K = valK) : BlR K (tD_ K) :=
  ⟨He.eqO_ok (sk_ex c (i := 24) rfl), He.eqO_ok (sk_ex c (i := 25) rfl), He.eqO_ok (sk_ex c (i := 23) rfl), of_decide_eq_true (sk_ex c (i := 16) rfl), sk_ex c (i := 26) rfl, of_decide_eq_true (sk_ex c (i := 27) rfl)⟩
theorem k_cls (c : obsK K = valK) : Cls K (tC_ K) := by
  obtain ⟨h1, h2, h3, h4⟩ := He.cls_ok (sk_fa (f := .cls "Table") c (i := 19) rfl)
  exact ⟨h1, h2, h3, h4⟩
theorem k_tab (c : obsK K = valK) : TabW K (tC_ K) :=
  ⟨⟨⟨k_cls c, He.eqO_ok (sk_ex c (i := 4) rfl), He.eqO_ok (sk_ex c (i := 5) rfl), of_decide_eq_true (sk_ex c (i := 6) rfl), of_decide_eq_true (sk_ex c (i := 7) rfl), of_decide_eq_true (sk_ex c (i := 8) rfl)⟩, sk_ex c (i := 9) rfl, He.eqO_ok (sk_ex c (i := 10) rfl)⟩,
    He.noat_ok (sk_fa (f := .noat "Table" "rows") c (i := 20) rfl), He.noat_ok (sk_fa (f := .noat "Table" "size") c (i := 21) rfl)⟩
theorem all_of {P : Program} (hP : ((P.main.file : Str) == ("/claim/cut.py" : Str)) = true) (hT : (P.main.scope.names.lookup ("super" : Str)).isSome = false) (X : K.In h) (G : h.Ns mainGlobals mg) (c : obsK K = valK) :
    ∃ fdg fdl, fdl.defaults = .none ∧ AllF P K mg (tC_ K) (tD_ K) (coP K) (coG K) (He.ga K "rings_of") (He.ga K "law") fdg fdl := by
  obtain ⟨fdg, Dg, dfg⟩ := k_dd (x := "rings_of") (i := 46) X G c (j := 28) (l := 57) rfl rfl
  obtain ⟨fdl, Dl, dfl⟩ := k_dd (x := "law") (i := 88) X G c (j := 67) (l := 96) rfl rfl
  have gT : mg "Table" = some (.ref (tC_ K)) := He.glo_ok X G (sk_fa (f := .glo "Table") c (i := 14) rfl)
  have gB : mg "BadLot" = some (.ref (tD_ K)) := He.glo_ok X G (sk_fa (f := .glo "BadLot") c (i := 15) rfl)
  have gZ : mg "ZERO" = some (.ref (He.ga K "ZERO")) := He.glo_ok X G (sk_fa (f := .glo "ZERO") c (i := 16) rfl)
  have gS : mg "super" = none := He.free_ok X G (sk_fa (f := .free "super") c (i := 13) rfl)
  obtain ⟨t1, g1⟩ := He.int_ok (x := "MOST_PLACES") (i := 12) X G (sk_fa c (i := 17) rfl)
  obtain ⟨t2, g2⟩ := He.int_ok (x := "MOST_LISTED") (i := 6) X G (sk_fa c (i := 18) rfl)
  refine ⟨fdg, fdl, dfl, {
    B := ⟨He.free_ok X G (sk_fa (f := .free "abs") c (i := 0) rfl), He.free_ok X G (sk_fa (f := .free "bool") c (i := 1) rfl), He.free_ok X G (sk_fa (f := .free "enumerate") c (i := 2) rfl), He.free_ok X G (sk_fa (f := .free "int") c (i := 3) rfl), He.free_ok X G (sk_fa (f := .free "isinstance") c (i := 4) rfl), He.free_ok X G (sk_fa (f := .free "len") c (i := 5) rfl), He.free_ok X G (sk_fa (f := .free "list") c (i := 6) rfl), He.free_ok X G (sk_fa (f := .free "max") c (i := 7) rfl), He.free_ok X G (sk_fa (f := .free "min") c (i := 8) rfl), He.free_ok X G (sk_fa (f := .free "range") c (i := 9) rfl), He.free_ok X G (sk_fa (f := .free "sorted") c (i := 10) rfl), He.free_ok X G (sk_fa (f := .free "sum") c (i := 11) rfl), He.free_ok X G (sk_fa (f := .free "tuple") c (i := 12) rfl)⟩
    W := k_tab c
    gT := gT
    gP := ⟨_, g1, ⟨t1, rfl⟩⟩
    gL := ⟨_, g2, ⟨t2, rfl⟩⟩
    Z := ⟨He.ga K "ZERO", ⟨⟨_, gZ, rfl⟩, fun H => He.tupB_ok (x := "ZERO") (vs := [.int 0, .int 1]) (sk_ex c (i := 14) rfl) H⟩⟩
    Bl := k_bl hP hT X G c gB gS
    R := k_blr c
    mb := gB
    CR := ⟨sk_ex c (i := 12) rfl, He.eqO_ok (sk_ex c (i := 13) rfl)⟩
    CM := (k_coD c).1
    cD := (k_coD c).2
    hfi := fun f m => by
      have e : He.ma K (tC_ K) "__getitem__" = f := by
        unfold He.ma
        rw [m.at_]
      rw [← e]
      exact sk_ex c (i := 11) rfl
    Dg := Dg
    dfg := dfg
    dl := Dl
    mkD := by
      obtain ⟨fd, F⟩ := sk_def c (i := 68) (d := dM "__init__" "Table.__init__" 0) rfl
      obtain ⟨F8, df⟩ := fun8 (x := "__init__") (qual := "Table.__init__") (st := mS 0) F
      exact ⟨_, fd, He.mkr_ok (sk_fa (f := .mkr "Table") c (i := 22) rfl), gT, F8, df⟩
    m5 := k_md (m := "moved") (q := "Table.moved") (i := 5) c (j := 69) (l := 23) (q' := 19) rfl rfl rfl
    m6 := k_md (m := "transposed") (q := "Table.transposed") (i := 6) c (j := 70) (l := 24) (q' := 19) rfl rfl rfl
    m8 := k_md (m := "__invert__") (q := "Table.__invert__") (i := 8) c (j := 71) (l := 25) (q' := 19) rfl rfl rfl
    m9 := k_md (m := "__add__") (q := "Table.__add__") (i := 9) c (j := 72) (l := 26) (q' := 19) rfl rfl rfl
    m11 := k_md (m := "__eq__") (q := "Table.__eq__") (i := 11) c (j := 73) (l := 27) (q' := 19) rfl rfl rfl
    m12 := k_md (m := "__getitem__") (q := "Table.__getitem__") (i := 12) c (j := 74) (l := 28) (q' := 19) rfl rfl rfl
    d10 := k_d (x := "is_whole") (i := 10) X G c (j := 0) (l := 29) rfl rfl
    d11 := k_d (x := "lowest") (i := 11) X G c (j := 1) (l := 30) rfl rfl
    d12 := k_d (x := "frac_or_none") (i := 12) X G c (j := 2) (l := 31) rfl rfl
    d13 := k_d (x := "frac_named") (i := 13) X G c (j := 3) (l := 32) rfl rfl
    d14 := k_d (x := "plus") (i := 14) X G c (j := 4) (l := 33) rfl rfl
    d15 := k_d (x := "minus") (i := 15) X G c (j := 5) (l := 34) rfl rfl
    d16 := k_d (x := "times") (i := 16) X G c (j := 6) (l := 35) rfl rfl
    d17 := k_d (x := "sign_of") (i := 17) X G c (j := 7) (l := 36) rfl rfl
    d18 := k_d (x := "row_where") (i := 18) X G c (j := 8) (l := 37) rfl rfl
    d19 := k_d (x := "row_of") (i := 19) X G c (j := 9) (l := 38) rfl rfl
    d23 := k_d (x := "check_size") (i := 23) X G c (j := 10) (l := 39) rfl rfl
    d24 := k_d (x := "at_most_six") (i := 24) X G c (j := 11) (l := 40) rfl rfl
    d25 := k_d (x := "is_place") (i := 25) X G c (j := 12) (l := 41) rfl rfl
    d26 := k_d (x := "check_place") (i := 26) X G c (j := 13) (l := 42) rfl rfl
    d27 := k_d (x := "apart_lot") (i := 27) X G c (j := 14) (l := 43) rfl rfl
    d28 := k_d (x := "lot_of") (i := 28) X G c (j := 15) (l := 44) rfl rfl
    d30 := k_d (x := "joined") (i := 30) X G c (j := 17) (l := 46) rfl rfl
    d31 := k_d (x := "common") (i := 31) X G c (j := 18) (l := 47) rfl rfl
    d32 := k_d (x := "without") (i := 32) X G c (j := 19) (l := 48) rfl rfl
    d34 := k_d (x := "covariance") (i := 34) X G c (j := 20) (l := 49) rfl rfl
    d35 := k_d (x := "variance") (i := 35) X G c (j := 21) (l := 50) rfl rfl
    d38 := k_d (x := "table_rows") (i := 38) X G c (j := 22) (l := 51) rfl rfl
    d39 := k_d (x := "coin_rows") (i := 39) X G c (j := 23) (l := 52) rfl rfl
    d40 := k_d (x := "picked") (i := 40) X G c (j := 24) (l := 53) rfl rfl
    d41 := k_d (x := "turned_rows") (i := 41) X G c (j := 25) (l := 54) rfl rfl
    d42 := k_d (x := "beside_rows") (i := 42) X G c (j := 26) (l := 55) rfl rfl
    d45 := k_d (x := "has_link") (i := 45) X G c (j := 27) (l := 56) rfl rfl
    d48 := k_d (x := "crossing_ring") (i := 48) X G c (j := 29) (l := 58) rfl rfl
    d49 := k_d (x := "independent") (i := 49) X G c (j := 30) (l := 59) rfl rfl
    d51 := k_d (x := "blurred") (i := 51) X G c (j := 31) (l := 60) rfl rfl
    d53 := k_d (x := "_law_draws") (i := 53) X G c (j := 32) (l := 61) rfl rfl
    d54 := k_d (x := "_law_eat") (i := 54) X G c (j := 33) (l := 62) rfl rfl
    d55 := k_d (x := "_law_gcd") (i := 55) X G c (j := 34) (l := 63) rfl rfl
    d56 := k_d (x := "_law_low") (i := 56) X G c (j := 35) (l := 64) rfl rfl
    d57 := k_d (x := "_law_is") (i := 57) X G c (j := 36) (l := 65) rfl rfl
    d58 := k_d (x := "_law_add") (i := 58) X G c (j := 37) (l := 66) rfl rfl
    d59 := k_d (x := "_law_sub") (i := 59) X G c (j := 38) (l := 67) rfl rfl
    d60 := k_d (x := "_law_mul") (i := 60) X G c (j := 39) (l := 68) rfl rfl
    d61 := k_d (x := "_law_sum") (i := 61) X G c (j := 40) (l := 69) rfl rfl
    d62 := k_d (x := "_law_power") (i := 62) X G c (j := 41) (l := 70) rfl rfl
    d63 := k_d (x := "_law_places") (i := 63) X G c (j := 42) (l := 71) rfl rfl
    d64 := k_d (x := "_law_rest") (i := 64) X G c (j := 43) (l := 72) rfl rfl
    d65 := k_d (x := "_law_some") (i := 65) X G c (j := 44) (l := 73) rfl rfl
    d66 := k_d (x := "_law_det") (i := 66) X G c (j := 45) (l := 74) rfl rfl
    d67 := k_d (x := "_law_show") (i := 67) X G c (j := 46) (l := 75) rfl rfl
    d68 := k_d (x := "_law_chances") (i := 68) X G c (j := 47) (l := 76) rfl rfl
    d69 := k_d (x := "_law_rows") (i := 69) X G c (j := 48) (l := 77) rfl rfl
    d70 := k_d (x := "_law_size") (i := 70) X G c (j := 49) (l := 78) rfl rfl
    d71 := k_d (x := "_law_web") (i := 71) X G c (j := 50) (l := 79) rfl rfl
    d72 := k_d (x := "_law_sparse") (i := 72) X G c (j := 51) (l := 80) rfl rfl
    d73 := k_d (x := "_law_heavy") (i := 73) X G c (j := 52) (l := 81) rfl rfl
    d74 := k_d (x := "_law_dimmed") (i := 74) X G c (j := 53) (l := 82) rfl rfl
    d75 := k_d (x := "_law_free") (i := 75) X G c (j := 54) (l := 83) rfl rfl
    d76 := k_d (x := "_law_perm") (i := 76) X G c (j := 55) (l := 84) rfl rfl
    d77 := k_d (x := "_law_moved") (i := 77) X G c (j := 56) (l := 85) rfl rfl
    d78 := k_d (x := "_law_own") (i := 78) X G c (j := 57) (l := 86) rfl rfl
    d79 := k_d (x := "_law_plain") (i := 79) X G c (j := 58) (l := 87) rfl rfl
    d80 := k_d (x := "_law_turned") (i := 80) X G c (j := 59) (l := 88) rfl rfl
    d81 := k_d (x := "_law_across") (i := 81) X G c (j := 60) (l := 89) rfl rfl
    d82 := k_d (x := "_law_moment") (i := 82) X G c (j := 61) (l := 90) rfl rfl
    d83 := k_d (x := "_law_links") (i := 83) X G c (j := 62) (l := 91) rfl rfl
    d84 := k_d (x := "_law_asked") (i := 84) X G c (j := 63) (l := 92) rfl rfl
    d85 := k_d (x := "_law_next") (i := 85) X G c (j := 64) (l := 93) rfl rfl
    d86 := k_d (x := "_law_refused") (i := 86) X G c (j := 65) (l := 94) rfl rfl
    d87 := k_d (x := "_law_wide") (i := 87) X G c (j := 66) (l := 95) rfl rfl
  }⟩
end
end K18
end
section
set_option Elab.async false
set_option linter.all false
set_option maxRecDepth 100000
set_option maxHeartbeats 0
namespace K18
open PySem PySem.Spec PyProof.Rows L2
theorem facts {w : World} {K : PySem.W.Frag} {h : Heap} {mg : Str → Option Value} {f : Addr} (X : K.In h) (G : h.Ns mainGlobals mg) (hfa : mg ("law" : Str) = some (.ref f)) (c : obsK K = valK) :
    ∃ fd : FuncData, (∀ (s : Shared) (v : Value), BindsTo s fd ⟨[v], []⟩ [("_law_script", v)]) ∧ ∀ base : Heap, K.In base → base.Ns mainGlobals mg → FnOk (PySem.Challenge.rw_spreadlots_k18_whole_numbers_of_two_side).prog w K mg base C8.CX0 12 f fd ["_law_script"] (spLaw K) := by
  obtain ⟨fdg, fdl, dfl, F⟩ := all_of (P := (PySem.Challenge.rw_spreadlots_k18_whole_numbers_of_two_side).prog) (by decide +kernel) (by decide +kernel) X G c
  have e := hfa.symm.trans F.dl.mgf
  cases e
  refine ⟨fdl, fun s v => ?_, fun base _ _ => all_law F⟩
  obtain ⟨oc, od, dV, kV, doc, pm, an, cdv, ct, osl, e1, lk, hcd⟩ := F.dl.fn.ex
  subst e1
  have e2 : dV = .none := dfl
  subst e2
  exact .of_eq rfl
end K18
open PySem PySem.W PySem.Calls PyProof.Rows
set_option maxRecDepth 100000 in
set_option maxHeartbeats 0 in
theorem PySem.Challenge.cw_spreadlots_k18_whole_numbers_of_two_side_holds : PySem.Challenge.rw_spreadlots_k18_whole_numbers_of_two_side.Holds := by
  w_on; o_law
  refine HandSHeadRun.head_any (r := OpenLaw.row PySem.Challenge.rw_spreadlots_k18_whole_numbers_of_two_side) (q := view (OpenLaw.row PySem.Challenge.rw_spreadlots_k18_whole_numbers_of_two_side).prog [88]) (H := K18.hookK 5) (ob := K18.ob) (M := 8000) (loose := K18.names) (d := HandSHeadRun.topDef (OpenLaw.row PySem.Challenge.rw_spreadlots_k18_whole_numbers_of_two_side).prog 88) (kwd := []) K18.ob_eq
    (by kernel_rfl) (fun s => by kernel_rfl) K18.run (by kernel_rfl) (by kernel_rfl) (by kernel_rfl) (by rfl) (by first | assumption | decide +kernel) (by decide +kernel) ⟨rfl, rfl, rfl, rfl, rfl, by decide +kernel⟩ ?hw ?hc
  case hw => w_witness2
  case hc =>
    refine L2.walk_ofE (l := PySem.Challenge.rw_spreadlots_k18_whole_numbers_of_two_side) (n := 63) (k := 12) (x := "_law_script") (CX := C8.CX0) rfl (by decide) (by kernel_rfl) ⟨rfl, by decide, by decide⟩ ?F (fun _ _ _ _ z => z)
    intro w mg fa h Y G hmg0
    obtain ⟨K, KX, c⟩ := Y
    have hmg : mg ("law" : PySem.Str) = some (.ref fa) := by
      have e : (HandSHeadRun.topDef (OpenLaw.row PySem.Challenge.rw_spreadlots_k18_whole_numbers_of_two_side).prog 88).name = ("law" : PySem.Str) := by kernel_rfl
      rw [← e]
      exact hmg0
    obtain ⟨fd, hb, hF⟩ := K18.facts (w := w) KX G hmg c
    exact ⟨K, fd, K18.spLaw K, KX, hb, fun H a ns hl _ hS => ⟨a, ns, rfl, hS, fun _ => rfl⟩, hF⟩
end
