import PyProof.Rows.All
import Wide.All
import OpenK.AllK
import Wide.FinOn
import HandS.ForMost
import HandS.ForExc
import HandS.IsInst
import HandS.Zip
import HandS.Wide
import HandS.TupAny
import HandS.TupMul
import HandS.More
import HandS.Defaults
import PySem.Challenge.RW_firstdecides_k69_whole_weights_or_counte
import PyProof.Draws
import KE.GoesMore
import KE.GoesEnum
import KE.GoesZip
import PyProof.ReprRoads
import PyProof.ReprLen
import PyProof.CallFns
import HandS.Zip0
import PyProof.MinMaxWalk
import PyProof.WalksMore
import HandS.ExcInit
import HandS.WordsExc
import HandS.HotCalls
import HandS.Lambda
import HandS.ExcField
import HandS.Style
import HandS.EndTab
set_option Elab.async false
set_option linter.all false
set_option maxRecDepth 100000
set_option maxHeartbeats 4000000
/-! ## KDet -/
namespace K69
def sumN : Nat → (Nat → Int) → Int
  | 0, _ => 0
  | n + 1, f => sumN n f + f n
theorem sumN_congr {n : Nat} {f g : Nat → Int} (h : ∀ k, k < n → f k = g k) : sumN n f = sumN n g := by
  induction n with
  | zero => rfl
  | succ n ih => rw [sumN, sumN, ih (fun k hk => h k (by omega)), h n (by omega)]
theorem sumN_lin (n : Nat) (a b : Int) (f g : Nat → Int) : sumN n (fun k => a * f k + b * g k) = a * sumN n f + b * sumN n g := by
  induction n with
  | zero => simp [sumN]
  | succ n ih => rw [sumN, sumN, sumN, ih]; grind
theorem sumN_zero {n : Nat} {f : Nat → Int} (h : ∀ k, k < n → f k = 0) : sumN n f = 0 := by
  induction n with
  | zero => rfl
  | succ n ih => rw [sumN, ih (fun k hk => h k (by omega)), h n (by omega)]; rfl
/-- all terms but one vanish -/
theorem sumN_one {n p : Nat} {f : Nat → Int} (hp : p < n) (h : ∀ k, k < n → k ≠ p → f k = 0) : sumN n f = f p := by
  induction n with
  | zero => omega
  | succ n ih =>
    rw [sumN]
    by_cases e : p = n
    · subst e
      rw [sumN_zero (fun k hk => h k (by omega) (by omega))]; omega
    · rw [ih (by omega) (fun k hk => h k (by omega)), h n (by omega) (fun q => e q.symm)]; omega
/-- all terms but two vanish -/
theorem sumN_two {n p q : Nat} {f : Nat → Int} (hp : p < n) (hq : q < n) (hpq : p ≠ q) (h : ∀ k, k < n → k ≠ p → k ≠ q → f k = 0) : sumN n f = f p + f q := by
  induction n with
  | zero => omega
  | succ n ih =>
    rw [sumN]
    by_cases e : p = n
    · subst e
      rw [sumN_one (p := q) (by omega) (fun k hk hk2 => h k (by omega) (by omega) hk2)]; omega
    · by_cases e2 : q = n
      · subst e2
        rw [sumN_one (p := p) (by omega) (fun k hk hk2 => h k (by omega) hk2 (by omega))]
      · rw [ih (by omega) (by omega) (fun k hk => h k (by omega)), h n (by omega) (fun q => e q.symm) (fun z => e2 z.symm)]; omega
theorem sumN_le {n : Nat} {f : Nat → Int} (h : ∀ k, k < n → f k ≤ 0) : sumN n f ≤ 0 := by
  induction n with
  | zero => exact Int.le_refl 0
  | succ n ih => rw [sumN]; have := ih (fun k hk => h k (by omega)); have := h n (by omega); omega
theorem sumN_swap (n m : Nat) (f : Nat → Nat → Int) : sumN n (fun i => sumN m (fun j => f i j)) = sumN m (fun j => sumN n (fun i => f i j)) := by
  induction n with
  | zero => simp only [sumN]; rw [sumN_zero]; intro _ _; rfl
  | succ n ih =>
    simp only [sumN]
    rw [ih]
    have := sumN_lin m 1 1 (fun j => sumN n fun i => f i j) (fun j => f n j)
    simp only [Int.one_mul] at this
    exact this.symm
theorem sumN_mul (n : Nat) (a : Int) (f : Nat → Int) : sumN n (fun k => a * f k) = a * sumN n f := by
  induction n with
  | zero => simp [sumN]
  | succ n ih => rw [sumN, sumN, ih]; grind
theorem sumN_abs {n : Nat} {f : Nat → Int} {B : Nat} (h : ∀ k, k < n → (f k).natAbs ≤ B) : (sumN n f).natAbs ≤ n * B := by
  induction n with
  | zero => simp [sumN]
  | succ n ih =>
    rw [sumN]
    have a := ih (fun k hk => h k (by omega))
    have b := h n (by omega)
    have e : (n + 1) * B = n * B + B := by grind
    have := Int.natAbs_add_le (sumN n f) (f n)
    omega

def setc (c : Nat → Nat → Int) (p : Nat) (u : Nat → Int) : Nat → Nat → Int := fun k => if k = p then u else c k
theorem setc_self (c : Nat → Nat → Int) (p : Nat) (u : Nat → Int) : setc c p u p = u := by simp [setc]
theorem setc_ne {c : Nat → Nat → Int} {p k : Nat} {u : Nat → Int} (h : k ≠ p) : setc c p u k = c k := by simp [setc, h]
theorem setc_id (c : Nat → Nat → Int) (p : Nat) : setc c p (c p) = c := by
  funext k; unfold setc; split
  · next h => rw [h]
  · rfl
theorem setc_setc (c : Nat → Nat → Int) (p : Nat) (u v : Nat → Int) : setc (setc c p u) p v = setc c p v := by
  funext k; unfold setc; split <;> rfl
theorem setc_comm (c : Nat → Nat → Int) {p q : Nat} (h : p ≠ q) (u v : Nat → Int) : setc (setc c p u) q v = setc (setc c q v) p u := by
  funext k; unfold setc; split
  · next e => subst e; rw [if_neg (fun z => h z.symm)]
  · rfl
def skip (k : Nat) (c : Nat → Nat → Int) : Nat → Nat → Int := fun j => if j < k then c j else c (j + 1)
def sgn (k : Nat) : Int := if k % 2 = 0 then 1 else -1
theorem sgn_succ (k : Nat) : sgn (k + 1) = - sgn k := by
  unfold sgn; split <;> split <;> omega
def det : Nat → (Nat → Nat → Int) → Int
  | 0, _ => 1
  | w + 1, c => sumN (w + 1) fun k => sgn k * (c k w * det w (skip k c))
theorem det_congr {w : Nat} : ∀ {c d : Nat → Nat → Int}, (∀ k, k < w → ∀ i, i < w → c k i = d k i) → det w c = det w d := by
  induction w with
  | zero => intros; rfl
  | succ w ih =>
    intro c d h
    unfold det
    refine sumN_congr fun k hk => ?_
    rw [h k hk w (by omega), ih (c := skip k c) (d := skip k d)]
    intro j hj i hi
    unfold skip
    split
    · exact h j (by omega) i (by omega)
    · exact h (j + 1) (by omega) i (by omega)
theorem skip_setc_eq (c : Nat → Nat → Int) (k : Nat) (u : Nat → Int) : skip k (setc c k u) = skip k c := by
  funext j; unfold skip; split
  · exact setc_ne (by omega)
  · exact setc_ne (by omega)
theorem skip_setc_lt {c : Nat → Nat → Int} {k p : Nat} (u : Nat → Int) (h : p < k) : skip k (setc c p u) = setc (skip k c) p u := by
  funext j; unfold skip setc
  by_cases e : j < k
  · simp only [e, if_true]
  · simp only [e, if_false]; rw [if_neg (by omega), if_neg (by omega)]
theorem skip_setc_gt {c : Nat → Nat → Int} {k p : Nat} (u : Nat → Int) (h : k < p) : skip k (setc c p u) = setc (skip k c) (p - 1) u := by
  funext j; unfold skip setc
  by_cases e : j < k
  · simp only [e, if_true]; rw [if_neg (by omega), if_neg (by omega)]
  · simp only [e, if_false]
    by_cases e2 : j + 1 = p
    · rw [if_pos e2, if_pos (by omega)]
    · rw [if_neg e2, if_neg (by omega)]
theorem det_lin {w : Nat} : ∀ {c : Nat → Nat → Int} {p : Nat}, p < w → ∀ (a b : Int) (u v : Nat → Int),
    det w (setc c p (fun i => a * u i + b * v i)) = a * det w (setc c p u) + b * det w (setc c p v) := by
  induction w with
  | zero => intro c p hp; omega
  | succ w ih =>
    intro c p hp a b u v
    unfold det
    rw [← sumN_lin]
    refine sumN_congr fun k hk => ?_
    by_cases e : k = p
    · subst e
      rw [skip_setc_eq, skip_setc_eq, skip_setc_eq, setc_self, setc_self, setc_self]
      grind
    · rw [setc_ne e, setc_ne e, setc_ne e]
      rcases Nat.lt_or_gt_of_ne e with h | h
      · rw [skip_setc_gt _ h, skip_setc_gt _ h, skip_setc_gt _ h, ih (by omega)]
        grind
      · rw [skip_setc_lt _ h, skip_setc_lt _ h, skip_setc_lt _ h, ih (by omega)]
        grind
theorem det_adj {w : Nat} : ∀ {c : Nat → Nat → Int} {p : Nat}, p + 1 < w → c p = c (p + 1) → det w c = 0 := by
  induction w with
  | zero => intro c p hp; omega
  | succ w ih =>
    intro c p hp h
    unfold det
    rw [sumN_two (p := p) (q := p + 1) (by omega) hp (by omega) (fun k hk h1 h2 => ?_)]
    · have e : skip (p + 1) c = skip p c := by
        funext j; unfold skip
        by_cases z : j = p
        · subst z; simp [h]
        · by_cases z2 : j < p
          · rw [if_pos (by omega), if_pos z2]
          · rw [if_neg (by omega), if_neg z2]
      rw [e, h, sgn_succ]; grind
    · have z : det w (skip k c) = 0 := by
        by_cases e : k < p
        · refine ih (p := p - 1) (by omega) ?_
          unfold skip
          rw [if_neg (by omega), if_neg (by omega)]
          have e1 : p - 1 + 1 = p := by omega
          rw [e1]; exact h
        · refine ih (p := p) (by omega) ?_
          unfold skip
          rw [if_pos (by omega), if_pos (by omega)]
          exact h
      rw [z]; simp
theorem det_swap_adj {w : Nat} {c : Nat → Nat → Int} {p : Nat} (hp : p + 1 < w) (u v : Nat → Int) :
    det w (setc (setc c p u) (p + 1) v) = - det w (setc (setc c p v) (p + 1) u) := by
  have ne : p ≠ p + 1 := by omega
  have key : ∀ x : Nat → Int, det w (setc (setc c p x) (p + 1) x) = 0 := fun x => by
    refine det_adj hp ?_
    rw [setc_self, setc_ne ne, setc_self]
  have k0 := key (fun i => 1 * u i + 1 * v i)
  rw [det_lin hp, setc_comm _ ne, det_lin (by omega), setc_comm (c := c) ne, det_lin (by omega)] at k0
  have ku := key u
  have kv := key v
  rw [setc_comm _ ne] at ku kv
  rw [setc_comm _ ne, setc_comm (c := c) ne]
  omega
theorem det_alt {w : Nat} : ∀ (n : Nat) {c : Nat → Nat → Int} {p q : Nat}, q - p ≤ n → p < q → q < w → c p = c q → det w c = 0 := by
  intro n
  induction n with
  | zero => intro c p q h1 h2; omega
  | succ n ih =>
    intro c p q hn hpq hq h
    by_cases e : q = p + 1
    · subst e; exact det_adj hq h
    · obtain ⟨q, rfl⟩ : ∃ z, q = z + 1 := ⟨q - 1, by omega⟩
      have e1 : c = setc (setc c q (c q)) (q + 1) (c (q + 1)) := by rw [setc_id, setc_id]
      rw [e1, det_swap_adj hq]
      have z : det w (setc (setc c q (c (q + 1))) (q + 1) (c q)) = 0 := by
        refine ih (p := p) (q := q) (by omega) (by omega) (by omega) ?_
        rw [setc_ne (by omega), setc_ne (by omega), setc_ne (by omega), setc_self, h]
      omega
theorem det_eq {w : Nat} {c : Nat → Nat → Int} {p q : Nat} (hp : p < w) (hq : q < w) (ne : p ≠ q) (h : c p = c q) : det w c = 0 := by
  rcases Nat.lt_or_gt_of_ne ne with e | e
  · exact det_alt _ (Nat.le_refl _) e hq h
  · exact det_alt _ (Nat.le_refl _) e hp h.symm
theorem det_swap {w : Nat} {c : Nat → Nat → Int} {p q : Nat} (hp : p < w) (hq : q < w) (ne : p ≠ q) (u v : Nat → Int) :
    det w (setc (setc c p u) q v) = - det w (setc (setc c p v) q u) := by
  have key : ∀ x : Nat → Int, det w (setc (setc c p x) q x) = 0 := fun x => by
    refine det_eq hp hq ne ?_
    rw [setc_self, setc_ne ne, setc_self]
  have k0 := key (fun i => 1 * u i + 1 * v i)
  rw [det_lin hq, setc_comm _ ne, det_lin hp, setc_comm (c := c) ne, det_lin hp] at k0
  have ku := key u
  have kv := key v
  rw [setc_comm _ ne] at ku kv
  rw [setc_comm _ ne, setc_comm (c := c) ne]
  omega
def unitc : Nat → Nat → Int := fun k i => if i = k then 1 else 0
theorem det_id (w : Nat) : det w unitc = 1 ∨ det w unitc = -1 := by
  induction w with
  | zero => exact .inl rfl
  | succ w ih =>
    have e : det (w + 1) unitc = sgn w * det w unitc := by
      conv => lhs; unfold det
      rw [sumN_one (p := w) (by omega) (fun k hk h => by unfold unitc; rw [if_neg (fun z => h z.symm)]; simp)]
      have e1 : det w (skip w unitc) = det w unitc := det_congr fun k hk i hi => by unfold skip; rw [if_pos hk]
      rw [e1]; simp [unitc]
    have s : sgn w = 1 ∨ sgn w = -1 := by unfold sgn; split <;> simp
    rw [e]
    rcases s with s | s <;> rcases ih with i | i <;> simp [s, i]
def factB (M : Nat) : Nat → Nat
  | 0 => 1
  | w + 1 => (w + 1) * (M * factB M w)
theorem det_bound {M w : Nat} : ∀ {c : Nat → Nat → Int}, (∀ k, k < w → ∀ i, i < w → (c k i).natAbs ≤ M) → (det w c).natAbs ≤ factB M w := by
  induction w with
  | zero => intro c _; simp [det, factB]
  | succ w ih =>
    intro c h
    unfold det factB
    refine sumN_abs fun k hk => ?_
    have s : (sgn k).natAbs = 1 := by unfold sgn; split <;> rfl
    rw [Int.natAbs_mul, Int.natAbs_mul, s, Nat.one_mul]
    refine Nat.mul_le_mul (h k hk w (by omega)) (ih fun j hj i hi => ?_)
    unfold skip
    split
    · exact h j (by omega) i (by omega)
    · exact h (j + 1) (by omega) i (by omega)
/-- a sum of columns in one slot -/
theorem det_sum {w : Nat} {c : Nat → Nat → Int} {p : Nat} (hp : p < w) (n : Nat) (a : Nat → Int) (u : Nat → Nat → Int) :
    det w (setc c p (fun i => sumN n fun k => a k * u k i)) = sumN n fun k => a k * det w (setc c p (u k)) := by
  induction n with
  | zero =>
    have h := det_lin (c := c) hp 0 0 (fun _ => 0) (fun _ => 0)
    simp only [Int.zero_mul, Int.add_zero] at h
    exact h
  | succ n ih =>
    have h := det_lin (c := c) hp 1 (a n) (fun i => sumN n fun k => a k * u k i) (u n)
    simp only [Int.one_mul] at h
    rw [sumN, ← ih, ← h]
    rfl
end K69

/-! ## KSim -/
namespace K69
theorem sumN_split {n p : Nat} (f : Nat → Int) (hp : p < n) : sumN n f = f p + sumN n (fun k => if k = p then 0 else f k) := by
  have h := sumN_lin n 1 1 (fun k => if k = p then f k else 0) (fun k => if k = p then 0 else f k)
  simp only [Int.one_mul] at h
  rw [sumN_congr (g := f) (fun k _ => by split <;> omega)] at h
  rw [h, sumN_one hp (fun k _ ne => by rw [if_neg ne]), if_pos rfl]
structure Tab where
  T : Nat → Nat → Int
  g : Nat → Int
  b : Nat → Nat
  s : Int
def setb (b : Nat → Nat) (p r : Nat) : Nat → Nat := fun k => if k = p then r else b k
/-- A j: the column j; m vectors, then w slacks -/
structure Inv (A : Nat → Nat → Int) (m w : Nat) (S : Tab) : Prop where
  pos : 0 < S.s
  blt : ∀ k, k < w → S.b k < m + w
  K : ∀ j, j < m + w → ∀ i, i < w → S.s * A j i = sumN w fun k => S.T k j * A (S.b k) i
  U : ∀ k, k < w → ∀ j, j < m + w → S.T k j = sumN w fun i => S.T k (m + i) * A j i
  G : ∀ j, j < m + w → S.g j = S.s * (if j < m then 1 else 0) - sumN w fun k => S.T k j * (if S.b k < m then 1 else 0)
  B : ∀ i, i < w → ∀ k, k < w → S.T i (S.b k) = if i = k then S.s else 0
  E : det w (fun k => A (S.b k)) = S.s ∨ det w (fun k => A (S.b k)) = - S.s
section
variable {A : Nat → Nat → Int} {m w : Nat} {S : Tab}
theorem Inv.cramer (I : Inv A m w S) {c : Nat → Nat → Int} {i j : Nat} (hi : i < w) (hj : j < m + w) :
    S.s * det w (setc c i (A j)) = sumN w fun k => S.T k j * det w (setc c i (A (S.b k))) := by
  have h1 := det_lin (c := c) hi S.s 0 (A j) (A j)
  have h2 := det_sum (c := c) hi w (fun k => S.T k j) (fun k => A (S.b k))
  rw [← h2]
  have h3 : S.s * det w (setc c i (A j)) = det w (setc c i fun x => S.s * A j x + 0 * A j x) := by rw [h1]; omega
  rw [h3]
  refine det_congr fun k hk x hx => ?_
  unfold setc
  split
  · show S.s * A j x + 0 * A j x = sumN w fun k => S.T k j * A (S.b k) x
    rw [← I.K j hj x hx]; omega
  · rfl
abbrev Tab.cols (S : Tab) (A : Nat → Nat → Int) : Nat → Nat → Int := fun k => A (S.b k)
theorem Inv.entry (I : Inv A m w S) {i j : Nat} (hi : i < w) (hj : j < m + w) : S.T i j * det w (S.cols A) = S.s * det w (setc (S.cols A) i (A j)) := by
  rw [I.cramer hi hj, sumN_one hi (fun k hk ne => ?_)]
  · rw [show A (S.b i) = (S.cols A) i from rfl, setc_id]
  · rw [det_eq (p := i) (q := k) hi hk (fun z => ne z.symm) (by rw [setc_self, setc_ne ne])]; simp
/-- the entries are determinants, up to one sign -/
theorem Inv.sign (I : Inv A m w S) : ∃ e : Int, (e = 1 ∨ e = -1) ∧ S.s = e * det w (S.cols A) ∧ ∀ i j, i < w → j < m + w → S.T i j = e * det w (setc (S.cols A) i (A j)) := by
  have hs := I.pos
  rcases I.E with h | h
  · refine ⟨1, .inl rfl, by rw [show S.cols A = fun k => A (S.b k) from rfl, h]; omega, fun i j hi hj => ?_⟩
    have := I.entry hi hj
    rw [show S.cols A = fun k => A (S.b k) from rfl] at this ⊢
    rw [h, Int.mul_comm] at this
    have := Int.eq_of_mul_eq_mul_left (by omega) this
    omega
  · refine ⟨-1, .inr rfl, by rw [show S.cols A = fun k => A (S.b k) from rfl, h]; omega, fun i j hi hj => ?_⟩
    have := I.entry hi hj
    rw [show S.cols A = fun k => A (S.b k) from rfl] at this ⊢
    rw [h, Int.mul_neg, Int.mul_comm, ← Int.mul_neg] at this
    have := Int.eq_of_mul_eq_mul_left (by omega) this
    omega
theorem Inv.dvd (I : Inv A m w S) {i j p r : Nat} (hi : i < w) (hp : p < w) (hj : j < m + w) (hr : r < m + w) : S.s ∣ S.T i j * S.T p r - S.T i r * S.T p j := by
  obtain ⟨e, he, h1, h2⟩ := I.sign
  by_cases ne : i = p
  · subst ne
    exact ⟨0, by grind⟩
  · let c := setc (S.cols A) p (A r)
    have k := I.cramer (c := c) hi hj
    rw [sumN_two hi hp ne (fun k hk n1 n2 => ?_)] at k
    · have e1 : setc c i (A (S.b i)) = c := by
        have z : c i = A (S.b i) := setc_ne ne
        rw [← z, setc_id]
      have e2 : det w (setc c i (A (S.b p))) = - det w (setc (S.cols A) i (A r)) := by
        show det w (setc (setc (S.cols A) p (A r)) i (A (S.b p))) = _
        rw [det_swap hp hi (fun z => ne z.symm)]
        rw [show A (S.b p) = S.cols A p from rfl, setc_id]
      rw [e1, e2] at k
      refine ⟨e * det w (setc c i (A j)), ?_⟩
      rw [h2 p r hp hr, h2 i r hi hr]
      show S.T i j * (e * det w c) - _ = _
      grind
    · rw [det_eq (p := i) (q := k) hi hk (fun z => n1 z.symm) ?_]
      · simp
      · rw [setc_self, setc_ne n1]
        show A (S.b k) = setc (S.cols A) p (A r) k
        rw [setc_ne n2]
theorem Inv.dvdG (I : Inv A m w S) {j p r : Nat} (hp : p < w) (hj : j < m + w) (hr : r < m + w) : S.s ∣ S.g j * S.T p r - S.g r * S.T p j := by
  have key : S.s ∣ sumN w fun k => (S.T k j * S.T p r - S.T k r * S.T p j) * (if S.b k < m then 1 else 0) := by
    have all : ∀ n, n ≤ w → S.s ∣ sumN n fun k => (S.T k j * S.T p r - S.T k r * S.T p j) * (if S.b k < m then 1 else 0) := by
      intro n
      induction n with
      | zero => intro _; exact ⟨0, by simp [sumN]⟩
      | succ n ih =>
        intro hn
        rw [sumN]
        exact Int.dvd_add (ih (by omega)) (Int.dvd_trans (I.dvd (by omega) hp hj hr) ⟨_, rfl⟩)
    exact all w (Nat.le_refl _)
  have e : sumN w (fun k => (S.T k j * S.T p r - S.T k r * S.T p j) * (if S.b k < m then 1 else 0)) = S.T p r * sumN w (fun k => S.T k j * (if S.b k < m then 1 else 0)) + (- S.T p j) * sumN w (fun k => S.T k r * (if S.b k < m then 1 else 0)) := by
    rw [← sumN_lin]
    exact sumN_congr fun k _ => by grind
  obtain ⟨z, hz⟩ := key
  rw [e] at hz
  refine ⟨(if j < m then 1 else 0) * S.T p r - (if r < m then 1 else 0) * S.T p j - z, ?_⟩
  rw [I.G j hj, I.G r hr]
  generalize sumN w (fun k => S.T k j * (if S.b k < m then 1 else 0)) = x at *
  generalize sumN w (fun k => S.T k r * (if S.b k < m then 1 else 0)) = y at *
  generalize (if j < m then (1:Int) else 0) = a at *
  generalize (if r < m then (1:Int) else 0) = b at *
  grind
theorem cancel {s a b : Int} (h : 0 < s) (e : s * a = s * b) : a = b := Int.eq_of_mul_eq_mul_left (by omega) e
/-- one pivot -/
theorem Inv.pivot (I : Inv A m w S) {p r : Nat} (hp : p < w) (hr : r < m + w) (hT : 0 < S.T p r) {S' : Tab}
    (hs : S'.s = S.T p r) (hb : ∀ k, k < w → S'.b k = if k = p then r else S.b k)
    (hTp : ∀ j, j < m + w → S'.T p j = S.T p j)
    (hTi : ∀ i, i < w → i ≠ p → ∀ j, j < m + w → S.s * S'.T i j = S.T i j * S.T p r - S.T i r * S.T p j)
    (hg : ∀ j, j < m + w → S.s * S'.g j = S.g j * S.T p r - S.g r * S.T p j) : Inv A m w S' where
  pos := by rw [hs]; exact hT
  blt := fun k hk => by
    rw [hb k hk]; split
    · exact hr
    · exact I.blt k hk
  K := fun j hj i hi => by
    refine cancel I.pos ?_
    have k1 := I.K j hj i hi
    have k2 := I.K r hr i hi
    rw [sumN_split _ hp] at k1 k2
    rw [sumN_split _ hp, hb p hp, if_pos rfl, hTp j hj, Int.mul_add, ← sumN_mul]
    rw [sumN_congr (g := fun k => S.T p r * (if k = p then 0 else S.T k j * A (S.b k) i) + (- S.T p j) * (if k = p then 0 else S.T k r * A (S.b k) i)) (fun k hk => ?_), sumN_lin, hs]
    · generalize sumN w (fun k => if k = p then 0 else S.T k j * A (S.b k) i) = x at *
      generalize sumN w (fun k => if k = p then 0 else S.T k r * A (S.b k) i) = y at *
      grind
    · by_cases e : k = p
      · simp [e]
      · simp only [if_neg e]
        rw [hb k hk, if_neg e]
        have := hTi k hk e j hj
        grind
  U := fun k hk j hj => by
    by_cases e : k = p
    · subst e
      rw [hTp j hj, I.U k hk j hj]
      exact sumN_congr fun i hi => by rw [hTp (m + i) (by omega)]
    · refine cancel I.pos ?_
      rw [hTi k hk e j hj, ← sumN_mul]
      rw [sumN_congr (g := fun i => S.T p r * (S.T k (m + i) * A j i) + (- S.T k r) * (S.T p (m + i) * A j i)) (fun i hi => ?_), sumN_lin, ← I.U k hk j hj, ← I.U p hp j hj]
      · grind
      · have := hTi k hk e (m + i) (by omega)
        grind
  G := fun j hj => by
    refine cancel I.pos ?_
    have k1 := I.G j hj
    have k2 := I.G r hr
    rw [sumN_split _ hp] at k1 k2
    rw [sumN_split _ hp, hb p hp, if_pos rfl, hTp j hj, Int.mul_sub, Int.mul_add, ← sumN_mul, hg j hj]
    rw [sumN_congr (g := fun k => S.T p r * (if k = p then 0 else S.T k j * (if S.b k < m then 1 else 0)) + (- S.T p j) * (if k = p then 0 else S.T k r * (if S.b k < m then 1 else 0))) (fun k hk => ?_), sumN_lin, hs]
    · generalize sumN w (fun k => if k = p then 0 else S.T k j * (if S.b k < m then 1 else 0)) = x at *
      generalize sumN w (fun k => if k = p then 0 else S.T k r * (if S.b k < m then 1 else 0)) = y at *
      generalize (if j < m then (1:Int) else 0) = a at *
      generalize (if r < m then (1:Int) else 0) = b at *
      generalize (if S.b p < m then (1:Int) else 0) = c at *
      grind
    · by_cases e : k = p
      · simp [e]
      · simp only [if_neg e]
        rw [hb k hk, if_neg e]
        have := hTi k hk e j hj
        generalize (if S.b k < m then (1:Int) else 0) = a at *
        grind
  B := fun i hi k hk => by
    rw [hb k hk]
    by_cases ei : i = p
    · subst ei
      by_cases ek : k = i
      · subst ek; rw [if_pos rfl, if_pos rfl, hTp r hr, hs]
      · rw [if_neg ek, if_neg (fun z => ek z.symm), hTp _ (I.blt k hk), I.B i hi k hk, if_neg (fun z => ek z.symm)]
    · refine cancel I.pos ?_
      by_cases ek : k = p
      · subst ek; rw [if_pos rfl, if_neg ei, hTi i hi ei r hr]; omega
      · have b1 := I.B i hi k hk
        have b2 : S.T p (S.b k) = 0 := (I.B p hp k hk).trans (if_neg fun z => ek z.symm)
        rw [if_neg ek, hTi i hi ei _ (I.blt k hk), b1, b2, hs]
        by_cases e : i = k
        · rw [if_pos e, if_pos e]; omega
        · rw [if_neg e, if_neg e]; omega
  E := by
    obtain ⟨e, he, _, h2⟩ := I.sign
    have z := h2 p r hp hr
    have e1 : det w (fun k => A (S'.b k)) = det w (setc (S.cols A) p (A r)) := det_congr fun k hk i _ => by
      rw [hb k hk]; unfold setc; split <;> rfl
    rw [e1, hs, z]
    rcases he with rfl | rfl
    · left; omega
    · right; omega
/-- the goal row by the slack columns -/
theorem Inv.D (I : Inv A m w S) {j : Nat} (hj : j < m + w) : S.g j = S.s * (if j < m then 1 else 0) + sumN w fun i => S.g (m + i) * A j i := by
  rw [I.G j hj]
  have e : sumN w (fun i => S.g (m + i) * A j i) = sumN w fun i => - sumN w fun k => (S.T k (m + i) * A j i) * (if S.b k < m then 1 else 0) := by
    refine sumN_congr fun i hi => ?_
    rw [I.G (m + i) (by omega), if_neg (by omega)]
    have h : sumN w (fun k => S.T k (m + i) * A j i * (if S.b k < m then 1 else 0)) = A j i * sumN w (fun k => S.T k (m + i) * (if S.b k < m then 1 else 0)) := by
      rw [← sumN_mul]
      exact sumN_congr fun k _ => by grind
    rw [h]
    generalize sumN w (fun k => S.T k (m + i) * (if S.b k < m then 1 else 0)) = x
    grind
  have e2 := sumN_mul w (-1) fun i => sumN w fun k => (S.T k (m + i) * A j i) * (if S.b k < m then 1 else 0)
  have e3 : (sumN w fun i => - sumN w fun k => (S.T k (m + i) * A j i) * (if S.b k < m then 1 else 0)) = - sumN w fun k => S.T k j * (if S.b k < m then 1 else 0) := by
    rw [sumN_congr (g := fun i => -1 * sumN w fun k => (S.T k (m + i) * A j i) * (if S.b k < m then 1 else 0)) (fun i _ => by omega), e2, sumN_swap]
    rw [sumN_congr (g := fun k => S.T k j * (if S.b k < m then 1 else 0)) (fun k hk => ?_)]
    · omega
    · rw [sumN_congr (g := fun i => (if S.b k < m then 1 else 0) * (S.T k (m + i) * A j i)) (fun i _ => by grind), sumN_mul, ← I.U k hk j hj]; grind
  rw [e, e3]
  omega
theorem Inv.gb (I : Inv A m w S) {k : Nat} (hk : k < w) : S.g (S.b k) = 0 := by
  rw [I.G _ (I.blt k hk), sumN_one hk (fun i hi ne => by rw [I.B i hi k hk, if_neg ne]; simp), I.B k hk k hk, if_pos rfl]
  omega
theorem Inv.inj (I : Inv A m w S) {i k : Nat} (hi : i < w) (hk : k < w) (e : S.b i = S.b k) : i = k := by
  have h1 := I.B i hi i hi
  have h2 := I.B i hi k hk
  rw [← e, h1, if_pos rfl] at h2
  by_cases z : i = k
  · exact z
  · rw [if_neg z] at h2
    have := I.pos
    omega
theorem Inv.bounds (I : Inv A m w S) {M : Nat} (hA : ∀ j, j < m + w → ∀ i, i < w → (A j i).natAbs ≤ M) :
    S.s.natAbs ≤ factB M w ∧ (∀ i j, i < w → j < m + w → (S.T i j).natAbs ≤ factB M w) ∧ ∀ j, j < m + w → (S.g j).natAbs ≤ (w + 1) * factB M w := by
  obtain ⟨e, he, h1, h2⟩ := I.sign
  have ee : e.natAbs = 1 := by rcases he with rfl | rfl <;> rfl
  have bs : S.s.natAbs ≤ factB M w := by
    rw [h1, Int.natAbs_mul, ee, Nat.one_mul]
    exact det_bound fun k hk i hi => hA _ (I.blt k hk) i hi
  have bT : ∀ i j, i < w → j < m + w → (S.T i j).natAbs ≤ factB M w := fun i j hi hj => by
    rw [h2 i j hi hj, Int.natAbs_mul, ee, Nat.one_mul]
    refine det_bound fun k hk x hx => ?_
    unfold setc; split
    · exact hA j hj x hx
    · exact hA _ (I.blt k hk) x hx
  refine ⟨bs, bT, fun j hj => ?_⟩
  rw [I.G j hj]
  have b1 : (S.s * (if j < m then 1 else 0)).natAbs ≤ factB M w := by split <;> simp [bs]
  have b2 : (sumN w fun k => S.T k j * (if S.b k < m then 1 else 0)).natAbs ≤ w * factB M w := sumN_abs fun k hk => by
    split
    · simp [bT k j hk hj]
    · simp
  have b3 := Int.natAbs_sub_le (S.s * (if j < m then 1 else 0)) (sumN w fun k => S.T k j * (if S.b k < m then 1 else 0))
  have e4 : (w + 1) * factB M w = w * factB M w + factB M w := by grind
  omega
end
end K69

/-! ## KBland -/
namespace K69
/-- one step of the rule: the least column of a positive goal entry; the least basis column of a positive entry -/
structure Pick (m w : Nat) (S S' : Tab) (p r : Nat) : Prop where
  hp : p < w
  hr : r < m + w
  pos : 0 < S.T p r
  gpos : 0 < S.g r
  gle : ∀ j, j < r → S.g j ≤ 0
  least : ∀ k, k < w → 0 < S.T k r → S.b p ≤ S.b k
  next : ∀ k, k < w → S'.b k = if k = p then r else S.b k
def isB (w : Nat) (S : Tab) (j : Nat) : Prop := ∃ k, k < w ∧ S.b k = j
section
variable {A : Nat → Nat → Int} {m w : Nat} {S S' : Tab} {p r : Nat}
theorem Pick.back (P : Pick m w S S' p r) {j : Nat} (h : isB w S' j) : isB w S j ∨ j = r := by
  obtain ⟨k, hk, e⟩ := h
  rw [P.next k hk] at e
  split at e
  · exact .inr e.symm
  · exact .inl ⟨k, hk, e⟩
theorem Pick.fwd (P : Pick m w S S' p r) {j : Nat} (h : isB w S j) : isB w S' j ∨ j = S.b p := by
  obtain ⟨k, hk, e⟩ := h
  by_cases z : k = p
  · subst z; exact .inr e.symm
  · exact .inl ⟨k, hk, by rw [P.next k hk, if_neg z]; exact e⟩
theorem Pick.new (P : Pick m w S S' p r) : isB w S' r := ⟨p, P.hp, by rw [P.next p P.hp, if_pos rfl]⟩
theorem Inv.notB (I : Inv A m w S) {j : Nat} (h : 0 < S.g j) : ¬ isB w S j := fun ⟨k, hk, e⟩ => by
  have := I.gb hk
  rw [e] at this
  omega
/-- a sum over the columns against y = s at r, -T k r at b k -/
theorem rays (I : Inv A m w S) {r : Nat} (hr : r < m + w) (S2 : Tab) (I2 : Inv A m w S2) :
    ∃ z : Int, S2.s * z = S.s * S2.g r - sumN w (fun k => S.T k r * S2.g (S.b k)) ∧ S.s * z = S.s * S.g r := by
  -- z = g0 · y
  refine ⟨S.s * (if r < m then 1 else 0) - sumN w (fun k => S.T k r * (if S.b k < m then 1 else 0)), ?_, ?_⟩
  · rw [I2.D hr]
    have e1 : sumN w (fun k => S.T k r * S2.g (S.b k)) = S2.s * sumN w (fun k => S.T k r * (if S.b k < m then 1 else 0)) + sumN w (fun i => S2.g (m + i) * sumN w (fun k => S.T k r * A (S.b k) i)) := by
      rw [← sumN_mul]
      have e2 : sumN w (fun i => S2.g (m + i) * sumN w (fun k => S.T k r * A (S.b k) i)) = sumN w (fun k => sumN w fun i => S2.g (m + i) * (S.T k r * A (S.b k) i)) := by
        rw [← sumN_swap]
        exact sumN_congr fun i _ => (sumN_mul _ _ _).symm
      rw [e2]
      have e3 := sumN_lin w 1 1 (fun k => S2.s * (S.T k r * (if S.b k < m then 1 else 0))) (fun k => sumN w fun i => S2.g (m + i) * (S.T k r * A (S.b k) i))
      simp only [Int.one_mul] at e3
      rw [← e3]
      refine sumN_congr fun k hk => ?_
      rw [I2.D (I.blt k hk), Int.mul_add]
      have e4 : S.T k r * sumN w (fun i => S2.g (m + i) * A (S.b k) i) = sumN w fun i => S2.g (m + i) * (S.T k r * A (S.b k) i) := by
        rw [← sumN_mul]
        exact sumN_congr fun i _ => by grind
      rw [e4]
      generalize (if S.b k < m then (1:Int) else 0) = a
      grind
    have e5 : sumN w (fun i => S2.g (m + i) * sumN w (fun k => S.T k r * A (S.b k) i)) = S.s * sumN w fun i => S2.g (m + i) * A r i := by
      rw [← sumN_mul]
      refine sumN_congr fun i hi => ?_
      rw [← I.K r hr i hi]; grind
    rw [e1, e5]
    generalize sumN w (fun i => S2.g (m + i) * A r i) = x
    generalize sumN w (fun k => S.T k r * (if S.b k < m then 1 else 0)) = y
    generalize (if r < m then (1:Int) else 0) = a
    grind
  · rw [I.G r hr]
end
theorem exMax (r : Nat → Nat) (t1 : Nat) : ∀ d, ∃ t, t1 ≤ t ∧ t < t1 + d + 1 ∧ ∀ u, t1 ≤ u → u < t1 + d + 1 → r u ≤ r t
  | 0 => ⟨t1, Nat.le_refl _, by omega, fun u h1 h2 => by
    have : u = t1 := by omega
    rw [this]; exact Nat.le_refl _⟩
  | d + 1 => by
    obtain ⟨t, h1, h2, h3⟩ := exMax r t1 d
    by_cases e : r t ≤ r (t1 + d + 1)
    · refine ⟨t1 + d + 1, by omega, by omega, fun u g1 g2 => ?_⟩
      by_cases z : u = t1 + d + 1
      · rw [z]; exact Nat.le_refl _
      · exact Nat.le_trans (h3 u g1 (by omega)) e
    · refine ⟨t, h1, by omega, fun u g1 g2 => ?_⟩
      by_cases z : u = t1 + d + 1
      · rw [z]; omega
      · exact h3 u g1 (by omega)
theorem bland {A : Nat → Nat → Int} {m w N : Nat} {st : Nat → Tab} {p r : Nat → Nat} (I : ∀ t, t ≤ N → Inv A m w (st t)) (P : ∀ t, t < N → Pick m w (st t) (st (t + 1)) (p t) (r t))
    {t1 t2 : Nat} (h : t1 < t2) (hN : t2 ≤ N) (e : ∀ k, k < w → (st t1).b k = (st t2).b k) : False := by
  obtain ⟨d, rfl⟩ : ∃ d, t2 = t1 + d + 1 := ⟨t2 - t1 - 1, by omega⟩
  obtain ⟨tA, a1, a2, hmax⟩ := exMax r t1 d
  have same : ∀ j, isB w (st t1) j ↔ isB w (st (t1 + d + 1)) j := fun j =>
    ⟨fun ⟨k, hk, z⟩ => ⟨k, hk, (e k hk).symm.trans z⟩, fun ⟨k, hk, z⟩ => ⟨k, hk, (e k hk).trans z⟩⟩
  have PA := P tA (by omega)
  have IA := I tA (by omega)
  -- what never enters and is in at some time is always in
  have never : ∀ j, (∀ u, t1 ≤ u → u < t1 + d + 1 → j ≠ r u) → ∀ u v, t1 ≤ u → u ≤ v → v ≤ t1 + d + 1 → isB w (st v) j → isB w (st u) j := by
    intro j hj u v h1 h2 h3 hv
    obtain ⟨n, rfl⟩ : ∃ n, v = u + n := ⟨v - u, by omega⟩
    clear h2
    induction n with
    | zero => exact hv
    | succ n ih =>
      rcases (P (u + n) (by omega)).back hv with z | z
      · exact ih (by omega) z
      · exact absurd z (hj (u + n) (by omega) (by omega))
  -- q leaves somewhere
  have leaves : ∃ tB, t1 ≤ tB ∧ tB < t1 + d + 1 ∧ (st tB).b (p tB) = r tA := by
    refine Classical.byContradiction fun no => ?_
    have stay : ∀ u v, t1 ≤ u → u ≤ v → v ≤ t1 + d + 1 → isB w (st u) (r tA) → isB w (st v) (r tA) := by
      intro u v h1 h2 h3 hu
      obtain ⟨n, rfl⟩ : ∃ n, v = u + n := ⟨v - u, by omega⟩
      clear h2
      induction n with
      | zero => exact hu
      | succ n ih =>
        rcases (P (u + n) (by omega)).fwd (ih (by omega)) with z | z
        · exact z
        · exact absurd ⟨u + n, by omega, by omega, z.symm⟩ no
    have z1 := stay (tA + 1) (t1 + d + 1) (by omega) (by omega) (Nat.le_refl _) PA.new
    have z2 := stay t1 tA (Nat.le_refl _) a1 (by omega) ((same _).mpr z1)
    exact IA.notB PA.gpos z2
  obtain ⟨tB, b1, b2, hq⟩ := leaves
  have PB := P tB (by omega)
  have IB := I tB (by omega)
  have sA := IA.pos
  have sB := IB.pos
  obtain ⟨z, z1, z2⟩ := rays IB PB.hr (st tA) IA
  have zp : 0 < z := by
    have := cancel sB z2
    rw [this]; exact PB.gpos
  have lhs : 0 < (st tA).s * z := Int.mul_pos sA zp
  -- the first term
  have rB : (st tA).g (r tB) ≤ 0 := by
    refine PA.gle _ ?_
    have h1 := hmax tB b1 b2
    refine Nat.lt_of_le_of_ne h1 fun ee => ?_
    exact IB.notB PB.gpos ⟨p tB, PB.hp, hq.trans ee.symm⟩
  have t1' : (st tB).s * (st tA).g (r tB) ≤ 0 := Int.mul_nonpos_of_nonneg_of_nonpos (Int.le_of_lt sB) rB
  have t2' : 0 ≤ sumN w (fun k => (st tB).T k (r tB) * (st tA).g ((st tB).b k)) := by
    have key : sumN w (fun k => -1 * ((st tB).T k (r tB) * (st tA).g ((st tB).b k))) ≤ 0 := by
      refine sumN_le fun k hk => ?_
      have pos : 0 ≤ (st tB).T k (r tB) * (st tA).g ((st tB).b k) := by
        by_cases ek : k = p tB
        · subst ek
          rw [hq]
          exact Int.le_of_lt (Int.mul_pos PB.pos PA.gpos)
        · by_cases fick : ∃ u, t1 ≤ u ∧ u < t1 + d + 1 ∧ (st tB).b k = r u
          · obtain ⟨u, u1, u2, eu⟩ := fick
            have le : (st tB).b k ≤ r tA := by rw [eu]; exact hmax u u1 u2
            have ne : (st tB).b k ≠ r tA := fun ee => ek (IB.inj hk PB.hp (ee.trans hq.symm))
            have g0 : (st tA).g ((st tB).b k) ≤ 0 := PA.gle _ (by omega)
            have T0 : (st tB).T k (r tB) ≤ 0 := by
              refine Int.not_lt.mp fun hT => ?_
              have := PB.least k hk hT
              rw [hq] at this
              omega
            exact Int.mul_nonneg_of_nonpos_of_nonpos T0 g0
          · have hj : ∀ u, t1 ≤ u → u < t1 + d + 1 → (st tB).b k ≠ r u := fun u u1 u2 z => fick ⟨u, u1, u2, z⟩
            have i1 := never _ hj t1 tB (Nat.le_refl _) b1 (by omega) ⟨k, hk, rfl⟩
            obtain ⟨k', hk', e'⟩ := never _ hj tA (t1 + d + 1) a1 (by omega) (Nat.le_refl _) ((same _).mp i1)
            have := IA.gb hk'
            rw [e'] at this
            rw [this]; simp
      omega
    rw [sumN_mul] at key
    omega
  omega
/-! ### finitely many bases -/
theorem pigeon : ∀ (M : Nat) (f : Nat → Nat), (∀ i, i ≤ M → f i < M) → ∃ i j, i < j ∧ j ≤ M ∧ f i = f j
  | 0, f, h => by have := h 0 (Nat.le_refl _); omega
  | M + 1, f, h => by
    by_cases c : ∃ i, i < M + 1 ∧ f i = f (M + 1)
    · obtain ⟨i, h1, h2⟩ := c
      exact ⟨i, M + 1, h1, Nat.le_refl _, h2⟩
    · have no : ∀ i, i ≤ M → f i ≠ f (M + 1) := fun i hi z => c ⟨i, by omega, z⟩
      -- move the value M to f (M + 1)'s place
      obtain ⟨i, j, h1, h2, h3⟩ := pigeon M (fun i => if f i < f (M + 1) then f i else f i - 1) (fun i hi => by
        have a := h i (by omega)
        have b := h (M + 1) (Nat.le_refl _)
        have c := no i hi
        show (if f i < f (M + 1) then f i else f i - 1) < M
        split <;> omega)
      refine ⟨i, j, h1, by omega, ?_⟩
      have a := no i (by omega)
      have b := no j h2
      split at h3 <;> split at h3 <;> omega
def code (n : Nat) (b : Nat → Nat) : Nat → Nat
  | 0 => 0
  | w + 1 => code n b w * n + b w
theorem code_lt {n : Nat} {b : Nat → Nat} : ∀ w, (∀ k, k < w → b k < n) → code n b w < n ^ w
  | 0, _ => by simp [code]
  | w + 1, h => by
    have a := code_lt w fun k hk => h k (by omega)
    have b' := h w (by omega)
    unfold code
    rw [Nat.pow_succ]
    have e : (code n b w + 1) * n ≤ n ^ w * n := Nat.mul_le_mul_right n a
    have e2 : (code n b w + 1) * n = code n b w * n + n := by grind
    omega
theorem code_inj {n : Nat} {b c : Nat → Nat} : ∀ w, (∀ k, k < w → b k < n) → (∀ k, k < w → c k < n) → code n b w = code n c w → ∀ k, k < w → b k = c k
  | 0, _, _, _, k, hk => by omega
  | w + 1, hb, hc, e, k, hk => by
    unfold code at e
    have b1 := hb w (by omega)
    have c1 := hc w (by omega)
    have m1 : (code n b w * n + b w) % n = b w := by rw [Nat.mul_comm, Nat.mul_add_mod]; exact Nat.mod_eq_of_lt b1
    have m2 : (code n c w * n + c w) % n = c w := by rw [Nat.mul_comm, Nat.mul_add_mod]; exact Nat.mod_eq_of_lt c1
    have ew : b w = c w := by rw [← m1, ← m2, e]
    by_cases z : k = w
    · subst z; exact ew
    · have e2 : code n b w * n = code n c w * n := by omega
      exact code_inj w (fun k hk => hb k (by omega)) (fun k hk => hc k (by omega)) (Nat.eq_of_mul_eq_mul_right (by omega) e2) k (by omega)
/-- no run of the rule is longer than n ^ w -/
theorem short {A : Nat → Nat → Int} {m w N : Nat} {st : Nat → Tab} {p r : Nat → Nat} (I : ∀ t, t ≤ N → Inv A m w (st t)) (P : ∀ t, t < N → Pick m w (st t) (st (t + 1)) (p t) (r t)) : N < (m + w) ^ w := by
  refine Nat.not_le.mp fun h => ?_
  obtain ⟨i, j, h1, h2, h3⟩ := pigeon ((m + w) ^ w) (fun t => code (m + w) (st t).b w) (fun t ht => code_lt w fun k hk => (I t (by omega)).blt k hk)
  exact bland I P h1 (by omega) (code_inj w (fun k hk => (I i (by omega)).blt k hk) (fun k hk => (I j (by omega)).blt k hk) h3)
end K69

/-! ## KM -/
namespace K69
/-! ### sums of lists -/
theorem sumN_front (n : Nat) : ∀ f : Nat → Int, sumN (n + 1) f = f 0 + sumN n fun k => f (k + 1) := by
  induction n with
  | zero => intro f; simp [sumN]
  | succ n ih => intro f; rw [sumN, ih, sumN]; omega
theorem sum_list : ∀ l : List Int, l.sum = sumN l.length fun i => l.getD i 0
  | [] => rfl
  | a :: r => by
    rw [List.sum_cons, sum_list r, List.length_cons, sumN_front]
    rfl
def dotM (a b : List Int) : Int := (List.zipWith (fun x y => x * y) a b).sum
theorem zipWith_getD {f : Int → Int → Int} {a b : List Int} {i : Nat} (ha : i < a.length) (hb : i < b.length) : (List.zipWith f a b).getD i 0 = f (a.getD i 0) (b.getD i 0) := by
  simp [List.getD_eq_getElem?_getD, List.getElem?_zipWith, List.getElem?_eq_getElem ha, List.getElem?_eq_getElem hb]
theorem dot_sum {a b : List Int} {n : Nat} (ha : a.length = n) (hb : b.length = n) : dotM a b = sumN n fun i => a.getD i 0 * b.getD i 0 := by
  unfold dotM
  rw [sum_list]
  have hl : (List.zipWith (fun x y => x * y) a b).length = n := by simp [ha, hb]
  rw [hl]
  exact sumN_congr fun i hi => zipWith_getD (by omega) (by omega)
theorem getD_map {α : Type} {f : α → Int} {l : List α} {i : Nat} (d : α) (h : i < l.length) : (l.map f).getD i 0 = f (l.getD i d) := by
  simp [List.getD_eq_getElem?_getD, List.getElem?_eq_getElem h]
theorem getD_mem' {α : Type} {l : List α} {i : Nat} (d : α) (h : i < l.length) : l.getD i d ∈ l := by
  rw [List.getD_eq_getElem?_getD, List.getElem?_eq_getElem h]
  exact List.getElem_mem h
theorem getD_set {l : List Int} {i j : Nat} {v : Int} (h : i < l.length) : (l.set i v).getD j 0 = if j = i then v else l.getD j 0 := by
  by_cases e : j = i
  · subst e; simp [List.getD_eq_getElem?_getD, h]
  · rw [if_neg e]
    simp [List.getD_eq_getElem?_getD, List.getElem?_set_ne (fun z => e z.symm)]
/-! ### the program's functions, over lists -/
def reducedM (line pl : List Int) (col : Nat) (scale : Int) : List Int := List.zipWith (fun n o => (n * pl.getD col 0 - line.getD col 0 * o) / scale) line pl
def aboveM (g : List Int) : Option Nat := g.findIdx? fun n => decide (n > 0)
def leaveM (tb : List (List Int)) (bs : List Nat) (col : Nat) : Nat → Option Nat
  | 0 => none
  | i + 1 => if (tb.getD i []).getD col 0 > 0 ∧ (∀ k, leaveM tb bs col i = some k → bs.getD i 0 < bs.getD k 0) then some i else leaveM tb bs col i
def tableM (vs : List (List Int)) (w : Nat) : List (List Int) := (List.range w).map fun a => vs.map (fun v => v.getD a 0) ++ (List.replicate w 0).set a 1
def rayLoop (tb : List (List Int)) (bs : List Nat) (col : Nat) (base : List Int) : Nat → List Int
  | 0 => base
  | i + 1 => (rayLoop tb bs col base i).set (bs.getD i 0) (-((tb.getD i []).getD col 0))
def rayM (tb : List (List Int)) (bs : List Nat) (col : Nat) (scale : Int) (many : Nat) : List Int :=
  (rayLoop tb bs col ((List.replicate (many + tb.length) 0).set col scale) bs.length).take many
structure LS where
  tb : List (List Int)
  gl : List Int
  bs : List Nat
  sc : Int
def LS.step (S : LS) (p r : Nat) : LS where
  tb := S.tb.mapIdx fun a line => if a = p then S.tb.getD p [] else reducedM line (S.tb.getD p []) r S.sc
  gl := reducedM S.gl (S.tb.getD p []) r S.sc
  bs := S.bs.set p r
  sc := (S.tb.getD p []).getD r 0
def startM (vs : List (List Int)) (w : Nat) : LS := ⟨tableM vs w, List.replicate vs.length 1 ++ List.replicate w 0, (List.range w).map fun a => vs.length + a, 1⟩
def LS.tab (S : LS) : Tab := ⟨fun i j => (S.tb.getD i []).getD j 0, fun j => S.gl.getD j 0, fun k => S.bs.getD k 0, S.sc⟩
def colA (vs : List (List Int)) : Nat → Nat → Int := fun j i => if j < vs.length then (vs.getD j []).getD i 0 else if i = j - vs.length then 1 else 0
structure Good (vs : List (List Int)) (w : Nat) (S : LS) : Prop where
  lt : S.tb.length = w
  lr : ∀ i, i < w → (S.tb.getD i []).length = vs.length + w
  lg : S.gl.length = vs.length + w
  lb : S.bs.length = w
  inv : Inv (colA vs) vs.length w S.tab
def runM (m : Nat) : Nat → LS → Option (Bool × List Int)
  | 0, _ => none
  | k + 1, S => match aboveM S.gl with
    | none => some (true, (S.gl.drop m).map fun x => -x)
    | some r => match leaveM S.tb S.bs r S.tb.length with
      | none => some (false, rayM S.tb S.bs r S.sc m)
      | some p => runM m k (S.step p r)
/-! ### the choices -/
theorem above_none {g : List Int} (h : aboveM g = none) (j : Nat) : g.getD j 0 ≤ 0 := by
  unfold aboveM at h
  rw [List.findIdx?_eq_none_iff] at h
  by_cases hj : j < g.length
  · have := h _ (getD_mem' 0 hj)
    simpa using this
  · simp [List.getD_eq_getElem?_getD, List.getElem?_eq_none (Nat.le_of_not_lt hj)]
theorem above_some {g : List Int} {r : Nat} (h : aboveM g = some r) : r < g.length ∧ 0 < g.getD r 0 ∧ ∀ j, j < r → g.getD j 0 ≤ 0 := by
  unfold aboveM at h
  rw [List.findIdx?_eq_some_iff_getElem] at h
  obtain ⟨h1, h2, h3⟩ := h
  refine ⟨h1, ?_, fun j hj => ?_⟩
  · rw [List.getD_eq_getElem?_getD, List.getElem?_eq_getElem h1]
    simpa using h2
  · have := h3 j hj
    rw [List.getD_eq_getElem?_getD, List.getElem?_eq_getElem (by omega)]
    simpa using this
theorem leave_spec {tb : List (List Int)} {bs : List Nat} {col : Nat} : ∀ n : Nat,
    (leaveM tb bs col n = none → ∀ i, i < n → (tb.getD i []).getD col 0 ≤ 0) ∧
    ∀ p, leaveM tb bs col n = some p → p < n ∧ 0 < (tb.getD p []).getD col 0 ∧ ∀ i, i < n → 0 < (tb.getD i []).getD col 0 → bs.getD p 0 ≤ bs.getD i 0
  | 0 => ⟨fun _ i hi => by omega, fun p h => by simp [leaveM] at h⟩
  | n + 1 => by
    obtain ⟨h1, h2⟩ := leave_spec (tb := tb) (bs := bs) (col := col) n
    constructor
    · intro h
      unfold leaveM at h
      split at h
      · cases h
      · rename_i hc
        have hn := h1 h
        intro i hi
        by_cases e : i = n
        · subst e
          refine Int.not_lt.mp fun hp => hc ⟨hp, fun k hk => ?_⟩
          rw [h] at hk; cases hk
        · exact hn i (by omega)
    · intro p h
      unfold leaveM at h
      split at h
      · rename_i hc
        cases h
        refine ⟨by omega, hc.1, fun i hi hp => ?_⟩
        by_cases e : i = n
        · rw [e]; exact Nat.le_refl _
        · cases hl : leaveM tb bs col n with
          | none =>
            have := h1 hl i (by omega)
            omega
          | some k =>
            have a := hc.2 k hl
            have b := (h2 k hl).2.2 i (by omega) hp
            omega
      · rename_i hc
        obtain ⟨a, b, c⟩ := h2 p h
        refine ⟨by omega, b, fun i hi hp => ?_⟩
        by_cases e : i = n
        · subst e
          refine Nat.not_lt.mp fun hlt => hc ⟨hp, fun k hk => ?_⟩
          rw [h] at hk
          cases hk
          exact hlt
        · exact c i (by omega) hp
/-! ### the start, a step -/
section
variable {vs : List (List Int)} {w : Nat} {S : LS}
theorem colA_unit {k i : Nat} : colA vs (vs.length + k) i = if i = k then 1 else 0 := by
  unfold colA
  rw [if_neg (by omega)]
  congr 1
  rw [Nat.add_sub_cancel_left]
theorem start_good (hv : ∀ v ∈ vs, v.length = w) : Good vs w (startM vs w) := by
  have T : ∀ i j, i < w → j < vs.length + w → (startM vs w).tab.T i j = colA vs j i := by
    intro i j hi hj
    show ((tableM vs w).getD i []).getD j 0 = _
    have row : (tableM vs w).getD i [] = vs.map (fun v => v.getD i 0) ++ (List.replicate w 0).set i 1 := by
      unfold tableM
      simp [List.getD_eq_getElem?_getD, List.getElem?_range hi]
    rw [row]
    unfold colA
    by_cases h : j < vs.length
    · rw [if_pos h, List.getD_eq_getElem?_getD, List.getElem?_append_left (by simpa using h), ← List.getD_eq_getElem?_getD, getD_map [] h]
    · rw [if_neg h, List.getD_eq_getElem?_getD, List.getElem?_append_right (by simpa using h), ← List.getD_eq_getElem?_getD, List.length_map, getD_set (by simpa using hi)]
      by_cases e : j - vs.length = i
      · rw [if_pos e, if_pos e.symm]
      · rw [if_neg e, if_neg (fun z => e z.symm)]
        simp [List.getD_eq_getElem?_getD, List.getElem?_replicate]
        split <;> rfl
  have bk : ∀ k, k < w → (startM vs w).tab.b k = vs.length + k := by
    intro k hk
    show ((List.range w).map fun a => vs.length + a).getD k 0 = _
    simp [List.getD_eq_getElem?_getD, List.getElem?_range hk]
  refine ⟨by simp [startM, tableM], fun i hi => ?_, by simp [startM], by simp [startM], ?_⟩
  · show ((tableM vs w).getD i []).length = _
    unfold tableM
    rw [List.getD_eq_getElem?_getD, List.getElem?_map, List.getElem?_range hi]
    simp
  · refine ⟨by show (0 : Int) < 1; decide, fun k hk => by rw [bk k hk]; omega, fun j hj i hi => ?_, fun k hk j hj => ?_, fun j hj => ?_, fun i hi k hk => ?_, ?_⟩
    · show (1 : Int) * _ = _
      rw [sumN_one hi (fun k hk ne => by rw [bk k hk, colA_unit, if_neg (fun z => ne z.symm)]; simp), bk i hi, colA_unit, if_pos rfl, T i j hi hj]
      omega
    · rw [sumN_one hk (fun i hi ne => by rw [T k _ hk (by omega), colA_unit, if_neg (fun z => ne z.symm)]; simp), T k (vs.length + k) hk (by omega), colA_unit, if_pos rfl, T k j hk hj]
      omega
    · rw [sumN_zero (fun k hk => by rw [bk k hk, if_neg (by omega)]; simp)]
      show (List.replicate vs.length (1 : Int) ++ List.replicate w 0).getD j 0 = 1 * _ - 0
      by_cases h : j < vs.length
      · rw [if_pos h, List.getD_eq_getElem?_getD, List.getElem?_append_left (by simpa using h), List.getElem?_replicate, if_pos h]
        rfl
      · rw [if_neg h, List.getD_eq_getElem?_getD, List.getElem?_append_right (by simpa using h), List.getElem?_replicate]
        split <;> rfl
    · rw [bk k hk, T i _ hi (by omega), colA_unit]
      rfl
    · have e : det w (fun k => colA vs ((startM vs w).tab.b k)) = det w unitc := det_congr fun k hk i hi => by rw [bk k hk, colA_unit]; rfl
      rw [e]
      exact det_id w
theorem step_good (G : Good vs w S) {p r : Nat} (hp : p < w) (hr : r < vs.length + w) (hT : 0 < (S.tb.getD p []).getD r 0) : Good vs w (S.step p r) := by
  have lred : ∀ (l : List Int), l.length = vs.length + w → (reducedM l (S.tb.getD p []) r S.sc).length = vs.length + w := fun l hl => by
    unfold reducedM
    rw [List.length_zipWith, hl, G.lr p hp, Nat.min_self]
  have row : ∀ i, i < w → (S.step p r).tb.getD i [] = if i = p then S.tb.getD p [] else reducedM (S.tb.getD i []) (S.tb.getD p []) r S.sc := fun i hi => by
    have hi' : i < S.tb.length := by rw [G.lt]; exact hi
    show (S.tb.mapIdx fun a line => if a = p then S.tb.getD p [] else reducedM line (S.tb.getD p []) r S.sc).getD i [] = _
    rw [List.getD_eq_getElem?_getD, List.getElem?_mapIdx, List.getElem?_eq_getElem hi', List.getD_eq_getElem?_getD (l := S.tb) (i := i), List.getElem?_eq_getElem hi']
    rfl
  have ent : ∀ (l : List Int), l.length = vs.length + w → ∀ j, j < vs.length + w → (reducedM l (S.tb.getD p []) r S.sc).getD j 0 = (l.getD j 0 * S.tab.T p r - l.getD r 0 * S.tab.T p j) / S.sc := fun l hl j hj => by
    unfold reducedM
    rw [zipWith_getD (by omega) (by rw [G.lr p hp]; omega)]
    rfl
  refine ⟨by show (S.tb.mapIdx _).length = w; rw [List.length_mapIdx, G.lt], fun i hi => ?_, lred _ G.lg, by show (S.bs.set p r).length = w; rw [List.length_set, G.lb], ?_⟩
  · rw [row i hi]
    split
    · exact G.lr p hp
    · exact lred _ (G.lr i hi)
  · refine G.inv.pivot hp hr hT rfl (fun k hk => ?_) (fun j hj => ?_) (fun i hi ne j hj => ?_) (fun j hj => ?_)
    · show (S.bs.set p r).getD k 0 = _
      have hp' : p < S.bs.length := by rw [G.lb]; exact hp
      by_cases e : k = p
      · subst e; simp [List.getD_eq_getElem?_getD, hp']
      · rw [if_neg e]
        show _ = S.bs.getD k 0
        simp [List.getD_eq_getElem?_getD, List.getElem?_set_ne (fun z => e z.symm)]
    · show ((S.step p r).tb.getD p []).getD j 0 = _
      rw [row p hp, if_pos rfl]
      rfl
    · show S.sc * ((S.step p r).tb.getD i []).getD j 0 = _
      rw [row i hi, if_neg ne, ent _ (G.lr i hi) j hj]
      exact Int.mul_ediv_cancel' (G.inv.dvd hi hp hj hr)
    · show S.sc * (reducedM S.gl (S.tb.getD p []) r S.sc).getD j 0 = _
      rw [ent _ G.lg j hj]
      exact Int.mul_ediv_cancel' (G.inv.dvdG hp hj hr)
theorem step_pick (G : Good vs w S) {p r : Nat} (hr : aboveM S.gl = some r) (hp : leaveM S.tb S.bs r S.tb.length = some p) : p < w ∧ r < vs.length + w ∧ 0 < (S.tb.getD p []).getD r 0 ∧ Pick vs.length w S.tab (S.step p r).tab p r := by
  obtain ⟨a1, a2, a3⟩ := above_some hr
  obtain ⟨b1, b2, b3⟩ := (leave_spec (tb := S.tb) (bs := S.bs) (col := r) S.tb.length).2 p hp
  rw [G.lt] at b1 b3
  rw [G.lg] at a1
  refine ⟨b1, a1, b2, b1, a1, b2, a2, a3, b3, fun k hk => ?_⟩
  show (S.bs.set p r).getD k 0 = _
  have hp' : p < S.bs.length := by rw [G.lb]; exact b1
  by_cases e : k = p
  · subst e; simp [List.getD_eq_getElem?_getD, hp']
  · rw [if_neg e]
    show _ = S.bs.getD k 0
    simp [List.getD_eq_getElem?_getD, List.getElem?_set_ne (fun z => e z.symm)]
/-! ### it ends -/
def nxM (S : LS) : LS := match aboveM S.gl with
  | none => S
  | some r => match leaveM S.tb S.bs r S.tb.length with
    | none => S
    | some p => S.step p r
def itM : Nat → LS → LS
  | 0, S => S
  | n + 1, S => nxM (itM n S)
theorem itM_front : ∀ (n : Nat) (S : LS), itM (n + 1) S = itM n (nxM S)
  | 0, _ => rfl
  | n + 1, S => by rw [itM, itM_front n S]; rfl
theorem run_none : ∀ (k : Nat) (S : LS), runM vs.length k S = none → ∀ t, t < k → ∃ r p, aboveM (itM t S).gl = some r ∧ leaveM (itM t S).tb (itM t S).bs r (itM t S).tb.length = some p
  | 0, _, _, t, ht => by omega
  | k + 1, S, h, t, ht => by
    unfold runM at h
    split at h
    · cases h
    · rename_i r hr
      split at h
      · cases h
      · rename_i p hp
        cases t with
        | zero => exact ⟨r, p, hr, hp⟩
        | succ t =>
          rw [itM_front]
          have e : nxM S = S.step p r := by unfold nxM; rw [hr]; simp only [hp]
          rw [e]
          exact run_none k _ h t (by omega)
theorem nx_good (G : Good vs w S) : Good vs w (nxM S) := by
  unfold nxM
  split
  · exact G
  · rename_i r hr
    split
    · exact G
    · rename_i p hp
      obtain ⟨a, b, c, _⟩ := step_pick G hr hp
      exact step_good G a b c
theorem it_good (G : Good vs w S) : ∀ t, Good vs w (itM t S)
  | 0 => G
  | t + 1 => nx_good (it_good G t)
theorem run_ends (G : Good vs w S) : ∃ R, runM vs.length ((vs.length + w) ^ w) S = some R := by
  cases e : runM vs.length ((vs.length + w) ^ w) S with
  | some R => exact ⟨R, rfl⟩
  | none =>
    have h := run_none (vs := vs) _ S e
    have key := short (A := colA vs) (m := vs.length) (w := w) (N := (vs.length + w) ^ w) (st := fun t => (itM t S).tab)
      (p := fun t => (leaveM (itM t S).tb (itM t S).bs ((aboveM (itM t S).gl).getD 0) (itM t S).tb.length).getD 0) (r := fun t => (aboveM (itM t S).gl).getD 0)
      (fun t _ => (it_good G t).inv) (fun t ht => by
        obtain ⟨r, p, hr, hp⟩ := h t ht
        have e2 : itM (t + 1) S = (itM t S).step p r := by
          show nxM (itM t S) = _
          unfold nxM
          rw [hr]
          simp only [hp]
        obtain ⟨_, _, _, P⟩ := step_pick (it_good G t) hr hp
        rw [← e2] at P
        simp only [hr, Option.getD_some, hp]
        exact P)
    exact absurd key (Nat.lt_irrefl _)
end
end K69

/-! ## KM2 -/
namespace K69
theorem sumN_nonneg {n : Nat} {f : Nat → Int} (h : ∀ k, k < n → 0 ≤ f k) : 0 ≤ sumN n f := by
  induction n with
  | zero => exact Int.le_refl 0
  | succ n ih => rw [sumN]; have := ih (fun k hk => h k (by omega)); have := h n (by omega); omega
theorem sumN_pos {n p : Nat} {f : Nat → Int} (h : ∀ k, k < n → 0 ≤ f k) (hp : p < n) (hf : 0 < f p) : 0 < sumN n f := by
  rw [sumN_split f hp]
  have : 0 ≤ sumN n (fun k => if k = p then 0 else f k) := sumN_nonneg fun k hk => by split; omega; exact h k hk
  omega
theorem sumN_add (n m : Nat) (f : Nat → Int) : sumN (n + m) f = sumN n f + sumN m fun k => f (n + k) := by
  induction m with
  | zero => simp [sumN]
  | succ m ih => rw [← Nat.add_assoc, sumN, ih, sumN]; omega
/-- one value changed -/
theorem sumN_upd {n p : Nat} (hp : p < n) (y : Nat → Int) (v : Int) (f : Nat → Int) : sumN n (fun j => (if j = p then v else y j) * f j) = sumN n (fun j => y j * f j) + (v - y p) * f p := by
  rw [sumN_split _ hp, sumN_split (fun j => y j * f j) hp, if_pos rfl]
  rw [sumN_congr (f := fun k => if k = p then 0 else (if k = p then v else y k) * f k) (g := fun k => if k = p then 0 else y k * f k) (fun k _ => by split <;> rfl)]
  grind
section
variable {vs : List (List Int)} {w : Nat} {S : LS}
/-! ### the ray -/
theorem ray_len (bs : List Nat) (tb : List (List Int)) (col : Nat) (base : List Int) : ∀ k, (rayLoop tb bs col base k).length = base.length
  | 0 => rfl
  | k + 1 => by unfold rayLoop; rw [List.length_set, ray_len bs tb col base k]
/-- the ray's sums: s at r, -T k r at b k -/
theorem ray_sum (G : Good vs w S) {r : Nat} (hr : r < vs.length + w) (hg : 0 < S.gl.getD r 0) (f : Nat → Int) : ∀ k, k ≤ w →
    sumN (vs.length + w) (fun j => (rayLoop S.tb S.bs r ((List.replicate (vs.length + w) 0).set r S.sc) k).getD j 0 * f j) = S.sc * f r - sumN k (fun i => S.tab.T i r * f (S.tab.b i)) ∧
    (∀ i, k ≤ i → i < w → (rayLoop S.tb S.bs r ((List.replicate (vs.length + w) 0).set r S.sc) k).getD (S.tab.b i) 0 = 0)
  | 0, _ => by
    have z : ∀ j, (List.replicate (vs.length + w) (0 : Int)).getD j 0 = 0 := fun j => by
      simp [List.getD_eq_getElem?_getD, List.getElem?_replicate]
      split <;> rfl
    have e : ∀ j, ((List.replicate (vs.length + w) (0 : Int)).set r S.sc).getD j 0 = if j = r then S.sc else 0 := fun j => by
      rw [getD_set (by simpa using hr), z]
    refine ⟨?_, fun i _ hi => ?_⟩
    · show sumN _ (fun j => ((List.replicate (vs.length + w) (0 : Int)).set r S.sc).getD j 0 * f j) = _ - 0
      rw [sumN_one hr (fun j hj ne => by rw [e, if_neg ne]; simp), e, if_pos rfl]
      omega
    · show ((List.replicate (vs.length + w) (0 : Int)).set r S.sc).getD (S.tab.b i) 0 = 0
      rw [e, if_neg (fun z => ?_)]
      have := G.inv.gb hi
      rw [z] at this
      have h2 : S.tab.g r = S.gl.getD r 0 := rfl
      omega
  | k + 1, hk => by
    obtain ⟨h1, h2⟩ := ray_sum G hr hg f k (by omega)
    have hb := G.inv.blt k (by omega)
    have hl : S.tab.b k < (rayLoop S.tb S.bs r ((List.replicate (vs.length + w) 0).set r S.sc) k).length := by
      rw [ray_len]; simpa using hb
    have e : ∀ j, (rayLoop S.tb S.bs r ((List.replicate (vs.length + w) 0).set r S.sc) (k + 1)).getD j 0 = if j = S.tab.b k then - S.tab.T k r else (rayLoop S.tb S.bs r ((List.replicate (vs.length + w) 0).set r S.sc) k).getD j 0 := fun j => by
      show ((rayLoop S.tb S.bs r ((List.replicate (vs.length + w) 0).set r S.sc) k).set (S.tab.b k) (- S.tab.T k r)).getD j 0 = _
      rw [getD_set hl]
    refine ⟨?_, fun i hi hiw => ?_⟩
    · rw [sumN_congr (g := fun j => (if j = S.tab.b k then - S.tab.T k r else (rayLoop S.tb S.bs r ((List.replicate (vs.length + w) 0).set r S.sc) k).getD j 0) * f j) (fun j _ => by rw [e j]),
        sumN_upd hb, h1, h2 k (Nat.le_refl _) (by omega), sumN]
      grind
    · rw [e, if_neg (fun z => ?_)]
      · exact h2 i (by omega) hiw
      · have := G.inv.inj hiw (show k < w by omega) z
        omega
theorem ray_nonneg (hs : 0 ≤ S.sc) {r n : Nat} (hT : ∀ k, k < S.bs.length → S.tab.T k r ≤ 0) : ∀ k, k ≤ S.bs.length → ∀ x ∈ rayLoop S.tb S.bs r ((List.replicate n 0).set r S.sc) k, 0 ≤ x
  | 0, _, x, h => by
    rcases List.mem_or_eq_of_mem_set h with e | e
    · rw [List.eq_of_mem_replicate e]; exact Int.le_refl 0
    · rw [e]; exact hs
  | k + 1, hk, x, h => by
    unfold rayLoop at h
    rcases List.mem_or_eq_of_mem_set h with e | e
    · exact ray_nonneg hs hT k (by omega) x e
    · have := hT k (by omega)
      have e2 : x = - S.tab.T k r := e
      omega
/-! ### what is told -/
def IsW (vs : List (List Int)) (w : Nat) (ws : List Int) : Prop := ws.length = w ∧ (∀ x ∈ ws, 0 ≤ x) ∧ ∀ v ∈ vs, 0 < dotM v ws
def colDot (vs : List (List Int)) (cs : List Int) (i : Nat) : Int := (List.zipWith (fun (v : List Int) x => v.getD i 0 * x) vs cs).sum
def IsC (vs : List (List Int)) (w : Nat) (cs : List Int) : Prop := cs.length = vs.length ∧ (∀ x ∈ cs, 0 ≤ x) ∧ (∃ x ∈ cs, 0 < x) ∧ ∀ i, i < w → colDot vs cs i ≤ 0
theorem colDot_sum {cs : List Int} {i : Nat} (h : cs.length = vs.length) : colDot vs cs i = sumN vs.length fun j => (vs.getD j []).getD i 0 * cs.getD j 0 := by
  unfold colDot
  rw [sum_list]
  have hl : (List.zipWith (fun (v : List Int) x => v.getD i 0 * x) vs cs).length = vs.length := by simp [h]
  rw [hl]
  refine sumN_congr fun j hj => ?_
  have hj2 : j < cs.length := by omega
  simp [List.getD_eq_getElem?_getD, List.getElem?_zipWith, List.getElem?_eq_getElem hj, List.getElem?_eq_getElem hj2]
theorem end_weights (hv : ∀ v ∈ vs, v.length = w) (G : Good vs w S) (h : aboveM S.gl = none) : IsW vs w ((S.gl.drop vs.length).map fun x => -x) := by
  have hl : ((S.gl.drop vs.length).map fun x => -x).length = w := by
    rw [List.length_map, List.length_drop, G.lg]; omega
  have hg : ∀ i, i < w → ((S.gl.drop vs.length).map fun x => -x).getD i 0 = - S.gl.getD (vs.length + i) 0 := fun i hi => by
    rw [getD_map 0 (by rw [List.length_drop, G.lg]; omega)]
    simp [List.getD_eq_getElem?_getD, List.getElem?_drop]
  refine ⟨hl, fun x hx => ?_, fun v hv' => ?_⟩
  · obtain ⟨i, hi, e⟩ := List.mem_iff_getElem.mp hx
    have e2 : x = ((S.gl.drop vs.length).map fun x => -x).getD i 0 := by
      rw [List.getD_eq_getElem?_getD, List.getElem?_eq_getElem hi]; exact e.symm
    rw [e2, hg i (by omega)]
    have := above_none h (vs.length + i)
    omega
  · obtain ⟨j, hj, e⟩ := List.mem_iff_getElem.mp hv'
    have e2 : v = vs.getD j [] := by rw [List.getD_eq_getElem?_getD, List.getElem?_eq_getElem hj]; exact e.symm
    rw [dot_sum (hv v hv') hl]
    have D := G.inv.D (j := j) (by omega)
    rw [if_pos hj] at D
    have n := above_none h j
    have e3 : sumN w (fun i => v.getD i 0 * ((S.gl.drop vs.length).map fun x => -x).getD i 0) = -1 * sumN w fun i => S.tab.g (vs.length + i) * colA vs j i := by
      rw [← sumN_mul]
      refine sumN_congr fun i hi => ?_
      rw [hg i hi]
      have c : colA vs j i = v.getD i 0 := by unfold colA; rw [if_pos hj, e2]
      rw [c]
      show v.getD i 0 * - S.gl.getD (vs.length + i) 0 = -1 * (S.gl.getD (vs.length + i) 0 * v.getD i 0)
      grind
    rw [e3]
    have hs := G.inv.pos
    have gj : S.tab.g j = S.gl.getD j 0 := rfl
    omega
theorem end_counter (G : Good vs w S) {r : Nat} (hr : aboveM S.gl = some r) (h : leaveM S.tb S.bs r S.tb.length = none) : IsC vs w (rayM S.tb S.bs r S.sc vs.length) := by
  obtain ⟨r1, r2, r3⟩ := above_some hr
  rw [G.lg] at r1
  have hT : ∀ k, k < w → S.tab.T k r ≤ 0 := fun k hk => (leave_spec (tb := S.tb) (bs := S.bs) (col := r) S.tb.length).1 h k (by rw [G.lt]; exact hk)
  have eR : rayM S.tb S.bs r S.sc vs.length = (rayLoop S.tb S.bs r ((List.replicate (vs.length + w) 0).set r S.sc) w).take vs.length := by
    unfold rayM; rw [G.lt, G.lb]
  have lR : (rayLoop S.tb S.bs r ((List.replicate (vs.length + w) 0).set r S.sc) w).length = vs.length + w := by rw [ray_len]; simp
  have nn := ray_nonneg (S := S) (n := vs.length + w) (Int.le_of_lt G.inv.pos) (r := r) (fun k hk => hT k (by rw [← G.lb]; exact hk)) w (by rw [G.lb]; exact Nat.le_refl _)
  have hl : (rayM S.tb S.bs r S.sc vs.length).length = vs.length := by rw [eR, List.length_take, lR]; omega
  have get : ∀ j, j < vs.length → (rayM S.tb S.bs r S.sc vs.length).getD j 0 = (rayLoop S.tb S.bs r ((List.replicate (vs.length + w) 0).set r S.sc) w).getD j 0 := fun j hj => by
    rw [eR]; simp [List.getD_eq_getElem?_getD, List.getElem?_take_of_lt hj]
  have nnG : ∀ j, j < vs.length + w → 0 ≤ (rayLoop S.tb S.bs r ((List.replicate (vs.length + w) 0).set r S.sc) w).getD j 0 := fun j hj => nn _ (getD_mem' 0 (by rw [lR]; exact hj))
  refine ⟨hl, fun x hx => nn x (by rw [eR] at hx; exact List.mem_of_mem_take hx), ?_, fun i hi => ?_⟩
  · refine Classical.byContradiction fun no => ?_
    have s1 := (ray_sum G r1 r2 (fun j => if j < vs.length then 1 else 0) w (Nat.le_refl _)).1
    have Gr : S.gl.getD r 0 = S.sc * (if r < vs.length then 1 else 0) - sumN w (fun i => S.tab.T i r * (if S.tab.b i < vs.length then 1 else 0)) := G.inv.G r r1
    have z : sumN (vs.length + w) (fun j => (rayLoop S.tb S.bs r ((List.replicate (vs.length + w) 0).set r S.sc) w).getD j 0 * (if j < vs.length then 1 else 0)) = 0 := by
      refine sumN_zero fun j hj => ?_
      by_cases hj2 : j < vs.length
      · rw [if_pos hj2, ← get j hj2]
        have a1 := getD_mem' (l := rayM S.tb S.bs r S.sc vs.length) 0 (show j < _ by rw [hl]; exact hj2)
        have a2 := nnG j hj
        rw [← get j hj2] at a2
        have a3 : ¬ 0 < (rayM S.tb S.bs r S.sc vs.length).getD j 0 := fun q => no ⟨_, a1, q⟩
        omega
      · rw [if_neg hj2]; simp
    rw [z] at s1
    omega
  · rw [colDot_sum hl]
    have s1 := (ray_sum G r1 r2 (fun j => colA vs j i) w (Nat.le_refl _)).1
    have K := G.inv.K r r1 i hi
    rw [sumN_add] at s1
    have e1 : sumN vs.length (fun j => (rayLoop S.tb S.bs r ((List.replicate (vs.length + w) 0).set r S.sc) w).getD j 0 * colA vs j i) = sumN vs.length fun j => (vs.getD j []).getD i 0 * (rayM S.tb S.bs r S.sc vs.length).getD j 0 := by
      refine sumN_congr fun j hj => ?_
      rw [get j hj]
      have c : colA vs j i = (vs.getD j []).getD i 0 := by unfold colA; rw [if_pos hj]
      rw [c, Int.mul_comm]
    have e2 : sumN w (fun k => (rayLoop S.tb S.bs r ((List.replicate (vs.length + w) 0).set r S.sc) w).getD (vs.length + k) 0 * colA vs (vs.length + k) i) = (rayLoop S.tb S.bs r ((List.replicate (vs.length + w) 0).set r S.sc) w).getD (vs.length + i) 0 := by
      rw [sumN_one hi (fun k hk ne => by rw [colA_unit, if_neg (fun z => ne z.symm)]; simp), colA_unit, if_pos rfl]
      omega
    rw [e1, e2] at s1
    have n2 := nnG (vs.length + i) (by omega)
    have K' : S.sc * colA vs r i = sumN w fun k => S.tab.T k r * colA vs (S.tab.b k) i := K
    omega
theorem run_told (hv : ∀ v ∈ vs, v.length = w) : ∀ (k : Nat) (S : LS) (R : Bool × List Int), Good vs w S → runM vs.length k S = some R → (R.1 = true ∧ IsW vs w R.2) ∨ (R.1 = false ∧ IsC vs w R.2)
  | 0, _, _, _, h => by cases h
  | k + 1, S, R, G, h => by
    unfold runM at h
    split at h
    · rename_i h0
      cases h
      exact .inl ⟨rfl, end_weights hv G h0⟩
    · rename_i r hr
      split at h
      · rename_i hp
        cases h
        exact .inr ⟨rfl, end_counter G hr hp⟩
      · rename_i p hp
        obtain ⟨a, b, c, _⟩ := step_pick G hr hp
        exact run_told hv k _ R (step_good G a b c) h
/-! ### never both -/
theorem not_both {ws cs : List Int} (hv : ∀ v ∈ vs, v.length = w) (hW : IsW vs w ws) (hC : IsC vs w cs) : False := by
  obtain ⟨w1, w2, w3⟩ := hW
  obtain ⟨c1, c2, ⟨x, cx, xp⟩, c4⟩ := hC
  have key : sumN vs.length (fun j => cs.getD j 0 * dotM (vs.getD j []) ws) = sumN w fun i => ws.getD i 0 * colDot vs cs i := by
    have e1 : sumN vs.length (fun j => cs.getD j 0 * dotM (vs.getD j []) ws) = sumN vs.length fun j => sumN w fun i => cs.getD j 0 * ((vs.getD j []).getD i 0 * ws.getD i 0) := by
      refine sumN_congr fun j hj => ?_
      rw [dot_sum (hv _ (getD_mem' [] hj)) w1, sumN_mul]
    rw [e1, sumN_swap]
    refine sumN_congr fun i hi => ?_
    rw [colDot_sum c1, ← sumN_mul]
    exact sumN_congr fun j _ => by grind
  obtain ⟨j, hj, e⟩ := List.mem_iff_getElem.mp cx
  have cj : cs.getD j 0 = x := by rw [List.getD_eq_getElem?_getD, List.getElem?_eq_getElem hj]; exact e
  have nn : ∀ i, i < vs.length → 0 ≤ cs.getD i 0 := fun i hi => c2 _ (getD_mem' 0 (by omega))
  have pos : 0 < sumN vs.length (fun j => cs.getD j 0 * dotM (vs.getD j []) ws) := by
    refine sumN_pos (p := j) (fun i hi => ?_) (by omega) ?_
    · exact Int.mul_nonneg (nn i hi) (Int.le_of_lt (w3 _ (getD_mem' [] hi)))
    · rw [cj]; exact Int.mul_pos xp (w3 _ (getD_mem' [] (by omega)))
  have neg : sumN w (fun i => ws.getD i 0 * colDot vs cs i) ≤ 0 := sumN_le fun i hi => Int.mul_nonpos_of_nonneg_of_nonpos (w2 _ (getD_mem' 0 (by omega))) (c4 i hi)
  omega
end
/-! ### weigh -/
def weighM (vs : List (List Int)) (w : Nat) : Bool × List Int := (runM vs.length ((vs.length + w) ^ w) (startM vs w)).getD (true, [])
theorem weigh_run {vs : List (List Int)} {w : Nat} (hv : ∀ v ∈ vs, v.length = w) : runM vs.length ((vs.length + w) ^ w) (startM vs w) = some (weighM vs w) := by
  obtain ⟨R, h⟩ := run_ends (start_good hv)
  unfold weighM
  rw [h]; rfl
theorem weigh_told {vs : List (List Int)} {w : Nat} (hv : ∀ v ∈ vs, v.length = w) : ((weighM vs w).1 = true ∧ IsW vs w (weighM vs w).2) ∨ ((weighM vs w).1 = false ∧ IsC vs w (weighM vs w).2) :=
  run_told hv _ _ _ (start_good hv) (weigh_run hv)
def HasW (vs : List (List Int)) (w : Nat) : Prop := ∃ ws, IsW vs w ws
theorem weigh_iff {vs : List (List Int)} {w : Nat} (hv : ∀ v ∈ vs, v.length = w) : (weighM vs w).1 = true ↔ HasW vs w := by
  rcases weigh_told hv with ⟨a, b⟩ | ⟨a, b⟩
  · exact ⟨fun _ => ⟨_, b⟩, fun _ => a⟩
  · refine ⟨fun e => ?_, fun ⟨ws, h⟩ => (not_both hv h b).elim⟩
    rw [a] at e; cases e
end K69

/-! ## KB -/
namespace K69
open PySem PySem.Spec PyProof.Rows L2
/-! ### the text by places -/
abbrev topS (i : Nat) : Stmt := PySem.Challenge.pw_firstdecides_k69_whole_weights_or_counte.main.body.getD i (.Pass ⟨0, 0, 0, 0⟩)
/-! ### data that stands in the heap, away from B -/
mutual
inductive At (B : Addr) (H : Hp) : V → PyData → Prop
  | non : At B H .non .none
  | bl (b : Bool) : At B H (.bl b) (.bool b)
  | int (i : Int) : At B H (.int i) (.int i)
  | str (x : Str) : At B H (.str x) (.str x)
  | lst {a : Addr} {xs : List V} {ds : List PyData} : a ≠ B → H a = some (.lst xs) → AtAll B H xs ds → At B H (.ref a) (.list ds)
  | tup {a : Addr} {xs : List V} {ds : List PyData} : a ≠ B → H a = some (.tup xs) → AtAll B H xs ds → At B H (.ref a) (.tuple ds)
inductive AtAll (B : Addr) (H : Hp) : List V → List PyData → Prop
  | nil : AtAll B H [] []
  | cons {v : V} {vs : List V} {d : PyData} {ds : List PyData} : At B H v d → AtAll B H vs ds → AtAll B H (v :: vs) (d :: ds)
end
/-- all that stood away from B stands -/
def Sb (B : Addr) (H H' : Hp) : Prop := ∀ b o, b ≠ B → H b = some o → H' b = some o
theorem Sb.refl {B : Addr} {H : Hp} : Sb B H H := fun _ _ _ e => e
theorem Sb.trans {B : Addr} {H H1 H2 : Hp} (a : Sb B H H1) (b : Sb B H1 H2) : Sb B H H2 := fun c o n e => b c o n (a c o n e)
theorem Sb.of {B : Addr} {H H' : Hp} (s : Same H H') : Sb B H H' := fun b o _ e => s b o e
mutual
theorem At.sb {B : Addr} {H H' : Hp} (s : Sb B H H') : ∀ {v : V} {d : PyData}, At B H v d → At B H' v d
  | _, _, .non => .non
  | _, _, .bl b => .bl b
  | _, _, .int i => .int i
  | _, _, .str x => .str x
  | _, _, .lst n e a => .lst n (s _ _ n e) (AtAll.sb s a)
  | _, _, .tup n e a => .tup n (s _ _ n e) (AtAll.sb s a)
theorem AtAll.sb {B : Addr} {H H' : Hp} (s : Sb B H H') : ∀ {vs : List V} {ds : List PyData}, AtAll B H vs ds → AtAll B H' vs ds
  | _, _, .nil => .nil
  | _, _, .cons a r => .cons (At.sb s a) (AtAll.sb s r)
end
mutual
theorem At.dp {B : Addr} {K : PySem.W.Frag} {H : Hp} : ∀ {v : V} {d : PyData}, At B H v d → Dp K H v d
  | _, _, .non => .non
  | _, _, .bl b => .bl b
  | _, _, .int i => .int i
  | _, _, .str x => .str x
  | _, _, .lst _ e a => .lst (SqL.of e) (AtAll.dp a)
  | _, _, .tup _ e a => .tup (SqT.of e) (AtAll.dp a)
theorem AtAll.dp {B : Addr} {K : PySem.W.Frag} {H : Hp} : ∀ {vs : List V} {ds : List PyData}, AtAll B H vs ds → DpAll K H vs ds
  | _, _, .nil => .nil
  | _, _, .cons a r => .cons (At.dp a) (AtAll.dp r)
end
section
variable {B : Addr} {H H' : Hp}
theorem AtAll.len : ∀ {vs : List V} {ds : List PyData}, AtAll B H vs ds → vs.length = ds.length
  | _, _, .nil => rfl
  | _, _, .cons _ r => congrArg Nat.succ r.len
theorem AtAll.get : ∀ {vs : List V} {ds : List PyData} {i : Nat} {d : PyData}, AtAll B H vs ds → ds[i]? = some d → ∃ v, vs[i]? = some v ∧ At B H v d
  | _, _, _, _, .nil, h => by simp at h
  | _, _, 0, _, .cons a _, h => by
    have e := Option.some.inj h
    subst e
    exact ⟨_, rfl, a⟩
  | _, _, i + 1, _, .cons _ r, h => by
    obtain ⟨v, h1, h2⟩ := r.get (i := i) (by simpa using h)
    exact ⟨v, by simpa using h1, h2⟩
theorem AtAll.getV : ∀ {vs : List V} {ds : List PyData} {i : Nat} {v : V}, AtAll B H vs ds → vs[i]? = some v → ∃ d, ds[i]? = some d ∧ At B H v d
  | _, _, _, _, .nil, h => by simp at h
  | _, _, 0, _, .cons a _, h => by
    have e := Option.some.inj h
    subst e
    exact ⟨_, rfl, a⟩
  | _, _, i + 1, _, .cons _ r, h => by
    obtain ⟨v, h1, h2⟩ := r.getV (i := i) (by simpa using h)
    exact ⟨v, by simpa using h1, h2⟩
theorem AtAll.append : ∀ {vs ws : List V} {ds es : List PyData}, AtAll B H vs ds → AtAll B H ws es → AtAll B H (vs ++ ws) (ds ++ es)
  | _, _, _, _, .nil, h => h
  | _, _, _, _, .cons a r, h => .cons a (r.append h)
theorem AtAll.take : ∀ {vs : List V} {ds : List PyData} (n : Nat), AtAll B H vs ds → AtAll B H (vs.take n) (ds.take n)
  | _, _, 0, _ => .nil
  | _, _, _ + 1, .nil => .nil
  | _, _, n + 1, .cons a r => .cons a (r.take n)
theorem AtAll.drop : ∀ {vs : List V} {ds : List PyData} (n : Nat), AtAll B H vs ds → AtAll B H (vs.drop n) (ds.drop n)
  | _, _, 0, h => h
  | _, _, _ + 1, .nil => .nil
  | _, _, n + 1, .cons _ r => r.drop n
theorem At.intI {x : V} {i : Int} (h : At B H x (.int i)) : x = .int i := by cases h; rfl
theorem At.strI {x : V} {i : Str} (h : At B H x (.str i)) : x = .str i := by cases h; rfl
theorem At.lstI {x : V} {ds : List PyData} (h : At B H x (.list ds)) : ∃ a xs, x = .ref a ∧ a ≠ B ∧ H a = some (.lst xs) ∧ AtAll B H xs ds := by
  cases h with
  | lst n e a => exact ⟨_, _, rfl, n, e, a⟩
theorem At.tupI {x : V} {ds : List PyData} (h : At B H x (.tuple ds)) : ∃ a xs, x = .ref a ∧ a ≠ B ∧ H a = some (.tup xs) ∧ AtAll B H xs ds := by
  cases h with
  | tup n e a => exact ⟨_, _, rfl, n, e, a⟩
theorem atInts (ns : List Int) : AtAll B H (ns.map V.int) (ns.map PyData.int) := by
  induction ns with
  | nil => exact .nil
  | cons n ns ih => exact .cons (.int n) ih
theorem ints_of : ∀ {ns : List Int} {xs : List V}, AtAll B H xs (ns.map PyData.int) → xs = ns.map V.int
  | [], _, h => by cases h; rfl
  | n :: ns, _, h => by
    cases h with
    | cons a r => rw [a.intI, ints_of r]; rfl
/-- a vector -/
abbrev dV (v : List Int) : PyData := .tuple (v.map .int)
theorem At.vec {x : V} {v : List Int} (h : At B H x (dV v)) : ∃ a, x = .ref a ∧ a ≠ B ∧ H a = some (.tup (v.map V.int)) := by
  obtain ⟨a, xs, e, n, ha, hs⟩ := h.tupI
  rw [ints_of hs] at ha
  exact ⟨a, e, n, ha⟩
theorem vecAt {a : Addr} {v : List Int} (n : a ≠ B) (h : H a = some (.tup (v.map V.int))) : At B H (.ref a) (dV v) := .tup n h (atInts v)
end
theorem same_upd {H : Hp} {p : Addr} {o : HO} (h : H p = none) : Same H (upd H p o) := fun b x e => by
  rw [upd_ne (ne_of_none e h)]
  exact e
theorem sb_upd {H : Hp} {B : Addr} {o : HO} : Sb B H (upd H B o) := fun b x n e => by
  rw [upd_ne n]
  exact e
/-! ### kinds -/
def typ : PyData → String
  | .none => "NoneType"
  | .bool _ => "bool"
  | .int _ => "int"
  | .str _ => "str"
  | .list _ => "list"
  | .tuple _ => "tuple"
  | .dict _ => "dict"
theorem At.ty {B : Addr} {K : PySem.W.Frag} {H : Hp} {v : V} {d : PyData} (h : At B H v d) : TyX K H v (.type (typ d)) := by
  cases h with
  | non => exact .base .non
  | bl b => exact .base (.bl b)
  | int i => exact .base (.int i)
  | str x => exact .base (.str x)
  | lst _ e _ => exact .base (.lst e)
  | tup _ e _ => exact .base (.tup e)
def isInt : PyData → Bool
  | .int _ => true
  | .bool _ => true
  | _ => false
def isBool : PyData → Bool
  | .bool _ => true
  | _ => false
def isTup : PyData → Bool
  | .tuple _ => true
  | _ => false
def isLst : PyData → Bool
  | .list _ => true
  | _ => false
def isStr : PyData → Bool
  | .str _ => true
  | _ => false
def isDct : PyData → Bool
  | .dict _ => true
  | _ => false
theorem kit_int (d : PyData) : kitB (typ d) "int" = some (isInt d) := match d with
  | .none => (by decide +kernel : kitB "NoneType" "int" = some false)
  | .bool _ => (by decide +kernel : kitB "bool" "int" = some true)
  | .int _ => (by decide +kernel : kitB "int" "int" = some true)
  | .str _ => (by decide +kernel : kitB "str" "int" = some false)
  | .list _ => (by decide +kernel : kitB "list" "int" = some false)
  | .tuple _ => (by decide +kernel : kitB "tuple" "int" = some false)
  | .dict _ => (by decide +kernel : kitB "dict" "int" = some false)
theorem kit_bool (d : PyData) : kitB (typ d) "bool" = some (isBool d) := match d with
  | .none => (by decide +kernel : kitB "NoneType" "bool" = some false)
  | .bool _ => (by decide +kernel : kitB "bool" "bool" = some true)
  | .int _ => (by decide +kernel : kitB "int" "bool" = some false)
  | .str _ => (by decide +kernel : kitB "str" "bool" = some false)
  | .list _ => (by decide +kernel : kitB "list" "bool" = some false)
  | .tuple _ => (by decide +kernel : kitB "tuple" "bool" = some false)
  | .dict _ => (by decide +kernel : kitB "dict" "bool" = some false)
theorem kit_tup (d : PyData) : kitB (typ d) "tuple" = some (isTup d) := match d with
  | .none => (by decide +kernel : kitB "NoneType" "tuple" = some false)
  | .bool _ => (by decide +kernel : kitB "bool" "tuple" = some false)
  | .int _ => (by decide +kernel : kitB "int" "tuple" = some false)
  | .str _ => (by decide +kernel : kitB "str" "tuple" = some false)
  | .list _ => (by decide +kernel : kitB "list" "tuple" = some false)
  | .tuple _ => (by decide +kernel : kitB "tuple" "tuple" = some true)
  | .dict _ => (by decide +kernel : kitB "dict" "tuple" = some false)
theorem kit_lst (d : PyData) : kitB (typ d) "list" = some (isLst d) := match d with
  | .none => (by decide +kernel : kitB "NoneType" "list" = some false)
  | .bool _ => (by decide +kernel : kitB "bool" "list" = some false)
  | .int _ => (by decide +kernel : kitB "int" "list" = some false)
  | .str _ => (by decide +kernel : kitB "str" "list" = some false)
  | .list _ => (by decide +kernel : kitB "list" "list" = some true)
  | .tuple _ => (by decide +kernel : kitB "tuple" "list" = some false)
  | .dict _ => (by decide +kernel : kitB "dict" "list" = some false)
theorem kit_str (d : PyData) : kitB (typ d) "str" = some (isStr d) := match d with
  | .none => (by decide +kernel : kitB "NoneType" "str" = some false)
  | .bool _ => (by decide +kernel : kitB "bool" "str" = some false)
  | .int _ => (by decide +kernel : kitB "int" "str" = some false)
  | .str _ => (by decide +kernel : kitB "str" "str" = some true)
  | .list _ => (by decide +kernel : kitB "list" "str" = some false)
  | .tuple _ => (by decide +kernel : kitB "tuple" "str" = some false)
  | .dict _ => (by decide +kernel : kitB "dict" "str" = some false)
theorem kit_dct (d : PyData) : kitB (typ d) "dict" = some (isDct d) := match d with
  | .none => (by decide +kernel : kitB "NoneType" "dict" = some false)
  | .bool _ => (by decide +kernel : kitB "bool" "dict" = some false)
  | .int _ => (by decide +kernel : kitB "int" "dict" = some false)
  | .str _ => (by decide +kernel : kitB "str" "dict" = some false)
  | .list _ => (by decide +kernel : kitB "list" "dict" = some false)
  | .tuple _ => (by decide +kernel : kitB "tuple" "dict" = some false)
  | .dict _ => (by decide +kernel : kitB "dict" "dict" = some true)
theorem isi {B : Addr} {K : PySem.W.Frag} {H : Hp} {Q : VK} {x : V} {d : PyData} {T : String} {b : Bool} (h : At B H x d) (k : kitB (typ d) T = some b) (q : Q (.bl b) H) : rIsi K [x, .ty T] H Q :=
  ⟨x, .ty T, .type (typ d), .type T, b, rfl, .ty T, h.ty, kit_ty k, q⟩
/-- a def of the text, its promise, all that a call wants -/
structure Df (P : Program) (w : World) (K : PySem.W.Frag) (mg : Str → Option Value) (base : Heap) (k : Nat) (x : Str) (ps : List Str) (sp : Sp) : Prop where
  ex : ∃ (f : Addr) (fd : FuncData), FnOk P w K mg base CX0 k f fd ps sp ∧ mg x = some (.ref f) ∧ PySem.W.keepIn K (.ref f) = true ∧ Binds K fd ps []
theorem pe_d {X : Cx} {k j : Nat} {x : Str} {ps : List Str} {sp : Sp} {p pos : Pos} {e : Expr} {es : List Expr} {t : TA} (F : Df X.prog X.w X.K X.mg X.base k x ps sp) (hr : Room j X.A) (hg : Gl X x) (ha : PA X (e :: es) t) (hk : k ≤ j := by decide)
    (hdb : (x == ("__debug__" : Str)) = false := by decide) (he : starEach (e :: es) X.env = (false, eval e X.env) :: starEach es X.env := by rfl) (hpl : (backTo pos (starEach es X.env)).any (·.1) = false := by rfl) :
    PE X (.Call (.Name x p) (e :: es) [] pos) (tCall sp [] E0 t) := by
  obtain ⟨f, fd, G, m, kp, b⟩ := F.ex
  exact pe_call G (hr.mono hk) hg m kp b .nil pass0 ha hdb he hpl
/-- what the top has written, the built-in names -/
structure Tx (K : PySem.W.Frag) (mg : Str → Option Value) : Prop where
  isinstance : mg "isinstance" = none
  int : mg "int" = none
  bool : mg "bool" = none
  tuple : mg "tuple" = none
  list : mg "list" = none
  dict : mg "dict" = none
  str : mg "str" = none
  len : mg "len" = none
  all : mg "all" = none
  any : mg "any" = none
  range : mg "range" = none
  enumerate : mg "enumerate" = none
  zip : mg "zip" = none
  sum : mg "sum" = none
  max : mg "max" = none
  min : mg "min" = none
  repr : mg "repr" = none
section
variable {X : Cx} {K : PySem.W.Frag} {p1 p2 p3 pos : Pos}
theorem bI (T : Tx X.K X.mg) (h : Gl X "int") : PE X (.Name "int" pos) (tC (.ty "int")) := pe_bltn h T.int PyProof.Rows.boot_int rfl
theorem bB (T : Tx X.K X.mg) (h : Gl X "bool") : PE X (.Name "bool" pos) (tC (.ty "bool")) := pe_bltn h T.bool PyProof.Rows.boot_bool rfl
theorem bT (T : Tx X.K X.mg) (h : Gl X "tuple") : PE X (.Name "tuple" pos) (tC (.ty "tuple")) := pe_bltn h T.tuple PyProof.Rows.boot_tuple rfl
theorem bL (T : Tx X.K X.mg) (h : Gl X "list") : PE X (.Name "list" pos) (tC (.ty "list")) := pe_bltn h T.list PyProof.Rows.boot_list rfl
theorem bS (T : Tx X.K X.mg) (h : Gl X "str") : PE X (.Name "str" pos) (tC (.ty "str")) := pe_bltn h T.str (by decide +kernel) rfl
theorem bD (T : Tx X.K X.mg) (h : Gl X "dict") : PE X (.Name "dict" pos) (tC (.ty "dict")) := pe_bltn h T.dict (by decide +kernel) rfl
theorem pe_isi {a c : Expr} {ta tc : TE} (T : Tx X.K X.mg) (ha : PE X a ta) (hc : PE X c tc) (hg : Gl X "isinstance" := by rfl) (he : starEach [a, c] X.env = (false, eval a X.env) :: starEach [c] X.env := by rfl) (he2 : starEach [c] X.env = (false, eval c X.env) :: starEach [] X.env := by rfl) :
    PE X (.Call (.Name "isinstance" p1) [a, c] [] pos) (tCB (rIsi X.K) (tCons ta (tCons tc tNil))) :=
  pe_callB call_isi hg T.isinstance PyProof.Rows.boot_isinstance (pa_cons ha (pa_cons hc pa_nil he2) he) (by decide) (by decide) he (by rw [he2]; rfl)
theorem pe_len {a : Expr} {ta : TE} (T : Tx X.K X.mg) (ha : PE X a ta) (hg : Gl X "len" := by rfl) (he : starEach [a] X.env = (false, eval a X.env) :: starEach [] X.env := by rfl) :
    PE X (.Call (.Name "len" p1) [a] [] pos) (tCB (fun xs H Q => ∃ p ys, xs = [.ref p] ∧ (SqL X.K H p ys ∨ SqT X.K H p ys) ∧ Q (.int ys.length) H) (tCons ta tNil)) :=
  pe_callB call_len_seq hg T.len PySem.boot_len (pa_cons ha pa_nil he) (by decide) (by decide) he rfl
theorem pe_all {a : Expr} {ta : TE} (T : Tx X.K X.mg) (ha : PE X a ta) (hc : X.calm = true := by rfl) (hg : Gl X "all" := by rfl) (he : starEach [a] X.env = (false, eval a X.env) :: starEach [] X.env := by rfl) :
    PE X (.Call (.Name "all" p1) [a] [] pos) (tCB (rAll X.K) (tCons ta tNil)) :=
  pe_callB (cr_all hc) hg T.all PyProof.Rows.boot_all (pa_cons ha pa_nil he) (by decide) (by decide) he rfl
theorem pe_any {a : Expr} {ta : TE} (T : Tx X.K X.mg) (ha : PE X a ta) (hc : X.calm = true := by rfl) (hg : Gl X "any" := by rfl) (he : starEach [a] X.env = (false, eval a X.env) :: starEach [] X.env := by rfl) :
    PE X (.Call (.Name "any" p1) [a] [] pos) (tCB (rAny X.K) (tCons ta tNil)) :=
  pe_callB (cr_any hc) hg T.any PyProof.Rows.boot_any (pa_cons ha pa_nil he) (by decide) (by decide) he rfl
theorem pe_sum {a : Expr} {ta : TE} (T : Tx X.K X.mg) (ha : PE X a ta) (hc : X.calm = true := by rfl) (hg : Gl X "sum" := by rfl) (he : starEach [a] X.env = (false, eval a X.env) :: starEach [] X.env := by rfl) :
    PE X (.Call (.Name "sum" p1) [a] [] pos) (tCB (rSum X.K) (tCons ta tNil)) :=
  pe_callB (cr_sum hc) hg T.sum PyProof.Rows.boot_sum (pa_cons ha pa_nil he) (by decide) (by decide) he rfl
theorem pe_tupO {a : Expr} {ta : TE} (T : Tx X.K X.mg) (ha : PE X a ta) (hg : Gl X "tuple" := by rfl) (he : starEach [a] X.env = (false, eval a X.env) :: starEach [] X.env := by rfl) :
    PE X (.Call (.Name "tuple" p1) [a] [] pos) (tCB (fun xs H Q => ∃ p ys, xs = [.ref p] ∧ ((SqL X.K H p ys ∧ ∀ l, H l = none → Q (.ref l) (upd H l (.tup ys))) ∨ (SqT X.K H p ys ∧ Q (.ref p) H))) (tCons ta tNil)) :=
  pe_callTy call_tuple_of hg T.tuple PyProof.Rows.boot_tuple (pa_cons ha pa_nil he) (by decide) (by decide) he rfl
theorem pe_lstO {a : Expr} {ta : TE} (T : Tx X.K X.mg) (ha : PE X a ta) (hg : Gl X "list" := by rfl) (he : starEach [a] X.env = (false, eval a X.env) :: starEach [] X.env := by rfl) :
    PE X (.Call (.Name "list" p1) [a] [] pos) (tCB (fun xs H Q => ∃ p ys, xs = [.ref p] ∧ (SqL X.K H p ys ∨ SqT X.K H p ys) ∧ ∀ l, H l = none → Q (.ref l) (upd H l (.lst ys))) (tCons ta tNil)) :=
  pe_callTy call_list_of hg T.list PyProof.Rows.boot_list (pa_cons ha pa_nil he) (by decide) (by decide) he rfl
end
/-! ### comprehensions whose elements change nothing that stood -/
theorem lc_yes {g : TG} {te : TE} {vs : List Nat} {σ : L2.St} {H : Hp} {x : V} {A : V → Hp → Prop} {Bd : Hp → Prop} (h : g x (wipe σ vs) H fun σ2 H2 => wipe σ2 vs = wipe σ vs ∧ te σ2 H2 A) :
    g x (wipe σ vs) H fun σ2 H2 => wipe σ2 vs = wipe σ vs ∧ tYes σ2 H2 fun b H3 => if b = true then te σ2 H3 A else Bd H3 := by
  have e : (fun (σ2 : L2.St) (H2 : Hp) => wipe σ2 vs = wipe σ vs ∧ tYes σ2 H2 fun b H3 => if b = true then te σ2 H3 A else Bd H3) = fun σ2 H2 => wipe σ2 vs = wipe σ vs ∧ te σ2 H2 A := by
    funext σ2 H2
    show (_ ∧ if true = true then te σ2 H2 A else Bd H2) = _
    rw [if_pos rfl]
  rw [e]
  exact h
theorem take_snoc {α : Type} {ys : List α} {i : Nat} {y : α} (h : ys[i]? = some y) : ys.take i ++ [y] = ys.take (i + 1) := by
  rw [List.take_add_one, h]
  rfl
theorem grow {H0 H H4 : Hp} {D : Addr} {ys : List V} {i : Nat} {y : V} (hD : H0 D = none) (s0 : Same H0 H) (eD : H D = some (.lst (ys.take i))) (s4 : Same H H4) (hy : ys[i]? = some y) (hz : ys.length ≤ 1000) :
    ∃ acc, H4 D = some (.lst acc) ∧ acc.length < sizeLine ∧ (Same H0 (upd H4 D (.lst (acc ++ [y]))) ∧ (upd H4 D (.lst (acc ++ [y]))) D = some (.lst (ys.take (i + 1)))) := by
  refine ⟨ys.take i, s4 _ _ eD, small1000 ?_, fun b o e => ?_, ?_⟩
  · rw [List.length_take]; omega
  · rw [upd_ne (ne_of_none e hD)]
    exact s4 _ _ (s0 _ _ e)
  · rw [upd_same, take_snoc hy]
section
variable {K : PySem.W.Frag} {a : Addr} {xs ys : List V} {g : TG} {te : TE} {vs : List Nat} {σ : L2.St} {H1 : Hp} {D : Addr} {Qd : Hp → Prop}
theorem lcm_tup (hq : SqT K H1 a xs) (hst : ∀ H', Same H1 H' → SqT K H' a xs) (hD : H1 D = none) (hl : ys.length = xs.length) (hz : ys.length ≤ 1000)
    (hs : ∀ (i : Nat) (x : V) (H : Hp), xs[i]? = some x → Same H1 H → ∀ A : V → Hp → Prop, (∀ y H4, ys[i]? = some y → Same H H4 → A y H4) → g x (wipe σ vs) H fun σ2 H2 => wipe σ2 vs = wipe σ vs ∧ te σ2 H2 A)
    (hd : ∀ H, Same H1 H → H D = some (.lst ys) → Qd H) :
    ∃ W : Nat → Nat → Hp → Prop, (∃ m, W 0 m (upd H1 D (.lst []))) ∧ ∀ i m H, W i m H →
      ((Itt K a).stop i H ∧ Qd H) ∨ ((Itt K a).go i H ∧ ∃ Nx : Hp → Prop, (∀ H', Nx H' → ∃ m', m' < m ∧ W (i + 1) m' H') ∧ ∀ x H', (Itt K a).yld i H x H' → g x (wipe σ vs) H' fun σ2 H2 => wipe σ2 vs = wipe σ vs ∧ tYes σ2 H2 fun b H3 =>
        if b = true then te σ2 H3 fun y H4 => ∃ acc, H4 D = some (.lst acc) ∧ acc.length < sizeLine ∧ Nx (upd H4 D (.lst (acc ++ [y]))) else Nx H3) := by
  refine lc_tup (K := K) (a := a) (xs := xs) (fun i H => Same H1 H ∧ H D = some (.lst (ys.take i))) ⟨same_upd hD, ?_⟩ (fun i H _ p => hst H p.1) (fun i x H hx p => lc_yes (hs i x H hx p.1 _ fun y H4 hy s4 => grow hD p.1 p.2 s4 hy hz)) (fun H p => hd H p.1 ?_)
  · rw [upd_same]; rfl
  · rw [p.2, ← hl, List.take_length]
theorem lcm_list (hst : ∀ H', Same H1 H' → SqL K H' a xs) (hD : H1 D = none) (hl : ys.length = xs.length) (hz : ys.length ≤ 1000)
    (hs : ∀ (i : Nat) (x : V) (H : Hp), xs[i]? = some x → Same H1 H → ∀ A : V → Hp → Prop, (∀ y H4, ys[i]? = some y → Same H H4 → A y H4) → g x (wipe σ vs) H fun σ2 H2 => wipe σ2 vs = wipe σ vs ∧ te σ2 H2 A)
    (hd : ∀ H, Same H1 H → H D = some (.lst ys) → Qd H) :
    ∃ W : Nat → Nat → Hp → Prop, (∃ m, W 0 m (upd H1 D (.lst []))) ∧ ∀ i m H, W i m H →
      ((Itl K a).stop i H ∧ Qd H) ∨ ((Itl K a).go i H ∧ ∃ Nx : Hp → Prop, (∀ H', Nx H' → ∃ m', m' < m ∧ W (i + 1) m' H') ∧ ∀ x H', (Itl K a).yld i H x H' → g x (wipe σ vs) H' fun σ2 H2 => wipe σ2 vs = wipe σ vs ∧ tYes σ2 H2 fun b H3 =>
        if b = true then te σ2 H3 fun y H4 => ∃ acc, H4 D = some (.lst acc) ∧ acc.length < sizeLine ∧ Nx (upd H4 D (.lst (acc ++ [y]))) else Nx H3) := by
  refine lc_list (K := K) (a := a) (xs := xs) (fun i H => Same H1 H ∧ H D = some (.lst (ys.take i))) ⟨same_upd hD, ?_⟩ (fun i H _ p => hst H p.1) (fun i x H hx p => lc_yes (hs i x H hx p.1 _ fun y H4 hy s4 => grow hD p.1 p.2 s4 hy hz)) (fun H p => hd H p.1 ?_)
  · rw [upd_same]; rfl
  · rw [p.2, ← hl, List.take_length]
theorem lcm_range {lo : Int} {n : Nat} (hD : H1 D = none) (hl : ys.length = n) (hz : ys.length ≤ 1000)
    (hs : ∀ (i : Nat) (H : Hp), i < n → Same H1 H → ∀ A : V → Hp → Prop, (∀ y H4, ys[i]? = some y → Same H H4 → A y H4) → g (.int (lo + i)) (wipe σ vs) H fun σ2 H2 => wipe σ2 vs = wipe σ vs ∧ te σ2 H2 A)
    (hd : ∀ H, Same H1 H → H D = some (.lst ys) → Qd H) :
    ∃ W : Nat → Nat → Hp → Prop, (∃ m, W 0 m (upd H1 D (.lst []))) ∧ ∀ i m H, W i m H →
      ((Itr lo n).stop i H ∧ Qd H) ∨ ((Itr lo n).go i H ∧ ∃ Nx : Hp → Prop, (∀ H', Nx H' → ∃ m', m' < m ∧ W (i + 1) m' H') ∧ ∀ x H', (Itr lo n).yld i H x H' → g x (wipe σ vs) H' fun σ2 H2 => wipe σ2 vs = wipe σ vs ∧ tYes σ2 H2 fun b H3 =>
        if b = true then te σ2 H3 fun y H4 => ∃ acc, H4 D = some (.lst acc) ∧ acc.length < sizeLine ∧ Nx (upd H4 D (.lst (acc ++ [y]))) else Nx H3) := by
  refine lc_range (lo := lo) (n := n) (fun i H => Same H1 H ∧ H D = some (.lst (ys.take i))) ⟨same_upd hD, ?_⟩ (fun i H hi p => lc_yes (hs i H hi p.1 _ fun y H4 hy s4 => grow hD p.1 p.2 s4 hy hz)) (fun H p => hd H p.1 ?_)
  · rw [upd_same]; rfl
  · rw [p.2, ← hl, List.take_length]
end
end K69

/-! ## KC -/
namespace K69
open PySem PySem.Spec PyProof.Rows L2
def wholeD (d : PyData) : Bool := isInt d && !isBool d
def numIn (d : PyData) (lo hi : Int) : Bool := match d with
  | .int i => decide (lo ≤ i) && decide (i ≤ hi)
  | _ => false
theorem whole_int {d : PyData} (h : wholeD d = true) : ∃ i, d = .int i := by
  revert h
  cases d <;> simp [wholeD, isInt, isBool]
theorem whole_not {d : PyData} (h : wholeD d = false) : (isInt d = false) ∨ (isInt d = true ∧ isBool d = true) := by
  revert h
  cases d <;> simp [wholeD, isInt, isBool]
theorem numIn_not {d : PyData} {lo hi : Int} (h : wholeD d = false) : numIn d lo hi = false := by
  revert h
  cases d <;> simp [wholeD, isInt, isBool, numIn]
section
variable {P : Program} {w : World} {K : PySem.W.Frag} {mg : Str → Option Value} {base : Heap}
/-! ### is_number -/
abbrev sNum : Stmt := topS 8
theorem scNum : FnScope ["value", "least", "most"] ["value", "least", "most"] (defScope sNum) := ⟨rfl, rfl, rfl, by decide +kernel, rfl, by decide +kernel, by decide +kernel⟩
def spNum : Sp := fun vs H Q _ => ∃ (B : Addr) (x : V) (d : PyData) (lo hi : Int), vs = [x, .int lo, .int hi] ∧ At B H x d ∧ Q (.bl (numIn d lo hi)) H
theorem ok_num {f : Addr} {fd : FuncData} {k : Nat} (F : Fun K "is_number" "is_number" sNum f fd) (T : Tx K mg) : FnOk P w K mg base CX0 (k + 1) f fd ["value", "least", "most"] spNum := by
  refine F.ok scNum (fun vs H Q E h => ?_) (fun cdv A outer s H vs Q E hr h => ?_)
  · obtain ⟨B, x, d, lo, hi, rfl, _⟩ := h
    rfl
  · obtain ⟨B, x, d, lo, hi, rfl, h, q⟩ := h
    refine ⟨_, pss_one (ps_ret (pe_and (pe_callB call_isi (by rfl) T.isinstance PyProof.Rows.boot_isinstance (pa_cons (pv 0) (pa_cons (bI T (by rfl)) pa_nil)))
      (pe_and (pe_not (pe_callB call_isi (by rfl) T.isinstance PyProof.Rows.boot_isinstance (pa_cons (pv 0) (pa_cons (bB T (by rfl)) pa_nil))))
        (pe_one (pe_chain op_le op_le (pv 1) (pv 0) (pv 2)))))), ?_⟩
    refine ⟨x, rfl, x, _, _, _, _, rfl, .ty _, h.ty, kit_ty (kit_int d), _, rfl, ?_⟩
    cases e : wholeD d with
    | false =>
      rw [numIn_not e] at q
      rcases whole_not e with e1 | ⟨e1, e2⟩
      · rw [e1]
        exact iteF q
      · rw [e1]
        refine iteT ⟨x, rfl, x, _, _, _, _, rfl, .ty _, h.ty, kit_ty (kit_bool d), _, rfl, _, rfl, ?_⟩
        rw [e2]
        exact iteF q
    | true =>
      obtain ⟨i, rfl⟩ := whole_int e
      refine iteT ⟨x, rfl, x, _, _, _, _, rfl, .ty _, h.ty, kit_ty (kit_bool _), _, rfl, _, rfl, ?_⟩
      refine iteT ⟨.int lo, rfl, x, rfl, lo, i, rfl, h.intI, _, rfl, ?_⟩
      by_cases c : lo ≤ i
      · rw [decide_eq_true c]
        refine iteT ⟨.int hi, rfl, i, hi, h.intI, rfl, ?_⟩
        have e2 : numIn (.int i) lo hi = decide (i ≤ hi) := by simp [numIn, c]
        rw [e2] at q
        exact q
      · rw [decide_eq_false c]
        have e2 : numIn (.int i) lo hi = false := by simp [numIn, c]
        rw [e2] at q
        exact iteF q
/-! ### is_whole -/
abbrev sWhole : Stmt := topS 10
theorem scWhole : FnScope ["value"] ["value"] (defScope sWhole) := ⟨rfl, rfl, rfl, by decide +kernel, rfl, by decide +kernel, by decide +kernel⟩
def spWhole : Sp := fun vs H Q _ => ∃ (B : Addr) (x : V) (d : PyData), vs = [x] ∧ At B H x d ∧ Q (.bl (wholeD d)) H
theorem ok_whole {f : Addr} {fd : FuncData} {k : Nat} (F : Fun K "is_whole" "is_whole" sWhole f fd) (T : Tx K mg) : FnOk P w K mg base CX0 (k + 1) f fd ["value"] spWhole := by
  refine F.ok scWhole (fun vs H Q E h => ?_) (fun cdv A outer s H vs Q E hr h => ?_)
  · obtain ⟨B, x, d, rfl, _⟩ := h
    rfl
  · obtain ⟨B, x, d, rfl, h, q⟩ := h
    refine ⟨_, pss_one (ps_ret (pe_and (pe_callB call_isi (by rfl) T.isinstance PyProof.Rows.boot_isinstance (pa_cons (pv 0) (pa_cons (bI T (by rfl)) pa_nil)))
      (pe_one (pe_not (pe_callB call_isi (by rfl) T.isinstance PyProof.Rows.boot_isinstance (pa_cons (pv 0) (pa_cons (bB T (by rfl)) pa_nil))))))), ?_⟩
    refine ⟨x, rfl, x, _, _, _, _, rfl, .ty _, h.ty, kit_ty (kit_int d), _, rfl, ?_⟩
    cases e : isInt d with
    | false =>
      have e2 : wholeD d = false := by simp [wholeD, e]
      rw [e2] at q
      exact iteF q
    | true =>
      refine iteT ⟨x, rfl, x, _, _, _, _, rfl, .ty _, h.ty, kit_ty (kit_bool d), _, rfl, ?_⟩
      have e2 : wholeD d = !isBool d := by simp [wholeD, e]
      rw [e2] at q
      exact q
end
end K69

/-! ## KC2 -/
namespace K69
open PySem PySem.Spec PyProof.Rows L2
def neZ : PyData → Bool
  | .int i => i != 0
  | _ => false
def vecD (d : PyData) (wd : Int) : Bool := match d with
  | .tuple xs => decide ((xs.length : Int) = wd) && (xs.all wholeD && xs.any neZ)
  | _ => false
theorem wholes_ints : ∀ {xs : List PyData}, xs.all wholeD = true → ∃ ns : List Int, xs = ns.map .int
  | [], _ => ⟨[], rfl⟩
  | d :: xs, h => by
    simp only [List.all_cons, Bool.and_eq_true] at h
    obtain ⟨i, rfl⟩ := whole_int h.1
    obtain ⟨ns, rfl⟩ := wholes_ints h.2
    exact ⟨i :: ns, rfl⟩
section
variable {P : Program} {w : World} {K : PySem.W.Frag} {mg : Str → Option Value} {base : Heap}
abbrev sVec : Stmt := topS 12
theorem scVec : FnScope ["value", "width", "item"] ["value", "width"] (defScope sVec) := ⟨rfl, rfl, rfl, by decide +kernel, rfl, by decide +kernel, by decide +kernel⟩
def spVec : Sp := fun vs H Q _ => ∃ (B : Addr) (x : V) (d : PyData) (wd : Int), vs = [x, .int wd] ∧ At B H x d ∧ wd ≤ 1000 ∧ ∀ H', Same H H' → Q (.bl (vecD d wd)) H'
theorem ok_vec {f : Addr} {fd : FuncData} {k : Nat} (F : Fun K "is_vector" "is_vector" sVec f fd) (T : Tx K mg) (D1 : Df P w K mg base k "is_whole" ["value"] spWhole) : FnOk P w K mg base CX0 (k + 1) f fd ["value", "width"] spVec := by
  refine F.ok scVec (fun vs H Q E h => ?_) (fun cdv A outer s H vs Q E hr h => ?_)
  · obtain ⟨B, x, d, wd, rfl, _⟩ := h
    rfl
  · obtain ⟨B, x, d, wd, rfl, h, hw, q⟩ := h
    refine ⟨_, pss_cons (ps_if (PW.pt (pw_or (pt_not (pt_val (pe_isi T (pv 0) (bT T (by rfl))))) (pw_or1 (pt_cmpR op_ne (pe_len T (pv 0)) (pv 1) (nomark _))))) (pss_one (ps_ret pe_bl)) pss_nil)
      (pss_one (ps_ret (pe_and
        (pe_all T (pe_lc (own := [("item", 2)]) (g := gName 2) (tt := tYes) rfl scVec.nd (pi_tup (pv 0)) (blkOk_by (N := ["value", "width", "item"]) (sc := defScope sVec) (by decide +kernel)) (fun _ _ _ _ _ => pg_name (i := 2) scVec.nd rfl (Or.inl rfl)) (fun _ _ _ _ _ => pts_nil)
          (fun _ _ _ _ _ => pe_d (j := k) D1 hr (by rfl) (pa_cons (pv 2) pa_nil) (Nat.le_refl _))))
        (pe_one (pe_any T (pe_lc (own := [("item", 2)]) (g := gName 2) (tt := tYes) rfl scVec.nd (pi_tup (pv 0)) (blkOk_by (N := ["value", "width", "item"]) (sc := defScope sVec) (by decide +kernel)) (fun _ _ _ _ _ => pg_name (i := 2) scVec.nd rfl (Or.inl rfl)) (fun _ _ _ _ _ => pts_nil)
          (fun _ _ _ _ _ => pe_cmpR op_ne (pv 2) pe_int (nomark _)))))))), ?_⟩
    refine ⟨x, rfl, x, _, _, _, _, rfl, .ty _, h.ty, kit_ty (kit_tup d), _, rfl, ?_⟩
    cases e : isTup d with
    | false =>
      have e2 : vecD d wd = false := by revert e; cases d <;> simp [isTup, vecD]
      rw [e2] at q
      exact q _ (Same.refl H)
    | true =>
      obtain ⟨ds, rfl⟩ : ∃ ds, d = .tuple ds := by revert e; cases d <;> simp [isTup]
      obtain ⟨a, xs, rfl, hn, ha, hs⟩ := h.tupI
      have hl := hs.len
      refine ⟨.ref a, rfl, a, xs, rfl, .inr (SqT.of ha), .int wd, rfl, rfl, _, rfl, ?_⟩
      by_cases c : (xs.length : Int) = wd
      · have ec : decide (V.int (xs.length : Int) = V.int wd) = true := decide_eq_true (by rw [c])
        rw [ec]
        refine iteF ?_
        have hz : ds.length ≤ 1000 := by omega
        -- all([is_whole(item) for item in value])
        refine ⟨.ref a, rfl, a, rfl, ⟨_, SqT.of ha⟩, fun D hD => lcm_tup (xs := xs) (ys := (ds.map wholeD).map V.bl) (SqT.of ha) (fun H' s => SqT.of (s _ _ ha)) hD (by simp [hl]) (by simpa using hz) (fun i y H2 hy s A hA => ?_) (fun H2 s eD => ?_)⟩
        · obtain ⟨d', h1, h2⟩ := hs.getV hy
          refine ⟨rfl, y, rfl, B, y, d', rfl, h2.sb (Sb.of s), hA _ _ ?_ (Same.refl _)⟩
          rw [List.getElem?_map, List.getElem?_map, h1]
          rfl
        · refine ⟨D, ds.map wholeD, rfl, SqL.of eD, _, rfl, ?_⟩
          have ev : vecD (.tuple ds) wd = ((ds.map wholeD).all id && ds.any neZ) := by
            simp [vecD, ← hl, c, List.all_map]
          cases ea : (ds.map wholeD).all id with
          | false =>
            have e2 : vecD (.tuple ds) wd = false := by rw [ev, ea]; rfl
            rw [e2] at q
            exact iteF (q _ s)
          | true =>
            refine iteT ?_
            obtain ⟨ns, rfl⟩ := wholes_ints (xs := ds) (by rw [← ea, List.all_map]; rfl)
            have ex := ints_of hs
            subst ex
            have ha2 : H2 a = some (.tup (ns.map V.int)) := s _ _ ha
            refine ⟨.ref a, rfl, a, rfl, ⟨_, SqT.of ha2⟩, fun D2 hD2 => lcm_tup (xs := ns.map V.int) (ys := (ns.map fun i => i != 0).map V.bl) (SqT.of ha2) (fun H' s' => SqT.of (s' _ _ ha2)) hD2 (by simp) (by simpa using hz) (fun i y H3 hy s3 A hA => ?_) (fun H3 s3 eD3 => ?_)⟩
            · rw [List.getElem?_map] at hy
              obtain ⟨z, h1, rfl⟩ := Option.map_eq_some_iff.mp hy
              refine ⟨rfl, .int z, rfl, rfl, hA _ _ ?_ (Same.refl _)⟩
              rw [List.getElem?_map, List.getElem?_map, h1]
              show some (V.bl (z != 0)) = some (V.bl (!decide (V.int z = V.int 0)))
              rw [dec_int]; rfl
            · refine ⟨D2, ns.map fun i => i != 0, rfl, SqL.of eD3, ?_⟩
              have e3 : vecD (.tuple (ns.map .int)) wd = (ns.map fun i => i != 0).any id := by
                rw [ev, ea]
                simp [List.any_map]
                rfl
              rw [e3] at q
              exact q _ (s.trans s3)
      · have ec : decide (V.int (xs.length : Int) = V.int wd) = false := decide_eq_false (by simpa using c)
        rw [ec]
        refine iteT ?_
        have e2 : vecD (.tuple ds) wd = false := by simp [vecD, ← hl, c]
        rw [e2] at q
        exact q _ (Same.refl H)
end
end K69

/-! ## KR -/
namespace K69
open PySem PySem.Spec PyProof.Rows L2
/-! ### repr of data -/
theorem call_repr {X : Cx} (hg : X.A.guards = some []) (hu : X.A.units + 64 < cLine) :
    CallR X (.builtin "repr") (fun xs H Q => ∃ (v : V) (d : PyData), xs = [v] ∧ Dp X.K H v d ∧ d.showable = true ∧ d.hasDict = false ∧ d.depth ≤ 60 ∧ d.shown.length ≤ sizeLine ∧ Q (.str d.shown) H) := by
  intro pins s σ H xs us Q I r h
  obtain ⟨v, d, rfl, hd, h1, h2, h3, h4, q⟩ := h
  cases r with
  | @cons _ u _ _ ra rr =>
  cases rr
  cases hd with
  | non =>
    obtain rfl : u = Value.none := ra
    exact PySem.P.repr_of_none ⟨.str "None", H, I.tok _, ⟨_, rfl⟩, q⟩
  | bl b =>
    obtain rfl : u = Value.bool b := ra
    exact PySem.P.repr_of_bool ⟨.str _, H, I.tok _, ⟨_, rfl⟩, q⟩
  | int i =>
    obtain ⟨t, rfl⟩ := ra
    have h1 : decide (i.natAbs.log2 < 1920) = true := h1
    exact PySem.P.repr_of_int (of_decide_eq_true h1) ⟨.str (toString i), H, I.tok _, ⟨_, rfl⟩, q⟩
  | str x =>
    obtain ⟨t, rfl⟩ := ra
    exact PySem.P.repr_of_str ⟨.str (reprText x), H, I.tok _, ⟨_, rfl⟩, q⟩ h4
  | @lst a xs ds hs ha =>
    obtain rfl : u = Value.ref a := ra
    obtain ⟨as, hr⟩ := Dp.reads I _ _ _ (Dp.lst hs ha) rfl
    refine repr_of_reads' hr h1 (fun z => by rw [h2] at z; cases z) hg (by omega) (fun _ _ e => e) (fun h' t tk hk => ?_) h4
    exact ⟨.str _, H, I.kept hk, ⟨_, rfl⟩, q⟩
  | @tup a xs ds hs ha =>
    obtain rfl : u = Value.ref a := ra
    obtain ⟨as, hr⟩ := Dp.reads I _ _ _ (Dp.tup hs ha) rfl
    refine repr_of_reads' hr h1 (fun z => by rw [h2] at z; cases z) hg (by omega) (fun _ _ e => e) (fun h' t tk hk => ?_) h4
    exact ⟨.str _, H, I.kept hk, ⟨_, rfl⟩, q⟩
/-! ### enumerate of a tuple -/
section
open AutoSeq1 (wpAny_loadPart')
theorem meets_enumT (l : Addr) (items : Array Value) (n : Nat) (dct : Option Addr) (sl : Array (Option Value)) :
    Meets (Builtin.«enumerate.__new__» ⟨[.type "enumerate", .ref l], []⟩) (fun _ R s => s.heap.get? l = some { cls := .type "tuple", dict := dct, data := .seq items n, slots := sl } ∧
      R (.ok (.ret (.ref (s.heap.push { cls := .type "tuple_iterator", data := .fields #[.ref l, .int 0 0] }).objs.size)))
        { s with heap := (s.heap.push { cls := .type "tuple_iterator", data := .fields #[.ref l, .int 0 0] }).push { cls := .type "enumerate", data := .fields #[.none, .bool false, .ref s.heap.objs.size, rawInt 0, .none, .none] } }) :=
  .of_wp fun prog w A R s h => by
    obtain ⟨hp, g, d, tk, os⟩ := s; obtain ⟨hl, h⟩ := h
    have hsub := sub_enumerate
    have hL : Heap.IsTuple (Shared.heap ⟨hp, g, d, tk, os⟩) l items := ⟨_, hl, rfl, n, rfl⟩
    wp_walk using wpAny_loadPart' hl
    refine wpAny_stack_any fun st => wpAny_pure ?_
    split
    · rename_i c _ _ _ _ _
      cases (c == Value.type "enumerate") <;> (wp_walk using wpAny_loadPart' hl, wpAny_pyIter_tuple hL; exact ⟨_, rfl, h⟩)
    · wp_walk using wpAny_loadPart' hl, wpAny_pyIter_tuple hL
      exact ⟨_, rfl, h⟩
end
theorem call_enumT {prog : Program} {w : World} {A : Around} {E : Value → Shared → Prop} {s : Shared} {l : Addr} {items : Array Value} {Q : Value → Shared → Prop} (hL : s.heap.IsTuple l items)
    (h : ∀ h', IsEnum h' (s.heap.objs.size + 1) s.heap.objs.size 0 .none → h'.IsTupleIter s.heap.objs.size l 0 → (∀ b o, s.heap.get? b = some o → h'.get? b = some o) → Q (.ref (s.heap.objs.size + 1)) { s with heap := h' }) :
    wpAny (model prog w) A (call (.type "enumerate") [.ref l]) Q E s := by
  obtain ⟨⟨c, dct, dt, sl⟩, hl, hc, n, hd⟩ := hL
  simp only at hc hd
  subst hc hd
  refine callType_new PySem.F.called_enumerate (by decide) (PySem.F.typeCall_enumerate_1 _) (PySem.F.newCall_enumerate_1 _) (fun obj => PySem.F.args_object_init_2 obj _) PySem.F.entry_enumerate_new
    (meets_enumT l items n dct sl) ⟨hl, ?_⟩
  generalize ho1 : ({ cls := .type "tuple_iterator", data := .fields #[.ref l, .int 0 0] } : Obj) = o1
  generalize ho2 : ({ cls := .type "enumerate", data := .fields #[.none, .bool false, .ref s.heap.objs.size, rawInt 0, .none, .none] } : Obj) = o2
  have f1 : o1.isFreed = false := by rw [← ho1]; rfl
  have f2 : o2.isFreed = false := by rw [← ho2]; rfl
  have hz : (s.heap.push o1).objs.size = s.heap.objs.size + 1 := Heap.size_push ..
  show _ ∧ _
  rw [hz]
  have he : ((s.heap.push o1).push o2).get? (s.heap.objs.size + 1) = some o2 := by
    have := Heap.get?_push_size (s.heap.push o1) (o := o2) f2
    rw [hz] at this; exact this
  have he1 : ((s.heap.push o1).push o2).get? s.heap.objs.size = some o1 := Heap.get?_push_of_some _ (Heap.get?_push_size _ f1)
  refine ⟨⟨_, he, by rw [← ho2]⟩, h _ (by rw [← ho2] at he ⊢; exact he) ⟨_, he1, by rw [← ho1], by rw [← ho1]; rfl⟩ fun b o x => Heap.get?_push_of_some _ (Heap.get?_push_of_some _ x)⟩
/-- the tuple xs at a, each item in a new pair with its place -/
def IteT (K : PySem.W.Frag) (a : Addr) (xs : List V) : It :=
  ⟨fun i H => SqT K H a xs ∧ i < xs.length, fun i H v H' => ∃ T x, v = .ref T ∧ H T = none ∧ H' = upd H T (.tup [.int (i : Nat), x]) ∧ xs[i]? = some x, fun i H => SqT K H a xs ∧ i = xs.length⟩
theorem turn_enumT {P : Program} {w : World} {K : PySem.W.Frag} {elts : List Expr} {kk : Nat} {tpos : Pos} (a e it : Addr) (xs : List V) :
    Turn P w K (.Tuple elts kk tpos) (IteT K a xs) [e, it] e (fun i h => (∃ old, IsEnum h e it ((i : Nat) : Int) old) ∧ h.IsTupleIter it a i ∧ e ≠ it ∧ a ≠ it ∧ a ≠ e) where
  mem := by simp
  obj := fun i h st b hb => by
    obtain ⟨⟨old, he⟩, ⟨o, ho, hc, hd⟩, _⟩ := st
    rcases (by simpa using hb : b = e ∨ b = it) with z | z <;> rw [z]
    · exact ⟨_, he, fun v q => nomatch q⟩
    · exact ⟨o, ho, fun v q => by rw [hd] at q; cases q⟩
  keep := fun i h h' st k => let ⟨⟨old, he⟩, hi, hne⟩ := st; ⟨⟨old, k e (by simp) _ he⟩, hi.at fun o q => k it (by simp) o q, hne⟩
  item := by
    intro X hP hw hK hc i pins s σ H E I hf st hg
    subst hP hw hK
    obtain ⟨⟨old, he⟩, hit, hne, hai, hae⟩ := st
    obtain ⟨hq, hi⟩ := hg
    obtain ⟨its, rv, p, hz⟩ := I.tuple hq
    have hx : xs[i]? = some xs[i] := List.getElem?_eq_getElem hi
    have hl := rv.length
    have hel : e < s.heap.objs.size := Heap.lt_size he
    have hil : it < s.heap.objs.size := by obtain ⟨_, q, _⟩ := hit; exact Heap.lt_size q
    refine wpAny_pyNext_enum_itemD (Draws.tuple (A := X.A.in1) (I.ok.hd hc) it a hai its.toArray) he ⟨hit, p⟩ (by simp; omega) hne (by simp [hne, Ne.symm hae]) fun u h' tk hu ho hit' hT hsz hk => ?_
    have ru : RelV xs[i] u := by
      obtain ⟨u', e1, e2⟩ := rv.get hx
      have e3 : its.toArray[i]? = some u' := by simpa using e1
      rw [hu] at e3
      cases e3
      exact e2
    refine ⟨_, rfl, wpAny_letOwnedTupleGo_enum (s := { s with heap := h', toks := tk + 1 }) ho fun h'' he' sb => ?_⟩
    have hT2 : h''.get? s.heap.objs.size = some { cls := .type "tuple", data := .seq #[.int i tk, u] } := (sb.2 _ (Nat.ne_of_gt hel)).trans hT
    have new : ObjOk X.prog X.w (upd H s.heap.objs.size (.tup [.int (i : Nat), xs[i]])) h'' s.heap.objs.size (.tup [.int (i : Nat), xs[i]]) :=
      ⟨by show 2 ≤ sizeLine; decide, [.int i tk, u], .cons ⟨_, rfl⟩ (.cons ru .nil), ⟨_, hT2, rfl, _, rfl⟩⟩
    have I1 : L2.Inv X pins σ (upd H s.heap.objs.size (.tup [.int (i : Nat), xs[i]])) { s with heap := h'', toks := tk + 1 } :=
      I.turnedNew (ch := [e, it]) (fun b ob hb q => (sb.2 b (fun z => hb (by simp [z]))).trans (hk b ob (fun z => hb (by simp [z])) (fun z => hb (by simp [z])) q)) hf (Nat.le_refl _) new
    refine ⟨.ref s.heap.objs.size, _, I1, rfl, ⟨_, _, rfl, I.hok.fresh (Nat.le_refl _), rfl, hx⟩, ⟨⟨u, ?_⟩, hit'.1.at fun o q => (sb.2 it (Ne.symm hne)).trans q, hne, hai, hae⟩, fun b hb => ?_⟩
    · have e1 : ((i + 1 : Nat) : Int) = (i : Int) + 1 := by omega
      rw [e1]; exact he'
    · have hb' : b < s.heap.objs.size := by
        rcases (by simpa using hb : b = e ∨ b = it) with z | z <;> rw [z]
        · exact hel
        · exact hil
      rw [upd_ne (Nat.ne_of_lt hb')]
      exact (hf b hb).1
  done := by
    intro X hP hw hK hc i pins s σ H E I hf st hg
    subst hP hw hK
    obtain ⟨⟨old, he⟩, hit, hne, hai, hae⟩ := st
    obtain ⟨hq, hx⟩ := hg
    obtain ⟨its, rv, p, hz⟩ := I.tuple hq
    obtain ⟨f0, f1, f2, f3, f4, f5⟩ := hf it (by simp)
    have hl := rv.length
    have ei : i = its.toArray.size := by simp; omega
    refine wpAny_pyNext_enum_endD (Draws.tuple (A := X.A.in1) (I.ok.hd hc) it a hai its.toArray) he ?_ fun h' eb => ⟨rfl, I.turned (t' := s.toks) (fun b o hb q => eb b o hb q) f0 f1 f3 f4 f5⟩
    rw [← ei]
    exact ⟨hit, p⟩
  self := fun A i s Q E st h => let ⟨⟨_, he⟩, _⟩ := st; wpAny_pyIter_enum he h
def iEnumT (K : PySem.W.Frag) (ta : TA) : TI := fun σ H R => ta σ H fun vs H1 => ∃ a xs, vs = [.ref a] ∧ SqT K H1 a xs ∧ R (IteT K a xs) H1
theorem pi_enumT {X : Cx} {e : Expr} {ta : TA} {p pos tpos : Pos} {elts : List Expr} {kk : Nat} (hg : Gl X "enumerate") (hm : X.mg "enumerate" = none) (ha : PA X [e] ta) (hs : starEach [e] X.env = [(false, eval e X.env)] := by rfl) :
    PI X (.Tuple elts kk tpos) (.Call (.Name "enumerate" p) [e] [] pos) (iEnumT X.K ta) := by
  refine ⟨fun pins s σ H R I h => ?_⟩
  refine Call_ (ld_blt I hg hm boot_enumerate (PyProof.Rows.callWith_type1 (thn (ha.run pos pins s σ H _ I h) fun us s1 ⟨vs, H1, I1, r1, q1⟩ => ?_) hs rfl))
  obtain ⟨a, xs, ex, hq, q⟩ := q1
  subst ex
  cases r1 with
  | cons r rr =>
    cases rr
    cases r
    obtain ⟨its, rv, p', hz⟩ := I1.tuple hq
    have hal : a < s1.heap.objs.size := p'.lt
    refine call_enumT (show s1.heap.IsTuple a its.toArray from p') fun h' he hit hk => wpAny_pyIter_enum he ?_
    have I2 : L2.Inv X pins σ H1 { s1 with heap := h' } := I1.kept (t' := s1.toks) hk
    refine ⟨s1.heap.objs.size + 1, [s1.heap.objs.size + 1, s1.heap.objs.size], _, _, H1, rfl, I2, turn_enumT a (s1.heap.objs.size + 1) s1.heap.objs.size xs, ⟨⟨.none, he⟩, hit, Nat.succ_ne_self _, Nat.ne_of_lt hal, Nat.ne_of_lt (Nat.lt_succ_of_lt hal)⟩, fun b hb => ?_, q⟩
    have hle : s1.heap.objs.size ≤ b := by
      rcases (by simpa using hb : b = s1.heap.objs.size + 1 ∨ b = s1.heap.objs.size) with z | z <;> rw [z]
      · exact Nat.le_add_right _ _
      · exact Nat.le_refl _
    exact I1.fpOk hle (I1.hok.fresh hle)
/-! ### zip of a list and a tuple -/
def IzLT (K : PySem.W.Frag) (a b : Addr) (xs ys : List V) : It :=
  ⟨fun i H => SqL K H a xs ∧ SqT K H b ys ∧ i < xs.length ∧ i < ys.length, fun i H v H' => ∃ T x y, v = .ref T ∧ H T = none ∧ H' = upd H T (.tup [x, y]) ∧ xs[i]? = some x ∧ ys[i]? = some y,
    fun i H => SqL K H a xs ∧ SqT K H b ys ∧ i ≤ xs.length ∧ i ≤ ys.length ∧ (i = xs.length ∨ i = ys.length)⟩
theorem turn_zipLT {P : Program} {w : World} {K : PySem.W.Frag} {elts : List Expr} {kk : Nat} {tpos : Pos} {a b z TI TO i1 i2 : Addr} {xs ys : List V} (S : ZipSep2 z TI TO i1 i2 [i1, a] [i2, b]) :
    Turn P w K (.Tuple elts kk tpos) (IzLT K a b xs ys) [z, TI, TO, i1, i2] z (fun i h => IsZip h z TI TO .none ∧ IsTupOf2 h TI (.ref i1) (.ref i2) ∧ (∃ x y, IsTupOf2 h TO x y) ∧ h.IsListIter i1 a i ∧ h.IsTupleIter i2 b i) where
  mem := by simp
  obj := fun i h st c hc => by
    obtain ⟨hz, hTI, ⟨x, y, hTO⟩, ⟨o1, e1, _, d1⟩, ⟨o2, e2, _, d2⟩⟩ := st
    rcases (by simpa using hc : c = z ∨ c = TI ∨ c = TO ∨ c = i1 ∨ c = i2) with q | q | q | q | q <;> rw [q]
    · exact ⟨_, hz, fun v q => nomatch q⟩
    · exact ⟨_, hTI, fun v q => nomatch q⟩
    · exact ⟨_, hTO, fun v q => nomatch q⟩
    · exact ⟨o1, e1, fun v q => by rw [d1] at q; cases q⟩
    · exact ⟨o2, e2, fun v q => by rw [d2] at q; cases q⟩
  keep := fun i h h' ⟨hz, hTI, ⟨x, y, hTO⟩, h1, h2⟩ k =>
    ⟨k z (by simp) _ hz, k TI (by simp) _ hTI, ⟨x, y, k TO (by simp) _ hTO⟩, h1.at fun o q => k i1 (by simp) o q, h2.at fun o q => k i2 (by simp) o q⟩
  item := by
    intro X hP hw hK hc i pins s σ H E I hf st hg
    subst hP hw hK
    obtain ⟨hz, hTI, ⟨x0, y0, hTO⟩, h1, h2⟩ := st
    obtain ⟨hqx, hqy, hi1, hi2⟩ := hg
    obtain ⟨its, rv, p, _⟩ := I.list hqx
    obtain ⟨its2, rv2, p2, _⟩ := I.tuple hqy
    have l1 := rv.length
    have l2 := rv2.length
    have hx : xs[i]? = some xs[i] := List.getElem?_eq_getElem hi1
    have hy : ys[i]? = some ys[i] := List.getElem?_eq_getElem hi2
    have ai : a ≠ i1 := fun e => by
      obtain ⟨o, ho, hc', _⟩ := p.isList
      obtain ⟨o', ho', hc'', _⟩ := h1
      rw [e, ho'] at ho
      cases ho
      rw [hc''] at hc'
      exact absurd (Value.type.inj hc') (by decide)
    have bi : b ≠ i2 := fun e => by
      obtain ⟨o, ho, hc', _⟩ := p2
      obtain ⟨o', ho', hc'', _⟩ := h2
      rw [e, ho'] at ho
      cases ho
      rw [hc''] at hc'
      exact absurd (Value.type.inj hc') (by decide)
    have old : ∀ c ∈ [z, TI, TO, i1, i2], c < s.heap.objs.size := fun c hc => by
      rcases (by simpa using hc : c = z ∨ c = TI ∨ c = TO ∨ c = i1 ∨ c = i2) with q | q | q | q | q <;> rw [q]
      · exact Heap.lt_size hz
      · exact Heap.lt_size hTI
      · exact Heap.lt_size hTO
      · obtain ⟨_, e1, _⟩ := h1; exact Heap.lt_size e1
      · obtain ⟨_, e2, _⟩ := h2; exact Heap.lt_size e2
    refine wpAny_pyNext_zipD2_item S (Draws.list (A := X.A.in1) (I.ok.hd hc) i1 a ai its.toArray) (Draws.tuple (A := X.A.in1) (I.ok.hd hc) i2 b bi its2.toArray) hz hTI hTO ⟨h1, p.isList⟩ ⟨h2, p2⟩ (by simp; omega) (by simp; omega)
      fun u u2 h' tk hu hu2 z' TO' h1' h2' hT hsz hk => ?_
    have ru : RelV xs[i] u := by
      obtain ⟨u', e1, e2⟩ := rv.get hx
      have e3 : its.toArray[i]? = some u' := by simpa using e1
      rw [hu] at e3
      cases e3
      exact e2
    have ru2 : RelV ys[i] u2 := by
      obtain ⟨u', e1, e2⟩ := rv2.get hy
      have e3 : its2.toArray[i]? = some u' := by simpa using e1
      rw [hu2] at e3
      cases e3
      exact e2
    have hzl := old z (by simp)
    refine ⟨_, rfl, wpAny_letOwnedTupleGo_zip (s := { s with heap := h', toks := tk }) z' fun h'' z'' sb => ?_⟩
    have hT2 : h''.get? s.heap.objs.size = some { cls := .type "tuple", data := .seq #[u, u2] } := (sb.2 _ (Nat.ne_of_gt hzl)).trans hT
    have new : ObjOk X.prog X.w (upd H s.heap.objs.size (.tup [xs[i], ys[i]])) h'' s.heap.objs.size (.tup [xs[i], ys[i]]) :=
      ⟨by show 2 ≤ sizeLine; decide, [u, u2], .cons ru (.cons ru2 .nil), ⟨_, hT2, rfl, _, rfl⟩⟩
    have I1 : L2.Inv X pins σ (upd H s.heap.objs.size (.tup [xs[i], ys[i]])) { s with heap := h'', toks := tk } :=
      I.turnedNew (ch := [z, TI, TO, i1, i2]) (fun c o hb q => (sb.2 c (fun q' => hb (by simp [q']))).trans (hk c o (fun q' => hb (by simp [q'])) (fun q' => hb (by simp [q'])) (fun q' => hb (by simp [q'])) (fun q' => hb (by simp [q'])) q)) hf (Nat.le_refl _) new
    refine ⟨.ref s.heap.objs.size, _, I1, rfl, ⟨_, _, _, rfl, I.hok.fresh (Nat.le_refl _), rfl, hx, hy⟩, ⟨z'', ?_, ⟨u, u2, ?_⟩, ?_, ?_⟩, fun c hcm => ?_⟩
    · exact (sb.2 _ S.TIz).trans (hk _ _ S.TIz S.TITO S.TIi1 S.TIi2 hTI)
    · exact (sb.2 _ S.TOz).trans TO'
    · exact h1'.1.at fun o q => (sb.2 _ S.zi1.symm).trans q
    · exact h2'.1.at fun o q => (sb.2 _ S.zi2.symm).trans q
    · rw [upd_ne (Nat.ne_of_lt (old c hcm))]
      exact (hf c hcm).1
  done := by
    intro X hP hw hK hc i pins s σ H E I hf st hg
    subst hP hw hK
    obtain ⟨hz, hTI, ⟨x0, y0, hTO⟩, h1, h2⟩ := st
    obtain ⟨hqx, hqy, hi1, hi2, hend⟩ := hg
    obtain ⟨its, rv, p, _⟩ := I.list hqx
    obtain ⟨its2, rv2, p2, _⟩ := I.tuple hqy
    have l1 := rv.length
    have l2 := rv2.length
    have ai : a ≠ i1 := fun e => by
      obtain ⟨o, ho, hc', _⟩ := p.isList
      obtain ⟨o', ho', hc'', _⟩ := h1
      rw [e, ho'] at ho
      cases ho
      rw [hc''] at hc'
      exact absurd (Value.type.inj hc') (by decide)
    have bi : b ≠ i2 := fun e => by
      obtain ⟨o, ho, hc', _⟩ := p2
      obtain ⟨o', ho', hc'', _⟩ := h2
      rw [e, ho'] at ho
      cases ho
      rw [hc''] at hc'
      exact absurd (Value.type.inj hc') (by decide)
    refine wpAny_pyNext_zipD2_end S (Draws.list (A := X.A.in1) (I.ok.hd hc) i1 a ai its.toArray) (Draws.tuple (A := X.A.in1) (I.ok.hd hc) i2 b bi its2.toArray) hz hTI hTO ⟨h1, p.isList⟩ ⟨h2, p2⟩ (by simp; omega) (by simp; omega) (by simp; omega)
      fun h' tk hk => ⟨rfl, I.turnedL (t' := tk) (ch := [z, TI, TO, i1, i2]) (fun c o hb q => hk c o (fun q' => hb (by simp [q'])) (fun q' => hb (by simp [q'])) (fun q' => hb (by simp [q'])) (fun q' => hb (by simp [q'])) q) hf⟩
  self := fun A i s Q E st h => wpAny_pyIter_zip st.1 h
def iZipLT (K : PySem.W.Frag) (ta : TA) : TI := fun σ H R => ta σ H fun vs H1 => ∃ a b xs ys, vs = [.ref a, .ref b] ∧ SqL K H1 a xs ∧ SqT K H1 b ys ∧ R (IzLT K a b xs ys) H1
theorem pi_zipLT {X : Cx} {e e2 : Expr} {ta : TA} {p pos tpos : Pos} {elts : List Expr} {kk : Nat} (hg : Gl X "zip") (hm : X.mg "zip" = none) (ha : PA X [e, e2] ta)
    (hs : starEach [e, e2] X.env = (false, eval e X.env) :: starEach [e2] X.env := by rfl) (hpl : (backTo pos (starEach [e2] X.env)).any (·.1) = false := by rfl) :
    PI X (.Tuple elts kk tpos) (.Call (.Name "zip" p) [e, e2] [] pos) (iZipLT X.K ta) := by
  refine ⟨fun pins s σ H R I h => ?_⟩
  refine Call_ (ld_blt I hg hm PyProof.Rows.boot_zip (PyProof.Rows.callWith_type1 (thn (ha.run pos pins s σ H _ I h) fun us s1 ⟨vs, H1, I1, r1, q1⟩ => ?_) hs hpl))
  obtain ⟨a, b, xs, ys, ex, hqx, hqy, q⟩ := q1
  subst ex
  cases r1 with
  | cons r rr =>
    cases rr with
    | cons r' rr =>
      cases rr
      cases r
      cases r'
      obtain ⟨its, rv, p1, _⟩ := I1.list hqx
      obtain ⟨its2, rv2, p2, _⟩ := I1.tuple hqy
      have la : a < s1.heap.objs.size := p1.lt
      have lb : b < s1.heap.objs.size := p2.lt
      refine zip_begins2 (begins_list a its.toArray) (begins_tuple b its2.toArray) p1.isList p2 fun h' hz hTI hTO h1 h2 hsz hk => wpAny_pyIter_zip hz ?_
      have I2 : L2.Inv X pins σ H1 { s1 with heap := h' } := I1.kept (t' := s1.toks) hk
      refine ⟨s1.heap.objs.size + 4, [s1.heap.objs.size + 4, s1.heap.objs.size + 2, s1.heap.objs.size + 3, s1.heap.objs.size, s1.heap.objs.size + 1], _, _, H1, rfl, I2, turn_zipLT (zip_sep2 (N := s1.heap.objs.size) (fp1 := [a]) (fp2 := [b]) (fun c hc => ?_) (fun c hc => ?_)), ⟨hz, hTI, ⟨_, _, hTO⟩, ⟨_, h1, rfl, rfl⟩, ⟨_, h2, rfl, rfl⟩⟩, fun c hcm => ?_, q⟩
      · rw [show c = a by simpa using hc]; exact la
      · rw [show c = b by simpa using hc]; exact lb
      · have hle : s1.heap.objs.size ≤ c := by
          rcases (by simpa using hcm : c = s1.heap.objs.size + 4 ∨ c = s1.heap.objs.size + 2 ∨ c = s1.heap.objs.size + 3 ∨ c = s1.heap.objs.size ∨ c = s1.heap.objs.size + 1) with z | z | z | z | z <;> rw [z]
          all_goals first | exact Nat.le_refl _ | exact Nat.le_add_right _ _
        exact I1.fpOk hle (I1.hok.fresh hle)
end K69

/-! ## KR2 -/
namespace K69
open PySem PySem.Spec PyProof.Rows L2
/-! ### t * k, t a tuple, any small k -/
section
open AutoSeq1 (wpAny_loadPart')
theorem tuple_mul1 (l : Addr) (items : Array Value) (n : Nat) (dd : Option Addr) (sl : Array (Option Value)) (u : Tok) :
    Meets (Builtin.«tuple.__mul__» ⟨[.ref l, .int 1 u], []⟩) (fun _ R s => s.heap.get? l = some { cls := .type "tuple", dict := dd, data := .seq items n, slots := sl } ∧ R (.ok (.ret (Value.ref l))) s) :=
  .of_wp fun prog w A R s h => by
    obtain ⟨hp, g, d, tk, os⟩ := s
    obtain ⟨hl, h⟩ := h
    have f1 := AutoSeq1.idx_int
    have c1 : (items.isEmpty || (1 : Int) == 1) = true := by simp
    wp_walk using wpAny_loadPart' hl
    repeat (first
      | (refine wpAny_ite_true (decide_eq_true (by simp)) ?_; wp_walk using wpAny_loadPart' hl)
      | (refine wpAny_ite_true c1 ?_; wp_walk using wpAny_loadPart' hl))
    exact ⟨_, rfl, h⟩
theorem tuple_mul0 (l : Addr) (items : Array Value) (n : Nat) (dd : Option Addr) (sl : Array (Option Value)) (u : Tok) (hi : items.isEmpty = false) :
    Meets (Builtin.«tuple.__mul__» ⟨[.ref l, .int 0 u], []⟩) (fun _ R s => s.heap.get? l = some { cls := .type "tuple", dict := dd, data := .seq items n, slots := sl } ∧
      R (.ok (.ret (Value.ref s.heap.objs.size))) { s with heap := s.heap.push { cls := Value.type "tuple", data := Data.seq #[] } }) :=
  .of_wp fun prog w A R s h => by
    obtain ⟨hp, g, d, tk, os⟩ := s
    obtain ⟨hl, h⟩ := h
    have f1 := AutoSeq1.idx_int
    have c1 : (items.isEmpty || (0 : Int) == 1) = false := by rw [hi]; rfl
    wp_walk using wpAny_loadPart' hl
    repeat (first
      | (refine wpAny_ite_false (decide_eq_false (by rw [c1]; exact Bool.false_ne_true)) ?_; wp_walk using wpAny_loadPart' hl)
      | (refine wpAny_ite_true (decide_eq_true (by simp)) ?_; wp_walk using wpAny_loadPart' hl))
    exact ⟨_, rfl, h⟩
end
def rRepA (K : PySem.W.Frag) : R2 := fun x y H Q => ∃ l k xs, x = .ref l ∧ y = .int ((k : Nat) : Int) ∧ SqT K H l xs ∧ xs ≠ [] ∧ k ≤ 1000 ∧ xs.length ≤ 1000 ∧ (k = 1 → Q (.ref l) H) ∧ (k ≠ 1 → ∀ p, H p = none → Q (.ref p) (upd H p (.tup (List.replicate k xs).flatten)))
theorem op_repA {X : Cx} : OpR X (binaryOp .Mult) (rRepA X.K) := by
  intro pins s σ H x y v u Q I rx ry h
  obtain ⟨l, k, xs, rfl, rfl, hT, hne, h2, hz, q1, q2⟩ := h
  by_cases k2 : 2 ≤ k
  · exact op_repT pins s σ H _ _ v u Q I rx ry ⟨l, (k : Int), xs, rfl, rfl, hT, hne, by omega, by omega, hz, fun p hp => q2 (by omega) p hp⟩
  · cases rx
    obtain ⟨t, rfl⟩ := ry
    obtain ⟨its, r, ⟨⟨cls, dd, data, sl⟩, ho, hc, n, hd⟩, hs⟩ := I.tuple hT
    simp only at hc hd
    subst hc hd
    have hle : its.length = xs.length := r.length.symm
    have hn : its ≠ [] := fun e => hne (by
      rw [e] at hle
      exact List.eq_nil_of_length_eq_zero hle.symm)
    have hi : its.toArray.isEmpty = false := by
      cases its with
      | nil => exact absurd rfl hn
      | cons a b => rfl
    by_cases k1 : k = 1
    · subst k1
      refine wpAny_binaryOp_repeat_ref (T := "tuple") (U := "int") (by decide) ⟨_, ho, rfl⟩ (fun s' => typeIs_int s' _ t) noFill_tuple_mul PySem.F.fills_int_mul PySem.F.slot_int_rmul repeat_tuple PySem.F.slot_int_index.lookup
        (call_meets PySem.F.slot_int_rmul (typeIs_int s _ t) PySem.F.entry_int_rmul (PySem.F.args_int_rmul_2 _ _) (int_rmul_tuple _ t l its.toArray n dd sl)
          ⟨ho, rfl, ⟨_, ho, rfl⟩, call_meets PySem.F.slot_tuple_mul ⟨_, ho, rfl⟩ PySem.F.entry_tuple_mul (PySem.F.args_tuple_mul_2 _ _) (tuple_mul1 l its.toArray n dd sl t) ⟨ho, ?_⟩⟩)
      exact ⟨.ref l, H, I, rfl, q1 rfl⟩
    · have k0 : k = 0 := by omega
      subst k0
      refine wpAny_binaryOp_repeat_ref (T := "tuple") (U := "int") (by decide) ⟨_, ho, rfl⟩ (fun s' => typeIs_int s' _ t) noFill_tuple_mul PySem.F.fills_int_mul PySem.F.slot_int_rmul repeat_tuple PySem.F.slot_int_index.lookup
        (call_meets PySem.F.slot_int_rmul (typeIs_int s _ t) PySem.F.entry_int_rmul (PySem.F.args_int_rmul_2 _ _) (int_rmul_tuple _ t l its.toArray n dd sl)
          ⟨ho, rfl, ⟨_, ho, rfl⟩, call_meets PySem.F.slot_tuple_mul ⟨_, ho, rfl⟩ PySem.F.entry_tuple_mul (PySem.F.args_tuple_mul_2 _ _) (tuple_mul0 l its.toArray n dd sl t hi) ⟨ho, ?_⟩⟩)
      have hf : H s.heap.objs.size = none := I.hok.fresh (Nat.le_refl _)
      exact ⟨.ref s.heap.objs.size, upd H s.heap.objs.size (.tup []), I.laid (t' := s.toks) (fun b u e => Heap.get?_push_of_some _ e) (Nat.le_refl _) ⟨Nat.zero_le _, [], .nil, ⟨_, Heap.get?_push_size _ rfl, rfl, _, rfl⟩⟩, rfl, q2 (by decide) _ hf⟩
/-! ### max, min of a tuple of ints -/
theorem rawBest {prog : Program} {w : World} {A : Around} {E : Value → Shared → Prop} {s : Shared} {l : Addr} {xs : Array (Int × Tok)} {Q : Value → Shared → Prop} (hh : A.handled = none) (hl : s.heap.IsTuple l (intItems xs)) (hne : 0 < xs.size)
    (h : ∀ m t h' tk, (∀ b o, s.heap.get? b = some o → h'.get? b = some o) → Q (.int m t) { s with heap := h', toks := tk }) :
    wpAny (model prog w) A (call (.builtin "max") [.ref l]) Q E s ∧ wpAny (model prog w) A (call (.builtin "min") [.ref l]) Q E s := by
  have hlt : l < s.heap.objs.size := by
    obtain ⟨o, ho, _⟩ := hl
    exact Heap.lt_size ho
  have fin : ∀ {v : Value} {h' : Heap} {tk : Nat} {j : Nat}, (intItems xs)[j]? = some v → (∀ b o, b ∉ [s.heap.objs.size] → (s.heap.push { cls := .type "tuple_iterator", data := .fields #[.ref l, .int 0 0] }).get? b = some o → h'.get? b = some o) → Q v { s with heap := h', toks := tk } := fun {v h' tk j} hv hk => by
    obtain ⟨t, rfl⟩ := intItems_at hv
    refine h _ t h' tk fun b o e => hk b o ?_ (Heap.get?_push_of_some _ e)
    simp only [List.mem_singleton]
    exact Nat.ne_of_lt (Heap.lt_size e)
  have st : Heap.IsTupleIter (s.heap.push { cls := .type "tuple_iterator", data := .fields #[.ref l, .int 0 0] }) s.heap.objs.size l 0 := ⟨_, Heap.get?_push_size _ rfl, rfl, rfl⟩
  have hl2 := hl.push { cls := .type "tuple_iterator", data := .fields #[.ref l, .int 0 0] }
  have hne' : 0 < (intItems xs).size := by simpa [intItems] using hne
  have hfp : ∀ b ∈ [s.heap.objs.size, l], b < (s.heap.push { cls := .type "tuple_iterator", data := .fields #[.ref l, .int 0 0] }).objs.size := fun b hb => by
    rw [Heap.size_push]
    rcases (by simpa using hb : b = s.heap.objs.size ∨ b = l) with e | e <;> rw [e]
    · exact Nat.lt_succ_self _
    · exact Nat.lt_succ_of_lt hlt
  refine ⟨call_max_walk (wpAny_pyIter_tuple hl ⟨_, _, _, _, _, _, _, rfl, Walks.tuple (A := A.in1) hh _ l (Nat.ne_of_lt hlt) (intItems xs), ⟨st, hl2⟩, hfp, hne', CmpOf.ints_gt (numAt xs) (fun _ _ => intItems_at), fun v h' tk hP hk => fin hP hk⟩),
    call_min_walk (wpAny_pyIter_tuple hl ⟨_, _, _, _, _, _, _, rfl, Walks.tuple (A := A.in1) hh _ l (Nat.ne_of_lt hlt) (intItems xs), ⟨st, hl2⟩, hfp, hne', CmpOf.ints_lt (numAt xs) (fun _ _ => intItems_at), fun v h' tk hP hk => fin hP hk⟩)⟩
def rBest (K : PySem.W.Frag) : List V → Hp → VK → Prop := fun vs H Q => ∃ (a : Addr) (ns : List Int), vs = [V.ref a] ∧ SqT K H a (ns.map V.int) ∧ 0 < ns.length ∧ ∀ m, Q (.int m) H
theorem cr_best {X : Cx} (hc : X.calm = true) : CallR X (.builtin "max") (rBest X.K) ∧ CallR X (.builtin "min") (rBest X.K) := by
  have key : ∀ {pins : List (Addr × Obj)} {s : Shared} {σ : L2.St} {H : Hp} {vs : List V} {us : List Value} {Q : VK}, L2.Inv X pins σ H s → Vals vs us → rBest X.K vs H Q →
      wpAny (model X.prog X.w) X.A (call (.builtin "max") us) (EP X pins σ Q) X.xe s ∧ wpAny (model X.prog X.w) X.A (call (.builtin "min") us) (EP X pins σ Q) X.xe s := by
    intro pins s σ H vs us Q I r h
    obtain ⟨a, ns, rfl, hs, hne, q⟩ := h
    obtain ⟨its, rv, hl, _⟩ := I.tuple hs
    rw [Vals.ref1 r]
    obtain ⟨xs, e⟩ := rv.ints.allInts.items
    have hl' : s.heap.IsTuple a its.toArray := hl
    rw [e] at hl'
    have hsz : 0 < xs.size := by
      have h1 := rv.length
      have h2 : its.length = xs.size := by
        have := congrArg Array.size e
        simpa [intItems] using this
      simp at h1
      omega
    exact rawBest (I.ok.hd hc) hl' hsz fun m t h' tk hk => ⟨.int m, H, I.kept hk, ⟨t, rfl⟩, q m⟩
  exact ⟨fun pins s σ H vs us Q I r h => (key I r h).1, fun pins s σ H vs us Q I r h => (key I r h).2⟩
/-! ### f(k = v, ..), f(e, k = v, ..) -/
section
variable {X : Cx} {CX : CXT} {k n : Nat} {f : Addr} {fd : FuncData} {ps ks : List Str} {sp : Sp} {E : XK} {x : Str} {p pos : Pos} {kws : List Keyword} {tk : TA} {g : List Value → List Value → List Value} {gV : List V → List V → List V}
theorem pe_callN0 (F : FnOk X.prog X.w X.K X.mg X.base CX k f fd ps sp) (hr : Room k X.A) (hg : Gl X x) (hm : X.mg x = some (.ref f)) (hk : PySem.W.keepIn X.K (.ref f) = true) (hb : KBn X.K fd ps 0 ks g gV) (hx : Passes CX X E)
    (hkw : PK X kws tk) (hall : (backToKw pos (keywordEach kws X.env)).all (·.1.isSome) = true := by rfl) (hks : (backToKw pos (keywordEach kws X.env)).filterMap (·.1) = ks := by rfl)
    (hdb : (x == ("__debug__" : Str)) = false := by decide) (hpl : ((backTo pos (starEach [] X.env)).any (·.1) || (backToKw pos (keywordEach kws X.env)).any (·.1.isNone)) = false := by rfl) :
    PE X (.Call (.Name x p) [] kws pos) (fun σ H Q => tk σ H fun zs H2 => zs.length = ks.length ∧ sp (gV [] zs) H2 Q E) := by
  refine ⟨fun pins s σ H Q I h => ?_⟩
  refine wpAny_Call_Name_kw (ld_glob I hg hm ?_ hdb)
  refine PySem.W.callWith_KW0 (h₀ := X.base) I.ok.mod.kin hk hall (thn (hkw.run pos pins s σ H _ I h) fun ws s2 ⟨zs, H2, I2, rz, l2, q2⟩ => ⟨I2.kIn, ?_⟩) hpl
  rw [hks]
  exact run_fnN (us := []) (vs := []) F hr hb hx I2 .nil rz rfl l2 q2
end
/-! ### enumerate of a list or a tuple -/
def iEnumA (K : PySem.W.Frag) (ta : TA) : TI := fun σ H R => ta σ H fun vs H1 => ∃ a xs, vs = [.ref a] ∧ ((SqL K H1 a xs ∧ R (Ite K a) H1) ∨ (SqT K H1 a xs ∧ R (IteT K a xs) H1))
theorem pi_enumA {X : Cx} {e : Expr} {ta : TA} {p pos tpos : Pos} {elts : List Expr} {kk : Nat} (hg : Gl X "enumerate") (hm : X.mg "enumerate" = none) (ha : PA X [e] ta) (hs : starEach [e] X.env = [(false, eval e X.env)] := by rfl) :
    PI X (.Tuple elts kk tpos) (.Call (.Name "enumerate" p) [e] [] pos) (iEnumA X.K ta) := by
  refine ⟨fun pins s σ H R I h => ?_⟩
  refine Call_ (ld_blt I hg hm boot_enumerate (PyProof.Rows.callWith_type1 (thn (ha.run pos pins s σ H _ I h) fun us s1 ⟨vs, H1, I1, r1, q1⟩ => ?_) hs rfl))
  obtain ⟨a, xs, ex, q1⟩ := q1
  subst ex
  cases r1 with
  | cons r rr =>
    cases rr
    cases r
    have fp : ∀ b ∈ [s1.heap.objs.size + 1, s1.heap.objs.size], FpOk X pins H1 b := fun b hb => by
      have hle : s1.heap.objs.size ≤ b := by
        rcases (by simpa using hb : b = s1.heap.objs.size + 1 ∨ b = s1.heap.objs.size) with z | z <;> rw [z]
        · exact Nat.le_add_right _ _
        · exact Nat.le_refl _
      exact I1.fpOk hle (I1.hok.fresh hle)
    rcases q1 with ⟨hq, q⟩ | ⟨hq, q⟩
    · obtain ⟨its, rv, p', hz⟩ := I1.list hq
      refine call_enumerate_list p'.isList fun h' he hit hsz hk => wpAny_pyIter_enum he ?_
      exact ⟨s1.heap.objs.size + 1, [s1.heap.objs.size + 1, s1.heap.objs.size], _, _, H1, rfl, I1.kept (t' := s1.toks) hk, turn_enum a (s1.heap.objs.size + 1) s1.heap.objs.size, ⟨⟨.none, he⟩, hit, Nat.succ_ne_self _⟩, fp, q⟩
    · obtain ⟨its, rv, p', hz⟩ := I1.tuple hq
      have hal : a < s1.heap.objs.size := p'.lt
      refine call_enumT (show s1.heap.IsTuple a its.toArray from p') fun h' he hit hk => wpAny_pyIter_enum he ?_
      exact ⟨s1.heap.objs.size + 1, [s1.heap.objs.size + 1, s1.heap.objs.size], _, _, H1, rfl, I1.kept (t' := s1.toks) hk, turn_enumT a (s1.heap.objs.size + 1) s1.heap.objs.size xs, ⟨⟨.none, he⟩, hit, Nat.succ_ne_self _, Nat.ne_of_lt hal, Nat.ne_of_lt (Nat.lt_succ_of_lt hal)⟩, fp, q⟩
/-- a walk over a list or a tuple that stand -/
def iSeq (K : PySem.W.Frag) (tl : TE) : TI := fun σ H R => tl σ H fun x H1 => ∃ a, x = .ref a ∧ (((∃ xs, SqL K H1 a xs) ∧ R (Itl K a) H1) ∨ ((∃ xs, SqT K H1 a xs) ∧ R (Itt K a) H1))
/-- for over enumerate: Pv by the turn; the pair is new at T -/
theorem for_enumA {K : PySem.W.Frag} {a : Addr} {xs : List V} {J : It} {g : TG} {tb : TS} {D : Ends} {σ : L2.St} {H : Hp} (hJ : (J = Ite K a ∧ ∀ H', Same H H' → SqL K H' a xs) ∨ (J = IteT K a xs ∧ ∀ H', Same H H' → SqT K H' a xs)) (Pv : Nat → L2.St → Hp → Prop) (h0 : Pv 0 σ H)
    (hq : ∀ i σ' H', Pv i σ' H' → Same H H')
    (hs : ∀ (i : Nat) (x : V) (T : Addr) (σ : L2.St) (H : Hp), xs[i]? = some x → Pv i σ H → H T = none → g (.ref T) σ (upd H T (.tup [.int (i : Nat), x])) fun σ2 H2 => tb { D with nx := Pv (i + 1), ct := Pv (i + 1), bk := D.nx } σ2 H2) (hd : ∀ σ H, Pv xs.length σ H → D.nx σ H) :
    ∃ W : Nat → Nat → L2.St → Hp → Prop, (∃ m, W 0 m σ H) ∧ ∀ i m σ H, W i m σ H →
      (J.stop i H ∧ D.nx σ H) ∨ (J.go i H ∧ ∃ N : L2.St → Hp → Prop, (∀ σ' H', N σ' H' → ∃ m', m' < m ∧ W (i + 1) m' σ' H') ∧ ∀ v H', J.yld i H v H' → g v σ H' fun σ2 H2 => tb { D with nx := N, ct := N, bk := D.nx } σ2 H2) := by
  refine ⟨fun i m σ H => m = xs.length - i ∧ i ≤ xs.length ∧ Pv i σ H, ⟨xs.length, rfl, Nat.zero_le _, h0⟩, ?_⟩
  rintro i m σ H ⟨rfl, hi, p⟩
  have sm := hq i σ H p
  by_cases hlt : i < xs.length
  · have hx : xs[i]? = some xs[i] := List.getElem?_eq_getElem hlt
    rcases hJ with ⟨rfl, st⟩ | ⟨rfl, st⟩
    · refine .inr ⟨⟨xs, _, st _ sm, hx⟩, Pv (i + 1), fun σ' H' p' => ⟨xs.length - (i + 1), by omega, rfl, hlt, p'⟩, fun v H' y => ?_⟩
      obtain ⟨T, x', rfl, hT, rfl, f1⟩ := y
      exact hs i x' T σ H (f1 xs (st _ sm)) p hT
    · refine .inr ⟨⟨st _ sm, hlt⟩, Pv (i + 1), fun σ' H' p' => ⟨xs.length - (i + 1), by omega, rfl, hlt, p'⟩, fun v H' y => ?_⟩
      obtain ⟨T, x', rfl, hT, rfl, f1⟩ := y
      exact hs i x' T σ H f1 p hT
  · have e : i = xs.length := by omega
    subst e
    rcases hJ with ⟨rfl, st⟩ | ⟨rfl, st⟩
    · exact .inl ⟨⟨xs, st _ sm, Nat.le_refl _⟩, hd σ H p⟩
    · exact .inl ⟨⟨st _ sm, rfl⟩, hd σ H p⟩
end K69

/-! ## KG -/
namespace K69
open PySem PySem.Spec PyProof.Rows L2
section
variable {K : PySem.W.Frag} {J : It} {g : TG} {tt : TT} {te : TE} {vs : List Nat} {σ : L2.St} {H1 : Hp} {D : Addr} {Qd : Hp → Prop} {n : Nat}
/-- a comprehension over any walk: Pv by the turn, what was made so far, the heap -/
theorem lcP (Pv : Nat → List V → Hp → Prop) (hz : n ≤ 1000) (h0 : Pv 0 [] (upd H1 D (.lst []))) (hgo : ∀ (i : Nat) acc H, i < n → Pv i acc H → J.go i H) (hst : ∀ acc H, Pv n acc H → J.stop n H)
    (hs : ∀ (i : Nat) (acc : List V) (v : V) (H H2 : Hp), i < n → H D = some (.lst acc) → acc.length ≤ i → Pv i acc H → J.yld i H v H2 → ∀ (A : V → Hp → Prop) (C : Hp → Prop),
      (∀ y H4, H4 D = some (.lst acc) → Pv (i + 1) (acc ++ [y]) (upd H4 D (.lst (acc ++ [y]))) → A y H4) → (∀ H4, H4 D = some (.lst acc) → Pv (i + 1) acc H4 → C H4) →
      g v (wipe σ vs) H2 fun σ2 H3 => wipe σ2 vs = wipe σ vs ∧ tt σ2 H3 fun b H4 => if b = true then te σ2 H4 A else C H4)
    (hd : ∀ acc H, H D = some (.lst acc) → acc.length ≤ n → Pv n acc H → Qd H) :
    ∃ W : Nat → Nat → Hp → Prop, (∃ m, W 0 m (upd H1 D (.lst []))) ∧ ∀ i m H, W i m H →
      (J.stop i H ∧ Qd H) ∨ (J.go i H ∧ ∃ Nx : Hp → Prop, (∀ H', Nx H' → ∃ m', m' < m ∧ W (i + 1) m' H') ∧ ∀ x H', J.yld i H x H' → g x (wipe σ vs) H' fun σ2 H2 => wipe σ2 vs = wipe σ vs ∧ tt σ2 H2 fun b H3 =>
        if b = true then te σ2 H3 fun y H4 => ∃ acc, H4 D = some (.lst acc) ∧ acc.length < sizeLine ∧ Nx (upd H4 D (.lst (acc ++ [y]))) else Nx H3) := by
  refine ⟨fun i m H => m = n - i ∧ i ≤ n ∧ ∃ acc, H D = some (.lst acc) ∧ acc.length ≤ i ∧ Pv i acc H, ⟨n, by simp, Nat.zero_le _, [], upd_same, Nat.le_refl _, h0⟩, ?_⟩
  rintro i m H ⟨rfl, hi, acc, eD, el, p⟩
  by_cases hlt : i < n
  · refine .inr ⟨hgo i acc H hlt p, fun H' => ∃ acc, H' D = some (.lst acc) ∧ acc.length ≤ i + 1 ∧ Pv (i + 1) acc H', fun H' q => ⟨n - (i + 1), by omega, rfl, hlt, q⟩, fun x H2 y => ?_⟩
    refine hs i acc x H H2 hlt eD el p y _ _ (fun y H4 e4 p4 => ⟨acc, e4, small1000 (by omega), acc ++ [y], upd_same, by simpa using el, p4⟩) fun H4 e4 p4 => ⟨acc, e4, by omega, p4⟩
  · have e : i = n := by omega
    subst e
    exact .inl ⟨hst acc H p, hd acc H eD el p⟩
/-- .. without tests, the items changing nothing that stood; Y tells an item -/
theorem lcY (Y : Nat → V → Hp → Prop) (mono : ∀ i y H H', Sb D H H' → Y i y H → Y i y H') (hD : H1 D = none) (hz : n ≤ 1000) (hgo : ∀ (i : Nat) (H : Hp), i < n → Same H1 H → J.go i H) (hst : ∀ H, Same H1 H → J.stop n H)
    (hs : ∀ (i : Nat) (v : V) (H H2 : Hp), i < n → Same H1 H → (∃ acc, H D = some (.lst acc)) → J.yld i H v H2 → Same H H2 ∧ ∀ A : V → Hp → Prop, (∀ y H4, Same H2 H4 → Y i y H4 → A y H4) → g v (wipe σ vs) H2 fun σ2 H3 => wipe σ2 vs = wipe σ vs ∧ te σ2 H3 A)
    (hd : ∀ H acc, Same H1 H → H D = some (.lst acc) → acc.length = n → (∀ (j : Nat) y, acc[j]? = some y → Y j y H) → Qd H) :
    ∃ W : Nat → Nat → Hp → Prop, (∃ m, W 0 m (upd H1 D (.lst []))) ∧ ∀ i m H, W i m H →
      (J.stop i H ∧ Qd H) ∨ (J.go i H ∧ ∃ Nx : Hp → Prop, (∀ H', Nx H' → ∃ m', m' < m ∧ W (i + 1) m' H') ∧ ∀ x H', J.yld i H x H' → g x (wipe σ vs) H' fun σ2 H2 => wipe σ2 vs = wipe σ vs ∧ tYes σ2 H2 fun b H3 =>
        if b = true then te σ2 H3 fun y H4 => ∃ acc, H4 D = some (.lst acc) ∧ acc.length < sizeLine ∧ Nx (upd H4 D (.lst (acc ++ [y]))) else Nx H3) := by
  refine lcP (tt := tYes) (fun i acc H => Same H1 H ∧ acc.length = i ∧ ∀ (j : Nat) y, acc[j]? = some y → Y j y H) hz ⟨same_upd hD, rfl, fun j y h => by simp at h⟩ (fun i acc H hi p => hgo i H hi p.1) (fun acc H p => hst H p.1)
    (fun i acc v H H2 hi eD el p y A C hA hC => ?_) (fun acc H eD el p => hd H acc p.1 eD p.2.1 p.2.2)
  obtain ⟨s, e, hY⟩ := p
  obtain ⟨s2, k⟩ := hs i v H H2 hi s ⟨acc, eD⟩ y
  refine lc_yes (k _ fun y H4 s4 hy => hA y H4 (s4 _ _ (s2 _ _ eD)) ⟨fun b o eb => ?_, by simp [e], fun j z hj => ?_⟩)
  · rw [upd_ne (ne_of_none eb hD)]
    exact s4 _ _ (s2 _ _ (s _ _ eb))
  · by_cases hj2 : j < acc.length
    · rw [List.getElem?_append_left hj2] at hj
      exact mono _ _ _ _ (Sb.trans (Sb.of (s2.trans s4)) sb_upd) (hY j z hj)
    · rw [List.getElem?_append_right (by omega)] at hj
      have ej : j = acc.length := by
        have := (List.getElem?_eq_some_iff.mp hj).1
        simp at this
        omega
      subst ej
      simp at hj
      rw [← hj, e]
      exact mono _ _ _ _ sb_upd hy
/-- .. items that are known values -/
theorem lcV (ys : List V) (hD : H1 D = none) (hl : ys.length = n) (hz : n ≤ 1000) (hgo : ∀ (i : Nat) (H : Hp), i < n → Same H1 H → J.go i H) (hst : ∀ H, Same H1 H → J.stop n H)
    (hs : ∀ (i : Nat) (v : V) (H H2 : Hp), i < n → Same H1 H → J.yld i H v H2 → Same H H2 ∧ ∀ A : V → Hp → Prop, (∀ y H4, Same H2 H4 → ys[i]? = some y → A y H4) → g v (wipe σ vs) H2 fun σ2 H3 => wipe σ2 vs = wipe σ vs ∧ te σ2 H3 A)
    (hd : ∀ H, Same H1 H → H D = some (.lst ys) → Qd H) :
    ∃ W : Nat → Nat → Hp → Prop, (∃ m, W 0 m (upd H1 D (.lst []))) ∧ ∀ i m H, W i m H →
      (J.stop i H ∧ Qd H) ∨ (J.go i H ∧ ∃ Nx : Hp → Prop, (∀ H', Nx H' → ∃ m', m' < m ∧ W (i + 1) m' H') ∧ ∀ x H', J.yld i H x H' → g x (wipe σ vs) H' fun σ2 H2 => wipe σ2 vs = wipe σ vs ∧ tYes σ2 H2 fun b H3 =>
        if b = true then te σ2 H3 fun y H4 => ∃ acc, H4 D = some (.lst acc) ∧ acc.length < sizeLine ∧ Nx (upd H4 D (.lst (acc ++ [y]))) else Nx H3) := by
  refine lcY (fun i y _ => ys[i]? = some y) (fun _ _ _ _ _ h => h) hD hz hgo hst (fun i v H H2 hi s _ y => hs i v H H2 hi s y) (fun H acc s eD el h => hd H s ?_)
  have e : acc = ys := by
    refine List.ext_getElem? fun j => ?_
    cases hj : acc[j]? with
    | some y => exact (h j y hj).symm
    | none =>
      rw [List.getElem?_eq_none_iff] at hj
      exact (List.getElem?_eq_none (by omega)).symm
  rw [← e]
  exact eD
end
/-! ### the walks' turns -/
section
variable {K : PySem.W.Frag} {a b : Addr} {xs ys : List V} {H1 : Hp}
theorem ite_go {xs : List V} (h : ∀ H', Same H1 H' → SqL K H' a xs) (i : Nat) (H : Hp) (hi : i < xs.length) (s : Same H1 H) : (Ite K a).go i H := ⟨xs, xs[i], h _ s, List.getElem?_eq_getElem hi⟩
theorem ite_yld {xs : List V} (h : ∀ H', Same H1 H' → SqL K H' a xs) {i : Nat} {H H2 : Hp} {v : V} (s : Same H1 H) (y : (Ite K a).yld i H v H2) : ∃ T x, v = .ref T ∧ H T = none ∧ H2 = upd H T (.tup [.int (i : Nat), x]) ∧ xs[i]? = some x := by
  obtain ⟨T, x, e1, e2, e3, f⟩ := y
  exact ⟨T, x, e1, e2, e3, f xs (h _ s)⟩
theorem itz_go (h1 : ∀ H', Same H1 H' → SqL K H' a xs) (h2 : ∀ H', Same H1 H' → SqL K H' b ys) (i : Nat) (H : Hp) (hi : i < xs.length) (hj : i < ys.length) (s : Same H1 H) : (Itz K a b).go i H :=
  ⟨xs, ys, xs[i], ys[i], h1 _ s, h2 _ s, List.getElem?_eq_getElem hi, List.getElem?_eq_getElem hj⟩
theorem itz_yld (h1 : ∀ H', Same H1 H' → SqL K H' a xs) (h2 : ∀ H', Same H1 H' → SqL K H' b ys) {i : Nat} {H H2 : Hp} {v : V} (s : Same H1 H) (y : (Itz K a b).yld i H v H2) : ∃ T x z, v = .ref T ∧ H T = none ∧ H2 = upd H T (.tup [x, z]) ∧ xs[i]? = some x ∧ ys[i]? = some z := by
  obtain ⟨T, x, z, e1, e2, e3, f1, f2⟩ := y
  exact ⟨T, x, z, e1, e2, e3, f1 xs (h1 _ s), f2 ys (h2 _ s)⟩
theorem itzT_go (h1 : ∀ H', Same H1 H' → SqT K H' a xs) (h2 : ∀ H', Same H1 H' → SqT K H' b ys) (i : Nat) (H : Hp) (hi : i < xs.length) (hj : i < ys.length) (s : Same H1 H) : (RZ.ItzT K a b).go i H :=
  ⟨xs, ys, xs[i], ys[i], h1 _ s, h2 _ s, List.getElem?_eq_getElem hi, List.getElem?_eq_getElem hj⟩
theorem itzT_yld (h1 : ∀ H', Same H1 H' → SqT K H' a xs) (h2 : ∀ H', Same H1 H' → SqT K H' b ys) {i : Nat} {H H2 : Hp} {v : V} (s : Same H1 H) (y : (RZ.ItzT K a b).yld i H v H2) : ∃ T x z, v = .ref T ∧ H T = none ∧ H2 = upd H T (.tup [x, z]) ∧ xs[i]? = some x ∧ ys[i]? = some z := by
  obtain ⟨T, x, z, e1, e2, e3, f1, f2⟩ := y
  exact ⟨T, x, z, e1, e2, e3, f1 xs (h1 _ s), f2 ys (h2 _ s)⟩
end
/-! ### a walk over a list or a tuple that a name holds -/
theorem pi_seq {X : Cx} {tg l : Expr} {i : Nat} (hl : PE X l (tVar i)) : PI X tg l (iSeq X.K (tVar i)) := by
  refine ⟨fun pins s σ H R I h => ?_⟩
  obtain ⟨v, hv, a, rfl, ⟨hq, hr⟩ | ⟨hq, hr⟩⟩ := h
  · exact (pi_list hl).run pins s σ H R I ⟨_, hv, a, rfl, hq, hr⟩
  · exact (pi_tup hl).run pins s σ H R I ⟨_, hv, a, rfl, hq, hr⟩
/-- for over enumerate of a list that the turns leave as it is -/
theorem for_enumB {K : PySem.W.Frag} {a : Addr} {xs : List V} {g : TG} {tb : TS} {D : Ends} {σ : L2.St} {H : Hp} (Pv : Nat → L2.St → Hp → Prop) (h0 : Pv 0 σ H) (hq : ∀ i σ' H', Pv i σ' H' → SqL K H' a xs)
    (hs : ∀ (i : Nat) (x : V) (T : Addr) (σ : L2.St) (H : Hp), xs[i]? = some x → Pv i σ H → H T = none → g (.ref T) σ (upd H T (.tup [.int (i : Nat), x])) fun σ2 H2 => tb { D with nx := Pv (i + 1), ct := Pv (i + 1), bk := D.nx } σ2 H2) (hd : ∀ σ H, Pv xs.length σ H → D.nx σ H) :
    ∃ W : Nat → Nat → L2.St → Hp → Prop, (∃ m, W 0 m σ H) ∧ ∀ i m σ H, W i m σ H →
      ((Ite K a).stop i H ∧ D.nx σ H) ∨ ((Ite K a).go i H ∧ ∃ N : L2.St → Hp → Prop, (∀ σ' H', N σ' H' → ∃ m', m' < m ∧ W (i + 1) m' σ' H') ∧ ∀ v H', (Ite K a).yld i H v H' → g v σ H' fun σ2 H2 => tb { D with nx := N, ct := N, bk := D.nx } σ2 H2) := by
  refine ⟨fun i m σ H => m = xs.length - i ∧ i ≤ xs.length ∧ Pv i σ H, ⟨xs.length, rfl, Nat.zero_le _, h0⟩, ?_⟩
  rintro i m σ H ⟨rfl, hi, p⟩
  have sq := hq i σ H p
  by_cases hlt : i < xs.length
  · refine .inr ⟨⟨xs, _, sq, List.getElem?_eq_getElem hlt⟩, Pv (i + 1), fun σ' H' p' => ⟨xs.length - (i + 1), by omega, rfl, hlt, p'⟩, fun v H' y => ?_⟩
    obtain ⟨T, x', rfl, hT, rfl, f1⟩ := y
    exact hs i x' T σ H (f1 xs sq) p hT
  · have e : i = xs.length := by omega
    subst e
    exact .inl ⟨⟨xs, sq, Nat.le_refl _⟩, hd σ H p⟩
end K69

/-! ## KX -/
namespace K69
open PySem PySem.Spec PyProof.Rows L2
/-! ### what check_vectors refuses -/
inductive Fault where
  | num (d : PyData)
  | vec (i : Int)
  | many
def Fault.pay : Fault → PyData
  | .num d => d
  | .vec i => .int i
  | .many => .int 12
def Fault.code : Fault → Str
  | .num _ => "InvalidNumber"
  | .vec _ => "InvalidVector"
  | .many => "TooMany"
def Fault.fld : Fault → Str
  | .num _ => "value"
  | .vec _ => "at"
  | .many => "most"
/-- the classes' places -/
structure ClsA where
  N : Addr
  V : Addr
  M : Addr
def Fault.cls (c : ClsA) : Fault → Addr
  | .num _ => c.N
  | .vec _ => c.V
  | .many => c.M
def wOf : PyData → Int
  | .int i => i
  | _ => 0
def itemsD : PyData → Option (List PyData)
  | .list xs => some xs
  | .tuple xs => some xs
  | _ => none
def firstBad (wd : Int) : List PyData → Nat → Option Nat
  | [], _ => none
  | x :: xs, i => if vecD x wd = true then firstBad wd xs (i + 1) else some i
def faultD (d e : PyData) : Option Fault :=
  if numIn e 1 7 = false then some (.num e) else
    match itemsD d with
    | none => some (.vec (-1))
    | some xs => if 12 < xs.length then some .many else (firstBad (wOf e) xs 0).map fun (i : Nat) => Fault.vec (i : Int)
theorem firstBad_at {wd : Int} : ∀ {xs : List PyData} {i j : Nat} {x : PyData}, (∀ (k : Nat) (y : PyData), k < i → xs[k]? = some y → vecD y wd = true) → xs[i]? = some x → vecD x wd = false → firstBad wd xs j = some (i + j)
  | [], i, j, x, _, h, _ => by simp at h
  | a :: r, 0, j, x, _, h, e => by
    have h' := Option.some.inj h
    subst h'
    simp [firstBad, e]
  | a :: r, i + 1, j, x, hk, h, e => by
    have ha := hk 0 a (by omega) rfl
    simp only [firstBad, ha, if_true]
    rw [firstBad_at (xs := r) (i := i) (fun k y hlt hy => hk (k + 1) y (by omega) (by simpa using hy)) (by simpa using h) e]
    congr 1
    omega
theorem firstBad_none {wd : Int} : ∀ {xs : List PyData} {j : Nat}, (∀ y ∈ xs, vecD y wd = true) → firstBad wd xs j = none
  | [], _, _ => rfl
  | a :: r, j, h => by
    simp only [firstBad, h a (by simp), if_true]
    exact firstBad_none fun y hy => h y (by simp [hy])
/-- what an error that is let out must find -/
def Out (c : ClsA) (B : Addr) (H : Hp) (E : XK) (f : Fault) : Prop := ∀ (H' : Hp) (dd : Addr) (v : V), Same H H' → H dd = none → At B H' v f.pay → H' dd = some (.xd [(f.fld, v), ("code", .str f.code)]) → E (.ref (f.cls c)) (some dd) H'
theorem Out.same {c : ClsA} {B : Addr} {H H1 : Hp} {E : XK} {f : Fault} (o : Out c B H E f) (s : Same H H1) : Out c B H1 E f := fun H' dd v s' n a e => o H' dd v (s.trans s') (s.free n) a e
/-- what the text says of a class of errors -/
structure ErrC (K : PySem.W.Frag) (C fI : Addr) (fld : Str) : Prop where
  oex : OexC K C
  init : PySem.W.findIn K (.ref C) "__init__" = some (some (.ref fI))
  ty : PySem.W.typeIn K (.ref fI) = some (.type "function")
  nc : PySem.W.findIn K (.ref C) "code" = some none
  nf : PySem.W.findIn K (.ref C) fld = some none
section
variable {P : Program} {w : World} {K : PySem.W.Frag} {mg : Str → Option Value} {base : Heap}
/-! ### __init__ -/
def spErr (K : PySem.W.Frag) (C fI : Addr) (fld code : Str) : Sp := fun vs H Q _ => ∃ (a : Addr) (v : V), vs = [.ref a, v] ∧ ErrC K C fI fld ∧ H a = some (exo a C none) ∧
  ∀ dx, H dx = none → dx ≠ a → Q .non (upd (upd (upd H dx (exd dx [("code", .str code)])) a (exo a C (some dx))) dx (exd dx [(fld, v), ("code", .str code)]))
abbrev sIN : Stmt := inClass (topS 3) 0
theorem scIN : FnScope ["self", "value"] ["self", "value"] (defScope sIN) := ⟨rfl, rfl, rfl, by decide +kernel, rfl, by decide +kernel, by decide +kernel⟩
theorem ok_iN {f C : Addr} {fd : FuncData} {k : Nat} (F : Fun K "__init__" "InvalidNumber.__init__" sIN f fd) : FnOk P w K mg base CX0 (k + 1) f fd ["self", "value"] (spErr K C f "value" "InvalidNumber") := by
  refine F.ok scIN (fun vs H Q E h => ?_) (fun cdv A outer s H vs Q E hr h => ?_)
  · obtain ⟨a, v, rfl, _⟩ := h
    rfl
  · obtain ⟨a, v, rfl, T, ha, q⟩ := h
    refine ⟨_, pss_cons (ps_ost (pv 0) pe_str) (pss_one (ps_ost (pv 0) (pv 1))), ?_⟩
    refine ⟨.ref a, rfl, a, C, rfl, T.oex, T.nc, .inl ⟨ha, fun dx h1 h2 => ?_⟩⟩
    refine ⟨v, rfl, .ref a, rfl, a, C, rfl, T.oex, T.nf, .inr ⟨dx, [("code", .str "InvalidNumber")], upd_same, ?_, by simp, q dx h1 h2⟩⟩
    rw [upd_ne h2, upd_same]
abbrev sIV : Stmt := inClass (topS 4) 0
theorem scIV : FnScope ["self", "at"] ["self", "at"] (defScope sIV) := ⟨rfl, rfl, rfl, by decide +kernel, rfl, by decide +kernel, by decide +kernel⟩
theorem ok_iV {f C : Addr} {fd : FuncData} {k : Nat} (F : Fun K "__init__" "InvalidVector.__init__" sIV f fd) : FnOk P w K mg base CX0 (k + 1) f fd ["self", "at"] (spErr K C f "at" "InvalidVector") := by
  refine F.ok scIV (fun vs H Q E h => ?_) (fun cdv A outer s H vs Q E hr h => ?_)
  · obtain ⟨a, v, rfl, _⟩ := h
    rfl
  · obtain ⟨a, v, rfl, T, ha, q⟩ := h
    refine ⟨_, pss_cons (ps_ost (pv 0) pe_str) (pss_one (ps_ost (pv 0) (pv 1))), ?_⟩
    refine ⟨.ref a, rfl, a, C, rfl, T.oex, T.nc, .inl ⟨ha, fun dx h1 h2 => ?_⟩⟩
    refine ⟨v, rfl, .ref a, rfl, a, C, rfl, T.oex, T.nf, .inr ⟨dx, [("code", .str "InvalidVector")], upd_same, ?_, by simp, q dx h1 h2⟩⟩
    rw [upd_ne h2, upd_same]
abbrev sIM : Stmt := inClass (topS 5) 0
theorem scIM : FnScope ["self", "most"] ["self", "most"] (defScope sIM) := ⟨rfl, rfl, rfl, by decide +kernel, rfl, by decide +kernel, by decide +kernel⟩
theorem ok_iM {f C : Addr} {fd : FuncData} {k : Nat} (F : Fun K "__init__" "TooMany.__init__" sIM f fd) : FnOk P w K mg base CX0 (k + 1) f fd ["self", "most"] (spErr K C f "most" "TooMany") := by
  refine F.ok scIM (fun vs H Q E h => ?_) (fun cdv A outer s H vs Q E hr h => ?_)
  · obtain ⟨a, v, rfl, _⟩ := h
    rfl
  · obtain ⟨a, v, rfl, T, ha, q⟩ := h
    refine ⟨_, pss_cons (ps_ost (pv 0) pe_str) (pss_one (ps_ost (pv 0) (pv 1))), ?_⟩
    refine ⟨.ref a, rfl, a, C, rfl, T.oex, T.nc, .inl ⟨ha, fun dx h1 h2 => ?_⟩⟩
    refine ⟨v, rfl, .ref a, rfl, a, C, rfl, T.oex, T.nf, .inr ⟨dx, [("code", .str "TooMany")], upd_same, ?_, by simp, q dx h1 h2⟩⟩
    rw [upd_ne h2, upd_same]
theorem raise_read {C fI : Addr} {fld code : Str} {H : Hp} {v : V} {E : XK} (T : ErrC K C fI fld) (o : ∀ H' dd, Same H H' → H dd = none → H' dd = some (.xd [(fld, v), ("code", .str code)]) → E (.ref C) (some dd) H') :
    ∀ a, H a = none → spErr K C fI fld code [.ref a, v] (upd H a (exo a C none)) (fun x H2 => x = .non ∧ ∃ (d : Addr) (fs : List (Str × V)), H2 a = some (exo a C (some d)) ∧ H2 d = some (exd d fs) ∧ H d = none ∧ E (.ref C) (some d) (upd (del H2 a) d (.xd fs))) (fun _ _ _ => False) := by
  intro a ha
  refine ⟨a, v, rfl, T, upd_same, fun dx hdx hne => ?_⟩
  have hn : H dx = none := by
    rw [upd_ne hne] at hdx
    exact hdx
  refine ⟨rfl, dx, _, ?_, upd_same, hn, o _ dx (fun b x e => ?_) hn upd_same⟩
  · rw [upd_ne hne.symm, upd_same]
  · have h1 := ne_of_none e hn
    have h2 := ne_of_none e ha
    rw [upd_ne h1, del_ne h2, upd_ne h1, upd_ne h2, upd_ne h1, upd_ne h2]
    exact e
theorem kit_seq (d : PyData) : PySem.W.kitAny K (.type (typ d)) [.type "list", .type "tuple"] = some (isLst d || isTup d) := by
  refine kitAny_cons (kit_ty (kit_lst d)) (fun h => ?_) (fun h => by rw [h]; rfl)
  rw [h]
  exact kitAny_cons (kit_ty (kit_tup d)) (fun h2 => by rw [h2]; exact kitAny_nil) (fun h2 => by rw [h2]; rfl)
/-- the errors' classes as the text has them -/
structure ErrT (K : PySem.W.Frag) (mg : Str → Option Value) (P : Program) (w : World) (base : Heap) (c : ClsA) : Prop where
  n : ∃ fI fd, ErrC K c.N fI "value" ∧ mg "InvalidNumber" = some (.ref c.N) ∧ FnOk P w K mg base CX0 1 fI fd ["self", "value"] (spErr K c.N fI "value" "InvalidNumber") ∧ Binds K fd ["self", "value"] []
  v : ∃ fI fd, ErrC K c.V fI "at" ∧ mg "InvalidVector" = some (.ref c.V) ∧ FnOk P w K mg base CX0 1 fI fd ["self", "at"] (spErr K c.V fI "at" "InvalidVector") ∧ Binds K fd ["self", "at"] []
  m : ∃ fI fd, ErrC K c.M fI "most" ∧ mg "TooMany" = some (.ref c.M) ∧ FnOk P w K mg base CX0 1 fI fd ["self", "most"] (spErr K c.M fI "most" "TooMany") ∧ Binds K fd ["self", "most"] []
/-! ### check_vectors -/
abbrev sChk : Stmt := topS 13
theorem scChk : FnScope ["vectors", "width", "at", "vector"] ["vectors", "width"] (defScope sChk) := ⟨rfl, rfl, rfl, by decide +kernel, rfl, by decide +kernel, by decide +kernel⟩
def spChk (c : ClsA) : Sp := fun vs H Q E => ∃ (B : Addr) (x y : V) (d e : PyData), vs = [x, y] ∧ At B H x d ∧ At B H y e ∧ (faultD d e = none → ∀ H', Same H H' → Q .non H') ∧ (∀ f, faultD d e = some f → Out c B H E f)
theorem ok_chk {c : ClsA} {f : Addr} {fd : FuncData} (F : Fun K "check_vectors" "check_vectors" sChk f fd) (T : Tx K mg) (ER : ErrT K mg P w base c) (D1 : Df P w K mg base 1 "is_number" ["value", "least", "most"] spNum) (D2 : Df P w K mg base 2 "is_vector" ["value", "width"] spVec) :
    FnOk P w K mg base (L2.CX P w) 3 f fd ["vectors", "width"] (spChk c) := by
  refine F.okX scChk (fun vs H Q E h => ?_) (fun cdv A outer s H vs Q E hr h => ?_)
  · obtain ⟨B, x, y, d, e, rfl, _⟩ := h
    rfl
  · obtain ⟨B, x, y, d, e, rfl, hx, hy, q, o⟩ := h
    obtain ⟨fN, fdN, TN, mN, GN, bN⟩ := ER.n
    obtain ⟨fV, fdV, TV, mV, GV, bV⟩ := ER.v
    obtain ⟨fM, fdM, TM, mM, GM, bM⟩ := ER.m
    refine ⟨_, pss_cons (ps_if (pt_not (pt_val (pe_d D1 hr (by rfl) (pa_cons (pv 1) (pa_cons pe_int (pa_cons pe_int pa_nil)))))) (pss_one (ps_raise rfl (takes_of rfl rfl rfl rfl) (pmk_oex TN.oex TN.init TN.ty GN hr bN .nil pass0 (by rfl) mN (pa_cons (pv 1) pa_nil)))) pss_nil)
      (pss_cons (ps_if (pt_not (pt_val (pe_callB call_isiT (by rfl) T.isinstance PyProof.Rows.boot_isinstance (pa_cons (pv 0) (pa_cons (pe_tup (pa_cons (bL T (by rfl)) (pa_cons (bT T (by rfl)) pa_nil))) pa_nil))))) (pss_one (ps_raise rfl (takes_of rfl rfl rfl rfl) (pmk_oex TV.oex TV.init TV.ty GV hr bV .nil pass0 (by rfl) mV (pa_cons (pe_un un_neg pe_int) pa_nil)))) pss_nil)
      (pss_cons (ps_if (pt_cmpR op_gt (pe_len T (pv 0)) pe_int (nomark _)) (pss_one (ps_raise rfl (takes_of rfl rfl rfl rfl) (pmk_oex TM.oex TM.init TM.ty GM hr bM .nil pass0 (by rfl) mM (pa_cons pe_int pa_nil)))) pss_nil)
      (pss_one (ps_for (passes_of rfl) rfl (pi_enumA (by rfl) T.enumerate (pa_cons (pv 0) pa_nil)) (pg_tup rfl (pgs_cons (pg_name (i := 2) scChk.nd rfl (.inl rfl)) (pgs_cons (pg_name (i := 3) scChk.nd rfl (.inl rfl)) pgs_nil)))
          (pss_one (ps_if (pt_not (pt_val (pe_d D2 hr (by rfl) (pa_cons (pv 3) (pa_cons (pv 1) pa_nil))))) (pss_one (ps_raise rfl (takes_of rfl rfl rfl rfl) (pmk_oex TV.oex TV.init TV.ty GV hr bV .nil pass0 (by rfl) mV (pa_cons (pv 2) pa_nil)))) pss_nil)))))), ?_⟩
    have aL : ∀ xs, itemsD d = some xs → isLst d = true ∨ isTup d = true := fun xs hd => by revert hd; cases d <;> simp [itemsD, isLst, isTup]
    refine ⟨y, rfl, B, y, e, 1, 7, rfl, hy, _, rfl, ?_⟩
    cases c1 : numIn e 1 7 with
    | false =>
      have ef : faultD d e = some (.num e) := by simp [faultD, c1]
      refine iteT ⟨y, rfl, (by show 1 ≤ 1000; decide), raise_read TN fun H' dd s n z => o _ ef H' dd y s n (hy.sb (Sb.of s)) z⟩
    | true =>
      obtain ⟨wd, rfl⟩ : ∃ wd, e = .int wd := by revert c1; cases e <;> simp [numIn]
      have ey := hy.intI
      subst ey
      have hwd : 1 ≤ wd ∧ wd ≤ 7 := by simpa [numIn] using c1
      refine iteF ?_
      refine ⟨x, rfl, (by show 2 ≤ sizeLine; decide), fun tp htp => ?_⟩
      have s1 := same_upd (o := .tup [.ty "list", .ty "tuple"]) htp
      have hx1 := hx.sb (Sb.of s1)
      refine ⟨x, tp, _, _, _, _, rfl, upd_same, .cons (.ty _) (.cons (.ty _) .nil), hx1.ty, kit_seq d, _, rfl, ?_⟩
      cases c2 : isLst d || isTup d with
      | false =>
        have ef : faultD d (.int wd) = some (.vec (-1)) := by
          have : itemsD d = none := by revert c2; cases d <;> simp [isLst, isTup, itemsD]
          simp [faultD, c1, this]
        exact iteT ⟨1, rfl, by decide, raise_read TV fun H' dd s n z => (o _ ef).same s1 H' dd _ s n (.int _) z⟩
      | true =>
        refine iteF ?_
        obtain ⟨ds, a, xs, hds, rfl, hs, hJ⟩ : ∃ (ds : List PyData) (a : Addr) (xs : List V), itemsD d = some ds ∧ x = .ref a ∧ AtAll B (upd H tp (.tup [.ty "list", .ty "tuple"])) xs ds ∧ ((upd H tp (.tup [.ty "list", .ty "tuple"])) a = some (.lst xs) ∨ (upd H tp (.tup [.ty "list", .ty "tuple"])) a = some (.tup xs)) := by
          cases hx1 with
          | lst _ e h => exact ⟨_, _, _, rfl, rfl, h, .inl e⟩
          | tup _ e h => exact ⟨_, _, _, rfl, rfl, h, .inr e⟩
          | _ => simp [isLst, isTup] at c2
        have hl := hs.len
        have sq : SqL K (upd H tp (.tup [.ty "list", .ty "tuple"])) a xs ∨ SqT K (upd H tp (.tup [.ty "list", .ty "tuple"])) a xs := hJ.imp (fun e => SqL.of e) (fun e => SqT.of e)
        refine ⟨.ref a, rfl, a, xs, rfl, sq, xs.length, 12, rfl, rfl, _, rfl, ?_⟩
        by_cases c3 : 12 < xs.length
        · have ef : faultD d (.int wd) = some .many := by simp [faultD, c1, hds, ← hl, c3]
          have ec : decide ((xs.length : Int) > 12) = true := decide_eq_true (by omega)
          rw [ec]
          exact iteT ⟨by decide, raise_read TM fun H' dd s n z => (o _ ef).same s1 H' dd _ s n (.int _) z⟩
        · have ec : decide ((xs.length : Int) > 12) = false := decide_eq_false (by omega)
          rw [ec]
          refine iteF ?_
          generalize hH1 : upd H tp (.tup [.ty "list", .ty "tuple"]) = H1 at *
          have ef0 : faultD d (.int wd) = (firstBad wd ds 0).map fun (i : Nat) => Fault.vec (i : Int) := by
            simp [faultD, c1, hds, ← hl, c3, wOf]
          refine ⟨.ref a, rfl, a, xs, rfl, ?_⟩
          rcases hJ with e | e
          all_goals
            first
              | refine .inl ⟨SqL.of e, for_enumA (K := K) (a := a) (xs := xs) (.inl ⟨rfl, fun H' s => SqL.of (s _ _ e)⟩) (fun i σ H' => ∃ y2 y3, σ = [some (.ref a), some (.int wd), y2, y3] ∧ Same H1 H' ∧ ∀ (k : Nat) (z : PyData), k < i → ds[k]? = some z → vecD z wd = true) ?_ ?_ ?_ ?_⟩
              | refine .inr ⟨SqT.of e, for_enumA (K := K) (a := a) (xs := xs) (.inr ⟨rfl, fun H' s => SqT.of (s _ _ e)⟩) (fun i σ H' => ∃ y2 y3, σ = [some (.ref a), some (.int wd), y2, y3] ∧ Same H1 H' ∧ ∀ (k : Nat) (z : PyData), k < i → ds[k]? = some z → vecD z wd = true) ?_ ?_ ?_ ?_⟩
            · exact ⟨none, none, rfl, Same.refl _, fun k z h => by omega⟩
            · exact fun i σ' H' p => let ⟨_, _, _, s, _⟩ := p; s
            · intro i z Tp σ H' hz p hT
              obtain ⟨y2, y3, rfl, s, hk⟩ := p
              obtain ⟨dz, h1, h2⟩ := hs.getV hz
              have s2 := same_upd (o := .tup [.int (i : Nat), z]) hT
              refine ⟨Tp, _, rfl, SqT.of upd_same, rfl, .int (i : Nat), _, rfl, z, _, rfl, rfl, ?_⟩
              refine ⟨z, rfl, .int wd, rfl, B, z, dz, wd, rfl, h2.sb (Sb.of (s.trans s2)), by omega, fun H3 s3 => ⟨_, rfl, ?_⟩⟩
              cases c4 : vecD dz wd with
              | true =>
                refine iteF ⟨_, _, rfl, (s.trans s2).trans s3, fun k y hlt hy => ?_⟩
                by_cases e : k = i
                · subst e
                  rw [h1] at hy
                  rw [← Option.some.inj hy]
                  exact c4
                · exact hk k y (by omega) hy
              | false =>
                have ef : faultD d (.int wd) = some (.vec (i : Nat)) := by
                  rw [ef0, firstBad_at hk h1 c4]
                  simp
                exact iteT ⟨.int (i : Nat), rfl, (by show 1 ≤ 1000; decide), raise_read TV fun H' dd s' n z => (o _ ef).same (s1.trans ((s.trans s2).trans s3)) H' dd _ s' n (.int _) z⟩
            · intro σ H' p
              obtain ⟨y2, y3, rfl, s, hk⟩ := p
              refine q ?_ H' (s1.trans s)
              rw [ef0, firstBad_none (fun y hy => ?_)]
              · rfl
              · obtain ⟨k, hk', e⟩ := List.mem_iff_getElem.mp hy
                exact hk k y (by omega) (by rw [List.getElem?_eq_getElem hk', e])
end
end K69

/-! ## KW -/
namespace K69
open PySem PySem.Spec PyProof.Rows L2
/-- the list at a holds the numbers ns -/
abbrev LsI (H : Hp) (a : Addr) (ns : List Int) : Prop := H a = some (.lst (ns.map V.int))
/-- rs: the rows' places -/
def RowsAt (H : Hp) (rs : List V) (tb : List (List Int)) : Prop := rs.length = tb.length ∧ ∀ i, i < tb.length → ∃ a, rs[i]? = some (.ref a) ∧ LsI H a (tb.getD i [])
theorem RowsAt.same {H H' : Hp} {rs : List V} {tb : List (List Int)} (s : Same H H') (h : RowsAt H rs tb) : RowsAt H' rs tb :=
  ⟨h.1, fun i hi => let ⟨a, e, l⟩ := h.2 i hi; ⟨a, e, s _ _ l⟩⟩
def optV : Option Nat → V
  | none => .non
  | some r => .int (r : Nat)
theorem get_int {ns : List Int} {i : Nat} (h : i < ns.length) : (ns.map V.int)[i]? = some (.int (ns.getD i 0)) := by
  rw [List.getElem?_map, List.getD_eq_getElem?_getD, List.getElem?_eq_getElem h]; rfl
theorem at_int {ns : List Int} {i : Nat} (h : i < ns.length) : atI (ns.map V.int) (i : Nat) = some (.int (ns.getD i 0)) := atI_nat (get_int h)
section
variable {P : Program} {w : World} {K : PySem.W.Frag} {mg : Str → Option Value} {base : Heap}
/-! ### first_above -/
abbrev sAbv : Stmt := topS 16
theorem scAbv : FnScope ["goal", "column", "number"] ["goal"] (defScope sAbv) := ⟨rfl, rfl, rfl, by decide +kernel, rfl, by decide +kernel, by decide +kernel⟩
def spAbv : Sp := fun vs H Q _ => ∃ (a : Addr) (g : List Int), vs = [.ref a] ∧ LsI H a g ∧ ∀ H', Same H H' → Q (optV (aboveM g)) H'
theorem ok_abv {f : Addr} {fd : FuncData} {k : Nat} (F : Fun K "first_above" "first_above" sAbv f fd) (T : Tx K mg) : FnOk P w K mg base CX0 (k + 1) f fd ["goal"] spAbv := by
  refine F.ok scAbv (fun vs H Q E h => ?_) (fun cdv A outer s H vs Q E hr h => ?_)
  · obtain ⟨a, g, rfl, _⟩ := h
    rfl
  · obtain ⟨a, g, rfl, ha, q⟩ := h
    refine ⟨_, pss_cons (ps_for PassesOwn.never rfl (pi_enumA (by rfl) T.enumerate (pa_cons (pv 0) pa_nil)) (pg_tup rfl (pgs_cons (pg_name (i := 1) scAbv.nd rfl (.inl rfl)) (pgs_cons (pg_name (i := 2) scAbv.nd rfl (.inl rfl)) pgs_nil)))
        (pss_one (ps_if (pt_cmpR op_gt (pv 2) pe_int (nomark _)) (pss_one (ps_ret (pv 1))) pss_nil)))
      (pss_one (ps_ret pe_non)), ?_⟩
    refine ⟨.ref a, rfl, a, g.map V.int, rfl, .inl ⟨SqL.of ha, for_enumA (K := K) (a := a) (xs := g.map V.int) (.inl ⟨rfl, fun H' s => SqL.of (s _ _ ha)⟩)
      (fun i σ H' => ∃ y1 y2, σ = [some (.ref a), y1, y2] ∧ Same H H' ∧ ∀ (j : Nat) x, j < i → g[j]? = some x → ¬ x > 0) ⟨none, none, rfl, Same.refl _, fun j x h => by omega⟩ (fun i σ' H' p => let ⟨_, _, _, s, _⟩ := p; s) ?_ ?_⟩⟩
    · intro i z Tp σ H' hz p hT
      obtain ⟨y1, y2, rfl, s, hk⟩ := p
      rw [List.getElem?_map] at hz
      obtain ⟨x, hx, rfl⟩ := Option.map_eq_some_iff.mp hz
      have s2 := same_upd (o := .tup [.int (i : Nat), .int x]) hT
      refine ⟨Tp, _, rfl, SqT.of upd_same, rfl, .int (i : Nat), _, rfl, .int x, _, rfl, rfl, ?_⟩
      refine ⟨.int x, rfl, x, 0, rfl, rfl, _, rfl, ?_⟩
      by_cases c : x > 0
      · rw [decide_eq_true c]
        refine iteT ⟨.int (i : Nat), rfl, ?_⟩
        have e : aboveM g = some i := by
          unfold aboveM
          rw [List.findIdx?_eq_some_iff_getElem]
          obtain ⟨hi, e⟩ := List.getElem?_eq_some_iff.mp hx
          refine ⟨hi, by rw [e]; exact decide_eq_true c, fun j hj => ?_⟩
          have := hk j g[j] hj (List.getElem?_eq_getElem (by omega))
          simpa using this
        rw [e] at q
        exact q _ (s.trans s2)
      · rw [decide_eq_false c]
        refine iteF ⟨_, _, rfl, s.trans s2, fun j y hj hy => ?_⟩
        by_cases e : j = i
        · subst e
          rw [hx] at hy
          rw [← Option.some.inj hy]
          exact c
        · exact hk j y (by omega) hy
    · intro σ H' p
      obtain ⟨y1, y2, rfl, s, hk⟩ := p
      have e : aboveM g = none := by
        unfold aboveM
        rw [List.findIdx?_eq_none_iff]
        intro x hx
        obtain ⟨j, hj, e⟩ := List.mem_iff_getElem.mp hx
        have := hk j x (by simpa using hj) (by rw [List.getElem?_eq_getElem hj, e])
        simpa using this
      rw [e] at q
      exact q _ s
/-! ### leaving_row -/
abbrev sLv : Stmt := topS 17
theorem scLv : FnScope ["table", "basis", "column", "found", "at", "line"] ["table", "basis", "column"] (defScope sLv) := ⟨rfl, rfl, rfl, by decide +kernel, rfl, by decide +kernel, by decide +kernel⟩
def spLv : Sp := fun vs H Q _ => ∃ (a b : Addr) (rs : List V) (tb : List (List Int)) (bs : List Nat) (col : Nat), vs = [.ref a, .ref b, .int (col : Nat)] ∧ H a = some (.lst rs) ∧ RowsAt H rs tb ∧ LsI H b (bs.map fun (x : Nat) => (x : Int)) ∧
  bs.length = tb.length ∧ (∀ i, i < tb.length → col < (tb.getD i []).length) ∧ ∀ H', Same H H' → Q (optV (leaveM tb bs col tb.length)) H'
theorem leave_lt {tb : List (List Int)} {bs : List Nat} {col n p : Nat} (h : leaveM tb bs col n = some p) : p < n := ((leave_spec n).2 p h).1
theorem nat_get {bs : List Nat} {i : Nat} (h : i < bs.length) : (bs.map fun (x : Nat) => (x : Int)).getD i 0 = ((bs.getD i 0 : Nat) : Int) := by
  rw [getD_map 0 h]
theorem ok_lv {f : Addr} {fd : FuncData} {k : Nat} (F : Fun K "leaving_row" "leaving_row" sLv f fd) (T : Tx K mg) : FnOk P w K mg base CX0 (k + 1) f fd ["table", "basis", "column"] spLv := by
  refine F.ok scLv (fun vs H Q E h => ?_) (fun cdv A outer s H vs Q E hr h => ?_)
  · obtain ⟨a, b, rs, tb, bs, col, rfl, _⟩ := h
    rfl
  · obtain ⟨a, b, rs, tb, bs, col, rfl, ha, hR, hb, hl, hc, q⟩ := h
    refine ⟨_, pss_cons (ps_set (i := 3) scLv.nd rfl (.inl rfl) pe_non)
      (pss_cons (ps_for PassesOwn.never rfl (pi_enumA (by rfl) T.enumerate (pa_cons (pv 0) pa_nil)) (pg_tup rfl (pgs_cons (pg_name (i := 4) scLv.nd rfl (.inl rfl)) (pgs_cons (pg_name (i := 5) scLv.nd rfl (.inl rfl)) pgs_nil)))
        (pss_one (ps_if (PW.pt (pw_and (pt_cmpR op_gt (pe_ix ix_list (pv 5) (pv 2) (fun _ _ => rfl)) pe_int (nomark _)) (pw_and1 (PW.pt (pw_or (pt_cmpR op_isN (pv 3) pe_non (nomark _)) (pw_or1 (pt_cmpR op_lt (pe_ix ix_list (pv 1) (pv 4) (fun _ _ => rfl)) (pe_ix ix_list (pv 1) (pv 3) (fun _ _ => rfl)) (nomark _))))))))
          (pss_one (ps_set (i := 3) scLv.nd rfl (.inl rfl) (pv 4))) pss_nil)))
      (pss_one (ps_ret (pv 3)))), ?_⟩
    refine ⟨.ref a, rfl, a, rs, rfl, .inl ⟨SqL.of ha, for_enumA (K := K) (a := a) (xs := rs) (.inl ⟨rfl, fun H' s => SqL.of (s _ _ ha)⟩)
      (fun i σ H' => ∃ y4 y5, σ = [some (.ref a), some (.ref b), some (.int (col : Nat)), some (optV (leaveM tb bs col i)), y4, y5] ∧ Same H H') ⟨none, none, rfl, Same.refl _⟩ (fun i σ' H' p => let ⟨_, _, _, s⟩ := p; s) ?_ ?_⟩⟩
    · intro i z Tp σ H' hz p hT
      obtain ⟨y4, y5, rfl, s⟩ := p
      have hi : i < tb.length := by
        have := (List.getElem?_eq_some_iff.mp hz).1
        rw [hR.1] at this
        exact this
      obtain ⟨ra, e1, e2⟩ := hR.2 i hi
      rw [hz] at e1
      cases e1
      have s2 := same_upd (o := .tup [.int (i : Nat), .ref ra]) hT
      have s3 := s.trans s2
      refine ⟨Tp, _, rfl, SqT.of upd_same, rfl, .int (i : Nat), _, rfl, .ref ra, _, rfl, rfl, ?_⟩
      refine ⟨.ref ra, rfl, .int (col : Nat), rfl, ra, _, (col : Nat), _, rfl, rfl, SqL.of (s3 _ _ e2), at_int (hc i hi), (tb.getD i []).getD col 0, 0, rfl, rfl, _, rfl, ?_⟩
      by_cases c : (tb.getD i []).getD col 0 > 0
      · rw [decide_eq_true c]
        refine iteT ⟨_, rfl, rfl, _, rfl, ?_⟩
        cases hf : leaveM tb bs col i with
        | none =>
          have e : leaveM tb bs col (i + 1) = some i := by
            show (if _ then _ else _) = _
            rw [if_pos ⟨c, fun k hk => by rw [hf] at hk; cases hk⟩]
          exact iteT (iteT ⟨.int (i : Nat), rfl, some (.int (i : Nat)), some (.ref ra), (by rw [e]; rfl), s3⟩)
        | some kk =>
          have hkk := leave_lt hf
          have e0 : decide (optV (some kk) = V.non) = false := decide_eq_false (fun z => by cases z)
          show if decide (optV (some kk) = V.non) = true then _ else _
          rw [e0]
          refine iteF ⟨.ref b, rfl, .int (i : Nat), rfl, b, _, (i : Nat), _, rfl, rfl, SqL.of (s3 _ _ hb), at_int (by simp [hl, hi]), .ref b, rfl, .int (kk : Nat), rfl, b, _, (kk : Nat), _, rfl, rfl, SqL.of (s3 _ _ hb), at_int (by simp [hl]; omega), _, _, rfl, rfl, _, rfl, ?_⟩
          rw [nat_get (by omega), nat_get (by omega)]
          by_cases c2 : bs.getD i 0 < bs.getD kk 0
          · have e : leaveM tb bs col (i + 1) = some i := by
              show (if _ then _ else _) = _
              rw [if_pos ⟨c, fun k hk => by rw [hf] at hk; cases hk; exact c2⟩]
            rw [decide_eq_true (show ((bs.getD i 0 : Nat) : Int) < ((bs.getD kk 0 : Nat) : Int) by omega)]
            exact iteT ⟨.int (i : Nat), rfl, some (.int (i : Nat)), some (.ref ra), (by rw [e]; rfl), s3⟩
          · have e : leaveM tb bs col (i + 1) = some kk := by
              show (if _ then _ else _) = _
              rw [if_neg (fun z => c2 (z.2 kk hf)), hf]
            rw [decide_eq_false (show ¬ ((bs.getD i 0 : Nat) : Int) < ((bs.getD kk 0 : Nat) : Int) by omega)]
            exact iteF ⟨some (.int (i : Nat)), some (.ref ra), (by rw [e]; rfl), s3⟩
      · rw [decide_eq_false c]
        have e : leaveM tb bs col (i + 1) = leaveM tb bs col i := by
          show (if _ then _ else _) = _
          rw [if_neg (fun z => c z.1)]
        exact iteF (iteF ⟨some (.int (i : Nat)), some (.ref ra), (by rw [e]; rfl), s3⟩)
    · intro σ H' p
      obtain ⟨y4, y5, rfl, s⟩ := p
      rw [hR.1]
      exact ⟨_, rfl, q _ s⟩
end
end K69

/-! ## KW2 -/
namespace K69
open PySem PySem.Spec PyProof.Rows L2
/-- small enough -/
abbrev Sm (x : Int) : Prop := x.natAbs < 2 ^ 300
section
variable {P : Program} {w : World} {K : PySem.W.Frag} {mg : Str → Option Value} {base : Heap}
/-! ### reduced -/
abbrev sRed : Stmt := topS 18
abbrev nRed : List Str := ["line", "pivot_line", "column", "scale", "pivot", "factor", "number", "other"]
theorem scRed : FnScope nRed ["line", "pivot_line", "column", "scale"] (defScope sRed) := ⟨rfl, rfl, rfl, by decide +kernel, rfl, by decide +kernel, by decide +kernel⟩
def spRed : Sp := fun vs H Q _ => ∃ (l p : Addr) (line pl : List Int) (col : Nat) (sc : Int), vs = [.ref l, .ref p, .int (col : Nat), .int sc] ∧ LsI H l line ∧ LsI H p pl ∧ line.length = pl.length ∧ col < pl.length ∧ pl.length ≤ 1000 ∧
  (∀ i, i < pl.length → Sm (line.getD i 0)) ∧ (∀ i, i < pl.length → Sm (pl.getD i 0)) ∧ 0 < sc ∧ Sm sc ∧ ∀ H' r, Same H H' → H r = none → LsI H' r (reducedM line pl col sc) → Q (.ref r) H'
theorem ok_red {f : Addr} {fd : FuncData} {k : Nat} (F : Fun K "reduced" "reduced" sRed f fd) (T : Tx K mg) : FnOk P w K mg base CX0 (k + 1) f fd ["line", "pivot_line", "column", "scale"] spRed := by
  refine F.ok scRed (fun vs H Q E h => ?_) (fun cdv A outer s H vs Q E hr h => ?_)
  · obtain ⟨l, p, line, pl, col, sc, rfl, _⟩ := h
    rfl
  · obtain ⟨l, p, line, pl, col, sc, rfl, hl, hp, hlen, hc, hz, b1, b2, s0, b3, q⟩ := h
    refine ⟨_, pss_cons (ps_set (i := 4) scRed.nd rfl (.inr rfl) (pe_ix ix_list (pv 1) (pv 2) (fun _ _ => rfl)))
      (pss_cons (ps_set (i := 5) scRed.nd rfl (.inr rfl) (pe_ix ix_list (pv 0) (pv 2) (fun _ _ => rfl)))
      (pss_one (ps_ret (pe_lc (own := [("number", 6), ("other", 7)]) (g := gTup K 2 (gCons (gName 6) (gCons (gName 7) gNil))) (tt := tYes) rfl scRed.nd (pi_zip (by rfl) T.zip (pa_cons (pv 0) (pa_cons (pv 1) pa_nil))) (blkOk_by (N := nRed) (sc := defScope sRed) (by decide +kernel))
        (fun _ _ _ _ _ => pg_tup rfl (pgs_cons (pg_name (i := 6) scRed.nd rfl (.inl rfl) (.inr rfl)) (pgs_cons (pg_name (i := 7) scRed.nd rfl (.inl rfl) (.inr rfl)) pgs_nil))) (fun _ _ _ _ _ => pts_nil)
        (fun _ _ _ _ _ => pe_op op_fdivW (pe_op op_sub (pe_op op_mulW (pv 6) (pv 4)) (pe_op op_mulW (pv 5) (pv 7))) (pv 3)))))), ?_⟩
    refine ⟨.ref p, rfl, .int (col : Nat), rfl, p, _, (col : Nat), _, rfl, rfl, SqL.of hp, at_int hc, ?_⟩
    refine ⟨.ref l, rfl, .int (col : Nat), rfl, l, _, (col : Nat), _, rfl, rfl, SqL.of hl, at_int (by omega), ?_⟩
    refine ⟨.ref l, rfl, .ref p, rfl, l, p, _, _, rfl, SqL.of hl, SqL.of hp, fun D hD => ?_⟩
    have hx : ∀ H', Same H H' → SqL K H' l (line.map V.int) := fun H' s => SqL.of (s _ _ hl)
    have hy : ∀ H', Same H H' → SqL K H' p (pl.map V.int) := fun H' s => SqL.of (s _ _ hp)
    refine lcV (n := pl.length) ((reducedM line pl col sc).map V.int) hD (by simp [reducedM, hlen]) hz (fun i H' hi s => itz_go hx hy i H' (by simpa [hlen] using hi) (by simpa using hi) s) (fun H' s => ⟨_, _, hx _ s, hy _ s, .inr (by simp)⟩)
      (fun i v H' H2 hi s y => ?_) (fun H' s e => q H' D s hD e)
    obtain ⟨Tp, x, z, rfl, hT, rfl, ex, ez⟩ := itz_yld hx hy s y
    have ix : x = .int (line.getD i 0) := by
      rw [get_int (show i < line.length by omega)] at ex
      exact (Option.some.inj ex).symm
    have iz : z = .int (pl.getD i 0) := by
      rw [get_int hi] at ez
      exact (Option.some.inj ez).symm
    subst ix iz
    refine ⟨same_upd hT, fun A hA => ?_⟩
    have m1 := b1 i hi
    have m2 := b2 col hc
    have m3 := b1 col hc
    have m4 := b2 i hi
    refine ⟨Tp, _, rfl, SqT.of upd_same, rfl, _, _, rfl, _, _, rfl, rfl, rfl, ?_⟩
    refine ⟨_, rfl, _, rfl, _, _, rfl, rfl, wide_mul (a := 300) (b := 300) m1 m2 (by decide) (by decide) (by decide), _, rfl, _, rfl, _, _, rfl, rfl, wide_mul (a := 300) (b := 300) m3 m4 (by decide) (by decide) (by decide), _, _, rfl, rfl, _, rfl, _, _, rfl, rfl, wide_div (b := 300) s0 b3 (by decide) (by decide), ?_⟩
    refine hA _ _ (Same.refl _) ?_
    rw [get_int (by simp [reducedM]; omega)]
    unfold reducedM
    rw [zipWith_getD (by omega) (by omega)]
/-! ### ray -/
abbrev sRay : Stmt := topS 19
abbrev nRay : List Str := ["table", "basis", "column", "scale", "many", "numbers", "at", "held"]
theorem scRay : FnScope nRay ["table", "basis", "column", "scale", "many"] (defScope sRay) := ⟨rfl, rfl, rfl, by decide +kernel, rfl, by decide +kernel, by decide +kernel⟩
def spRay : Sp := fun vs H Q _ => ∃ (a b : Addr) (rs : List V) (tb : List (List Int)) (bs : List Nat) (col : Nat) (sc : Int) (m : Nat), vs = [.ref a, .ref b, .int (col : Nat), .int sc, .int (m : Nat)] ∧ H a = some (.lst rs) ∧ RowsAt H rs tb ∧ LsI H b (bs.map fun (x : Nat) => (x : Int)) ∧
  bs.length = tb.length ∧ m + tb.length ≤ 1000 ∧ (∀ i, i < tb.length → (tb.getD i []).length = m + tb.length) ∧ col < m + tb.length ∧ (∀ i, i < tb.length → bs.getD i 0 < m + tb.length) ∧ ∀ H' r, Same H H' → H r = none → H' r = some (.tup ((rayM tb bs col sc m).map V.int)) → Q (.ref r) H'
theorem ixN_nat {n i : Nat} (h : i < n) : ixN n ((i : Nat) : Int) = some i := by
  unfold ixN
  rw [if_pos (by omega), if_pos (by omega)]
  simp
theorem set_int {ns : List Int} {i : Nat} {x : Int} : (ns.map V.int).set i (.int x) = (ns.set i x).map V.int := by
  rw [List.map_set]
theorem rep_flat {α : Type} (x : α) (n : Nat) : (List.replicate n [x]).flatten = List.replicate n x := by
  induction n with
  | zero => rfl
  | succ n ih => rw [List.replicate_succ, List.flatten_cons, ih]; rfl
theorem cut_to (xs : List V) (m : Nat) (h : m ≤ xs.length) : cutV xs none (some ((m : Nat) : Int)) = xs.take m := by
  unfold cutV
  rw [HT.sIx_none, show HT.sIx xs.length xs.length (some ((m : Nat) : Int)) = min m xs.length from HT.sIx_nat _ _ m, Nat.min_eq_left h]
  simp
theorem cut_from (xs : List V) (m : Nat) (h : m ≤ xs.length) : cutV xs (some ((m : Nat) : Int)) none = xs.drop m := by
  unfold cutV
  rw [HT.sIx_none, show HT.sIx xs.length 0 (some ((m : Nat) : Int)) = min m xs.length from HT.sIx_nat _ _ m, Nat.min_eq_left h]
  rw [← List.length_drop]
  exact List.take_length
theorem ok_ray {f : Addr} {fd : FuncData} {k : Nat} (F : Fun K "ray" "ray" sRay f fd) (T : Tx K mg) : FnOk P w K mg base CX0 (k + 1) f fd ["table", "basis", "column", "scale", "many"] spRay := by
  refine F.ok scRay (fun vs H Q E h => ?_) (fun cdv A outer s H vs Q E hr h => ?_)
  · obtain ⟨a, b, rs, tb, bs, col, sc, m, rfl, _⟩ := h
    rfl
  · obtain ⟨a, b, rs, tb, bs, col, sc, m, rfl, ha, hR, hb, hl, hz, hrow, hc, hbs, q⟩ := h
    refine ⟨_, pss_cons (ps_set (i := 5) scRay.nd rfl (.inl rfl) (pe_op op_rep (pe_lst (pa_cons pe_int pa_nil)) (pe_op op_add (pv 4) (pe_len T (pv 0)))))
      (pss_cons (ps_asg (pv 3) (pg_sub (pv 5) (pv 2) set_list))
      (pss_cons (ps_for PassesOwn.never rfl (pi_enumA (by rfl) T.enumerate (pa_cons (pv 1) pa_nil)) (pg_tup rfl (pgs_cons (pg_name (i := 6) scRay.nd rfl (.inl rfl)) (pgs_cons (pg_name (i := 7) scRay.nd rfl (.inl rfl)) pgs_nil)))
        (pss_one (ps_asg (pe_un un_neg (pe_ix ix_list (pe_ix ix_list (pv 0) (pv 6) (fun _ _ => rfl)) (pv 2) (fun _ _ => rfl))) (pg_sub (pv 5) (pv 7) set_list))))
      (pss_one (ps_ret (pe_tupO T (pe_slice sl_list (pv 5) po_none (po_some (pv 4)))))))), ?_⟩
    refine ⟨(by show 1 ≤ sizeLine; decide), fun l0 hl0 => ?_⟩
    have s0 := same_upd (o := .lst [V.int 0]) hl0
    refine ⟨.int (m : Nat), rfl, .ref a, rfl, a, rs, rfl, .inl (SqL.of (s0 _ _ ha)), _, _, rfl, rfl, ?_⟩
    refine ⟨l0, ((m : Nat) : Int) + ((rs.length : Nat) : Int), [V.int 0], rfl, rfl, upd_same, by omega, by have := hR.1; omega, ?_, fun o ho => ?_⟩
    · rw [hR.1]
      have e : (((m : Nat) : Int) + ((tb.length : Nat) : Int)).toNat = m + tb.length := by omega
      rw [e]
      show 1 * (m + tb.length) ≤ sizeLine
      exact Nat.le_of_lt (small1000 (by omega))
    have e0 : (List.replicate (((m : Nat) : Int) + ((rs.length : Nat) : Int)).toNat [V.int 0]).flatten = (List.replicate (m + tb.length) (0 : Int)).map V.int := by
      have e : (((m : Nat) : Int) + ((rs.length : Nat) : Int)).toNat = m + tb.length := by rw [hR.1]; omega
      rw [e, rep_flat, List.map_replicate]
    rw [e0]
    have s1 := same_upd (o := .lst ((List.replicate (m + tb.length) (0 : Int)).map V.int)) ho
    have s2 := s0.trans s1
    have ho0 : H o = none := s0.free ho
    refine ⟨.int sc, rfl, .ref o, rfl, .int (col : Nat), rfl, o, _, (col : Nat), col, rfl, rfl, upd_same, ixN_nat (by simpa using hc), ?_⟩
    rw [upd_upd, set_int]
    have sO : ∀ (x : HO) (G : Hp), Same H (upd (upd H l0 (.lst [V.int 0])) o x) := fun x _ b' u e => by
      rw [upd_ne (ne_of_none e ho0)]
      exact s0 _ _ e
    generalize hbase : (List.replicate (m + tb.length) (0 : Int)).set col sc = base0
    have lbase : base0.length = m + tb.length := by rw [← hbase]; simp
    have hb2 : ∀ H', Same H H' → SqL K H' b ((bs.map fun (x : Nat) => (x : Int)).map V.int) := fun H' s => SqL.of (s _ _ hb)
    have sst := sO (.lst (base0.map V.int)) H
    refine ⟨.ref b, rfl, b, _, rfl, .inl ⟨hb2 _ sst, for_enumB (K := K) (a := b) (xs := (bs.map fun (x : Nat) => (x : Int)).map V.int)
      (fun i σ H' => ∃ y6 y7, σ = [some (.ref a), some (.ref b), some (.int (col : Nat)), some (.int sc), some (.int (m : Nat)), some (.ref o), y6, y7] ∧ Same H H' ∧ LsI H' o (rayLoop tb bs col base0 i)) ⟨none, none, rfl, sst, upd_same⟩ (fun i σ' H' p => let ⟨_, _, _, s, _⟩ := p; hb2 _ s) ?_ ?_⟩⟩
    · intro i z Tp σ H' hzi p hT
      obtain ⟨y6, y7, rfl, s, ho'⟩ := p
      have hi : i < bs.length := by
        have := (List.getElem?_eq_some_iff.mp hzi).1
        simpa using this
      rw [get_int (by simpa using hi), nat_get hi] at hzi
      have ez := Option.some.inj hzi
      subst ez
      have s3 := same_upd (o := .tup [.int (i : Nat), .int ((bs.getD i 0 : Nat) : Int)]) hT
      have s4 := s.trans s3
      obtain ⟨ra, e1, e2⟩ := hR.2 i (by omega)
      refine ⟨Tp, _, rfl, SqT.of upd_same, rfl, .int (i : Nat), _, rfl, .int ((bs.getD i 0 : Nat) : Int), _, rfl, rfl, ?_⟩
      refine ⟨.ref a, rfl, .int (i : Nat), rfl, a, rs, (i : Nat), .ref ra, rfl, rfl, SqL.of (s4 _ _ ha), atI_nat e1, .int (col : Nat), rfl, ra, _, (col : Nat), _, rfl, rfl, SqL.of (s4 _ _ e2), at_int (by rw [hrow i (by omega)]; exact hc), _, rfl, ?_⟩
      have lr : (rayLoop tb bs col base0 i).length = m + tb.length := by rw [ray_len]; exact lbase
      refine ⟨.ref o, rfl, _, rfl, o, _, _, bs.getD i 0, rfl, rfl, s3 _ _ ho', ixN_nat (by simp [lr]; exact hbs i (by omega)), ?_⟩
      rw [set_int]
      exact ⟨_, _, rfl, fun c u e => by rw [upd_ne (ne_of_none e ho0)]; exact s4 _ _ e, upd_same⟩
    · intro σ H' p
      obtain ⟨y6, y7, rfl, s, ho'⟩ := p
      have lr : (rayLoop tb bs col base0 bs.length).length = m + tb.length := by rw [ray_len]; exact lbase
      have el : ((bs.map fun (x : Nat) => (x : Int)).map V.int).length = bs.length := by simp
      rw [el] at ho'
      refine ⟨.ref o, rfl, .int (m : Nat), rfl, (m : Nat), rfl, o, _, rfl, SqL.of ho', fun c hc' => ?_⟩
      rw [cut_to _ m (by simp [lr])]
      have s5 := s.trans (same_upd (o := .lst (((rayLoop tb bs col base0 bs.length).map V.int).take m)) hc')
      refine ⟨c, _, rfl, .inl ⟨SqL.of upd_same, fun r hr' => ?_⟩⟩
      refine q _ r (s5.trans (same_upd hr')) (s5.free hr') ?_
      rw [upd_same, ← List.map_take]
      unfold rayM
      rw [hbase]
end
end K69

/-! ## KW3 -/
namespace K69
open PySem PySem.Spec PyProof.Rows L2
/-- xs: the vectors' places -/
def VecsAt (H : Hp) (xs : List V) (vs : List (List Int)) : Prop := xs.length = vs.length ∧ ∀ i, i < vs.length → ∃ a, xs[i]? = some (.ref a) ∧ H a = some (.tup ((vs.getD i []).map V.int))
theorem VecsAt.same {H H' : Hp} {rs : List V} {tb : List (List Int)} (s : Same H H') (h : VecsAt H rs tb) : VecsAt H' rs tb :=
  ⟨h.1, fun i hi => let ⟨a, e, l⟩ := h.2 i hi; ⟨a, e, s _ _ l⟩⟩
/-- the list or tuple of them -/
def SeqAt (H : Hp) (a : Addr) (xs : List V) : Prop := H a = some (.lst xs) ∨ H a = some (.tup xs)
theorem SeqAt.same {H H' : Hp} {a : Addr} {xs : List V} (s : Same H H') (h : SeqAt H a xs) : SeqAt H' a xs := h.imp (s _ _) (s _ _)
def rowM (vs : List (List Int)) (w : Nat) (j : Nat) : List Int := vs.map (fun v => v.getD j 0) ++ (List.replicate w 0).set j 1
theorem table_row {vs : List (List Int)} {w j : Nat} (h : j < w) : (tableM vs w).getD j [] = rowM vs w j := by
  unfold tableM rowM
  simp [List.getD_eq_getElem?_getD, List.getElem?_range h]
section
variable {P : Program} {w : World} {K : PySem.W.Frag} {mg : Str → Option Value} {base : Heap}
/-! ### first_tableau -/
abbrev sTab : Stmt := topS 15
abbrev nTab : List Str := ["vectors", "width", "table", "at", "slacks", "vector"]
theorem scTab : FnScope nTab ["vectors", "width"] (defScope sTab) := ⟨rfl, rfl, rfl, by decide +kernel, rfl, by decide +kernel, by decide +kernel⟩
def spTab : Sp := fun vs H Q _ => ∃ (a : Addr) (xs : List V) (vc : List (List Int)) (wd : Nat), vs = [.ref a, .int (wd : Nat)] ∧ SeqAt H a xs ∧ VecsAt H xs vc ∧ (∀ v ∈ vc, v.length = wd) ∧ wd ≤ 100 ∧ vc.length ≤ 100 ∧
  ∀ H' r rs, Same H H' → H r = none → H' r = some (.lst rs) → RowsAt H' rs (tableM vc wd) → Q (.ref r) H'
theorem ok_tab {f : Addr} {fd : FuncData} {k : Nat} (F : Fun K "first_tableau" "first_tableau" sTab f fd) (T : Tx K mg) : FnOk P w K mg base CX0 (k + 1) f fd ["vectors", "width"] spTab := by
  refine F.ok scTab (fun vs H Q E h => ?_) (fun cdv A outer s H vs Q E hr h => ?_)
  · obtain ⟨a, xs, vc, wd, rfl, _⟩ := h
    rfl
  · obtain ⟨a, xs, vc, wd, rfl, ha, hV, hlen, hw, hm, q⟩ := h
    refine ⟨_, pss_cons (ps_set (i := 2) scTab.nd rfl (.inl rfl) (pe_lst pa_nil))
      (pss_cons (ps_for PassesOwn.never rfl (pi_range1 (by rfl) T.range (pa_cons (pv 1) pa_nil)) (pg_name (i := 3) scTab.nd rfl (.inr rfl))
        (pss_cons (ps_set (i := 4) scTab.nd rfl (.inl rfl) (pe_op op_rep (pe_lst (pa_cons pe_int pa_nil)) (pv 1)))
        (pss_cons (ps_asg pe_int (pg_sub (pv 4) (pv 3) set_list))
        (pss_one (ps_expr (pe_bm PySem.F.plainAttrs_list PySem.F.slot_list_append PySem.F.type_list_append mt_append (pv 2) (pa_cons (pe_op op_cat
          (pe_lc (own := [("vector", 5)]) (g := gName 5) (tt := tYes) rfl scTab.nd (pi_seq (pv 0)) (blkOk_by (N := nTab) (sc := defScope sTab) (by decide +kernel)) (fun _ _ _ _ _ => pg_name (i := 5) scTab.nd rfl (Or.inl rfl)) (fun _ _ _ _ _ => pts_nil)
            (fun _ _ _ _ _ => pe_ix (show IxR _ (rIxT K) from ix_tup) (pv 5) (pv 3) (fun _ _ => rfl))) (pv 4)) pa_nil)))))))
      (pss_one (ps_ret (pv 2)))), ?_⟩
    refine ⟨Nat.zero_le _, fun t ht => ?_⟩
    refine ⟨.int (wd : Nat), rfl, (wd : Nat), rfl, by omega, by omega, for_range (n := wd)
      (fun i σ H' => ∃ y3 y4 y5 rs, σ = [some (.ref a), some (.int (wd : Nat)), some (.ref t), y3, y4, y5] ∧ Same H H' ∧ H' t = some (.lst rs) ∧ rs.length = i ∧ ∀ j, j < i → ∃ r, rs[j]? = some (.ref r) ∧ r ≠ t ∧ LsI H' r (rowM vc wd j))
      ⟨none, none, none, [], rfl, same_upd ht, upd_same, rfl, fun j h => by omega⟩ ?_ ?_⟩
    · intro i σ H1 hi p
      obtain ⟨y3, y4, y5, rs, rfl, s, et, el, hrs⟩ := p
      refine ⟨(by show 1 ≤ sizeLine; decide), fun l0 hl0 => ?_⟩
      have s0 := same_upd (o := .lst [V.int 0]) hl0
      refine ⟨.int (wd : Nat), rfl, l0, (wd : Nat), [V.int 0], rfl, rfl, upd_same, by omega, by omega, ?_, fun o ho => ?_⟩
      · show 1 * ((wd : Nat) : Int).toNat ≤ sizeLine
        exact Nat.le_of_lt (small1000 (by omega))
      have e0 : (List.replicate ((wd : Nat) : Int).toNat [V.int 0]).flatten = (List.replicate wd (0 : Int)).map V.int := by
        rw [Int.toNat_natCast, rep_flat, List.map_replicate]
      rw [e0]
      refine ⟨.ref o, rfl, .int (0 + (i : Nat)), rfl, o, _, _, i, rfl, rfl, upd_same, by rw [Int.zero_add]; exact ixN_nat (by simpa using hi), ?_⟩
      rw [upd_upd, set_int]
      have ho1 : H1 o = none := s0.free ho
      have s2 : Same H1 (upd (upd H1 l0 (.lst [V.int 0])) o (.lst (((List.replicate wd (0 : Int)).set i 1).map V.int))) := fun c u e => by
        rw [upd_ne (ne_of_none e ho1)]
        exact s0 _ _ e
      generalize hH2 : upd (upd H1 l0 (.lst [V.int 0])) o (.lst (((List.replicate wd (0 : Int)).set i 1).map V.int)) = H2 at *
      have eo : LsI H2 o ((List.replicate wd (0 : Int)).set i 1) := by rw [← hH2]; exact upd_same
      have sH2 := s.trans s2
      refine ⟨.ref t, rfl, .inl ⟨rfl, _, SqL.of (s2 _ _ et)⟩, ?_⟩
      have hA2 := ha.same sH2
      refine ⟨.ref a, rfl, a, rfl, ?_⟩
      have e5 : ∀ j, j < vc.length → ((vc.map fun v => v.getD i 0).map V.int)[j]? = some (.int ((vc.getD j []).getD i 0)) := fun j hj => by
        rw [get_int (by simpa using hj), getD_map [] hj]
      rcases hA2 with e | e
      all_goals
        first
          | refine .inl ⟨⟨_, SqL.of e⟩, fun D hD => lcV (n := vc.length) ((vc.map fun v => v.getD i 0).map V.int) hD (by simp) (by omega) (fun j H' hj s' => ⟨xs, xs[j]'(by rw [hV.1]; exact hj), SqL.of (s' _ _ e), List.getElem?_eq_getElem _⟩) (fun H' s' => ⟨xs, SqL.of (s' _ _ e), by rw [hV.1]; exact Nat.le_refl _⟩) (fun j v H' H3 hj s' y => ?_) (fun H' s' eD => ?_)⟩
          | refine .inr ⟨⟨_, SqT.of e⟩, fun D hD => lcV (n := vc.length) ((vc.map fun v => v.getD i 0).map V.int) hD (by simp) (by omega) (fun j H' hj s' => ⟨xs, xs[j]'(by rw [hV.1]; exact hj), SqT.of (s' _ _ e), List.getElem?_eq_getElem _⟩) (fun H' s' => ⟨xs, SqT.of (s' _ _ e), by rw [hV.1]; exact Nat.le_refl _⟩) (fun j v H' H3 hj s' y => ?_) (fun H' s' eD => ?_)⟩
        · obtain ⟨rfl, y⟩ := y
          have hx : xs[j]? = some v := by
            first
              | exact y xs (SqL.of (s' _ _ e))
              | exact y xs (SqT.of (s' _ _ e))
          obtain ⟨c, c1, c2⟩ := hV.2 j hj
          rw [hx] at c1
          cases c1
          have hi2 : i < (vc.getD j []).length := by rw [hlen _ (getD_mem' [] hj)]; exact hi
          refine ⟨Same.refl _, fun A hA => ⟨rfl, _, rfl, .int (0 + (i : Nat)), rfl, c, _, 0 + (i : Nat), _, rfl, rfl, SqT.of (s' _ _ (sH2 _ _ c2)), ?_, hA _ _ (Same.refl _) (e5 j hj)⟩⟩
          rw [Int.zero_add]
          exact at_int hi2
        · have eo' := s' _ _ eo
          refine ⟨.ref o, rfl, D, o, _, _, rfl, rfl, eD, eo', ?_, fun r hr' => ?_⟩
          · simp only [List.length_map, List.length_set, List.length_replicate]
            exact Nat.le_of_lt (small1000 (by omega))
          have s5 := same_upd (o := .lst ((vc.map fun v => v.getD i 0).map V.int ++ ((List.replicate wd (0 : Int)).set i 1).map V.int)) hr'
          have et5 := s5 _ _ (s' _ _ (s2 _ _ et))
          have rt : r ≠ t := (ne_of_none (s' _ _ (s2 _ _ et)) hr').symm
          refine ⟨t, rs, .ref r, rfl, rfl, et5, small1000 (by omega), ?_⟩
          have s6 := (sH2.trans s').trans s5
          refine ⟨_, _, _, rs ++ [.ref r], rfl, fun c u ec => ?_, upd_same, by simp [el], fun j hj => ?_⟩
          · rw [upd_ne (ne_of_none ec ht)]
            exact s6 _ _ ec
          · by_cases ej : j < i
            · obtain ⟨r', f1, f2, f3⟩ := hrs j ej
              refine ⟨r', by rw [List.getElem?_append_left (by omega)]; exact f1, f2, ?_⟩
              show (upd _ t _) r' = _
              rw [upd_ne f2]
              exact s5 _ _ (s' _ _ (s2 _ _ f3))
            · have ej2 : j = i := by omega
              subst ej2
              refine ⟨r, by rw [List.getElem?_append_right (by omega), el]; simp, rt, ?_⟩
              show (upd _ t _) r = _
              rw [upd_ne rt, upd_same]
              unfold rowM
              rw [List.map_append]
    · intro σ H1 p
      obtain ⟨y3, y4, y5, rs, rfl, s, et, el, hrs⟩ := p
      refine ⟨_, rfl, q H1 t rs s ht et ⟨by simp [tableM, el], fun j hj => ?_⟩⟩
      have hj' : j < wd := by simpa [tableM] using hj
      obtain ⟨r, e1, _, e2⟩ := hrs j hj'
      exact ⟨r, e1, by rw [table_row hj']; exact e2⟩
end
end K69

/-! ## KW4 -/
namespace K69
open PySem PySem.Spec PyProof.Rows L2
def BIG : Nat := 10000000000
theorem fact_small {w : Nat} (h : w ≤ 7) : (w + 1) * factB BIG w < 2 ^ 300 := by
  match w, h with
  | 0, _ => decide +kernel
  | 1, _ => decide +kernel
  | 2, _ => decide +kernel
  | 3, _ => decide +kernel
  | 4, _ => decide +kernel
  | 5, _ => decide +kernel
  | 6, _ => decide +kernel
  | 7, _ => decide +kernel
theorem colA_big {vs : List (List Int)} {w : Nat} (hv : ∀ v ∈ vs, v.length = w) (hb : ∀ v ∈ vs, ∀ x ∈ v, x.natAbs ≤ BIG) {j i : Nat} (hi : i < w) : (colA vs j i).natAbs ≤ BIG := by
  unfold colA
  split
  · rename_i hj
    have h1 := getD_mem' [] hj
    exact hb _ h1 _ (getD_mem' 0 (by rw [hv _ h1]; exact hi))
  · split <;> decide
structure Bnd (S : LS) (n w : Nat) : Prop where
  sc : Sm S.sc
  tb : ∀ i j, i < w → j < n → Sm ((S.tb.getD i []).getD j 0)
  gl : ∀ j, j < n → Sm (S.gl.getD j 0)
theorem good_bnd {vs : List (List Int)} {w : Nat} {S : LS} (G : Good vs w S) (hv : ∀ v ∈ vs, v.length = w) (hb : ∀ v ∈ vs, ∀ x ∈ v, x.natAbs ≤ BIG) (hw : w ≤ 7) : Bnd S (vs.length + w) w := by
  obtain ⟨h1, h2, h3⟩ := G.inv.bounds (M := BIG) fun j _ i hi => colA_big hv hb hi
  have f := fact_small hw
  have f2 : factB BIG w ≤ (w + 1) * factB BIG w := Nat.le_mul_of_pos_left _ (by omega)
  exact ⟨Nat.lt_of_le_of_lt h1 (by omega), fun i j hi hj => Nat.lt_of_le_of_lt (h2 i j hi hj) (by omega), fun j hj => Nat.lt_of_le_of_lt (h3 j hj) f⟩
def wordM (R : Bool × List Int) : Str := if R.1 = true then "weights" else "counterweight"
def spWeigh (c : ClsA) : Sp := fun vs H Q E => ∃ (B : Addr) (x y : V) (d e : PyData), vs = [x, y] ∧ At B H x d ∧ At B H y e ∧ (∀ f, faultD d e = some f → Out c B H E f) ∧
  (faultD d e = none → ∃ (vc : List (List Int)) (wd : Nat), itemsD d = some (vc.map dV) ∧ e = .int (wd : Nat) ∧ wd ≤ 7 ∧ vc.length ≤ 12 ∧ (∀ v ∈ vc, v.length = wd) ∧ (∀ v ∈ vc, ∀ x ∈ v, x.natAbs ≤ BIG) ∧
    ∀ H' t u, Same H H' → H t = none → H u = none → H' t = some (.tup [.str (wordM (weighM vc wd)), .ref u]) → H' u = some (.tup ((weighM vc wd).2.map V.int)) → Q (.ref t) H')
theorem step_row {S : LS} {p r i : Nat} (hi : i < S.tb.length) : (S.step p r).tb.getD i [] = if i = p then S.tb.getD p [] else reducedM (S.tb.getD i []) (S.tb.getD p []) r S.sc := by
  show (S.tb.mapIdx fun a line => if a = p then S.tb.getD p [] else reducedM line (S.tb.getD p []) r S.sc).getD i [] = _
  rw [List.getD_eq_getElem?_getD, List.getElem?_mapIdx, List.getElem?_eq_getElem hi, List.getD_eq_getElem?_getD (l := S.tb) (i := i), List.getElem?_eq_getElem hi]
  rfl
theorem vecs_of {B : Addr} {H : Hp} {xs : List V} {vc : List (List Int)} (h : AtAll B H xs (vc.map dV)) : VecsAt H xs vc := by
  refine ⟨by rw [h.len]; simp, fun i hi => ?_⟩
  obtain ⟨v, h1, h2⟩ := h.get (i := i) (d := dV (vc.getD i [])) (by rw [List.getElem?_map, List.getD_eq_getElem?_getD, List.getElem?_eq_getElem hi]; rfl)
  obtain ⟨a, e, _, ha⟩ := h2.vec
  rw [e] at h1
  exact ⟨a, h1, ha⟩
theorem seq_of {B : Addr} {H : Hp} {x : V} {d : PyData} {ds : List PyData} (h : At B H x d) (e : itemsD d = some ds) : ∃ a xs, x = .ref a ∧ a ≠ B ∧ SeqAt H a xs ∧ AtAll B H xs ds := by
  cases h with
  | lst n ha hs => cases e; exact ⟨_, _, rfl, n, .inl ha, hs⟩
  | tup n ha hs => cases e; exact ⟨_, _, rfl, n, .inr ha, hs⟩
  | _ => cases e
theorem run_one {m k : Nat} {S : LS} {R : Bool × List Int} (h : runM m k S = some R) : ∃ k', k = k' + 1 ∧ (aboveM S.gl = none → R = (true, (S.gl.drop m).map fun x => -x)) ∧
    ∀ r, aboveM S.gl = some r → (leaveM S.tb S.bs r S.tb.length = none → R = (false, rayM S.tb S.bs r S.sc m)) ∧ ∀ p, leaveM S.tb S.bs r S.tb.length = some p → runM m k' (S.step p r) = some R := by
  cases k with
  | zero => cases h
  | succ k =>
    refine ⟨k, rfl, fun e => ?_, fun r er => ⟨fun ep => ?_, fun p ep => ?_⟩⟩
    · unfold runM at h
      simp only [e] at h
      exact (Option.some.inj h).symm
    · unfold runM at h
      simp only [er, ep] at h
      exact (Option.some.inj h).symm
    · unfold runM at h
      simp only [er, ep] at h
      exact h
section
variable {P : Program} {w : World} {K : PySem.W.Frag} {mg : Str → Option Value} {base : Heap}
abbrev sWg : Stmt := topS 20
abbrev nWg : List Str := ["vectors", "width", "many", "table", "goal", "basis", "scale", "column", "leaving", "pivot_line", "at", "line", "number"]
theorem scWg : FnScope nWg ["vectors", "width"] (defScope sWg) := ⟨rfl, rfl, rfl, by decide +kernel, rfl, by decide +kernel, by decide +kernel⟩
structure WgD (P : Program) (w : World) (K : PySem.W.Frag) (mg : Str → Option Value) (base : Heap) (c : ClsA) : Prop where
  chk : ∃ f fd, FnOk P w K mg base (L2.CX P w) 3 f fd ["vectors", "width"] (spChk c) ∧ mg "check_vectors" = some (.ref f) ∧ PySem.W.keepIn K (.ref f) = true ∧ KBn K fd ["vectors", "width"] 1 ["width"] (fun us ws => us ++ ws) (fun vs zs => vs ++ zs)
  tab : Df P w K mg base 1 "first_tableau" ["vectors", "width"] spTab
  abv : Df P w K mg base 1 "first_above" ["goal"] spAbv
  lv : Df P w K mg base 1 "leaving_row" ["table", "basis", "column"] spLv
  red : Df P w K mg base 1 "reduced" ["line", "pivot_line", "column", "scale"] spRed
  ray : Df P w K mg base 1 "ray" ["table", "basis", "column", "scale", "many"] spRay
theorem ok_weigh {c : ClsA} {f : Addr} {fd : FuncData} (F : Fun K "weigh" "weigh" sWg f fd) (T : Tx K mg) (WD : WgD P w K mg base c) : FnOk P w K mg base (L2.CX P w) 4 f fd ["vectors", "width"] (spWeigh c) := by
  refine F.okX scWg (fun vs H Q E h => ?_) (fun cdv A outer s H vs Q E hr h => ?_)
  · obtain ⟨B, x, y, d, e, rfl, _⟩ := h
    rfl
  · obtain ⟨B, x, y, d, e, rfl, hx, hy, o, q⟩ := h
    obtain ⟨fC, fdC, GC, mC, kC, bC⟩ := WD.chk
    refine ⟨_, pss_cons (ps_expr (pe_callN GC hr (by rfl) mC kC bC (passes_call (takes_of rfl rfl rfl rfl) (fun _ _ _ _ h => h)) (pa_cons (pv 0) pa_nil) (pk_cons (pv 1) pk_nil)))
      (pss_cons (ps_set (i := 2) scWg.nd rfl (.inr rfl) (pe_len T (pv 0)))
      (pss_cons (ps_set (i := 3) scWg.nd rfl (.inl rfl) (pe_d WD.tab hr (by rfl) (pa_cons (pv 0) (pa_cons (pv 1) pa_nil))))
      (pss_cons (ps_set (i := 4) scWg.nd rfl (.inl rfl) (pe_op op_cat (pe_op op_rep (pe_lst (pa_cons pe_int pa_nil)) (pv 2)) (pe_op op_rep (pe_lst (pa_cons pe_int pa_nil)) (pv 1))))
      (pss_cons (ps_setLc (i := 5) (own := [("at", 10)]) (g := gName 10) (tt := tYes) rfl scWg.nd rfl rfl (sw_true rfl rfl rfl (by decide +kernel)) (pi_range1 (by rfl) T.range (pa_cons (pv 1) pa_nil)) (blkOk_by (N := nWg) (sc := defScope sWg) (by decide +kernel)) (fun _ _ _ _ _ => pg_name (i := 10) scWg.nd rfl (Or.inl rfl)) (fun _ _ _ _ _ => pts_nil)
        (fun _ _ _ _ _ => pe_op op_add (pv 2) (pv 10)))
      (pss_cons (ps_set (i := 6) scWg.nd rfl (.inr rfl) pe_int)
      (pss_cons (ps_set (i := 7) scWg.nd rfl (.inr rfl) (pe_d WD.abv hr (by rfl) (pa_cons (pv 4) pa_nil)))
      (pss_cons (ps_while (passes_of rfl) (pt_cmpR op_notN (pv 7) pe_non (nomark _))
        (pss_cons (ps_set (i := 8) scWg.nd rfl (.inr rfl) (pe_d WD.lv hr (by rfl) (pa_cons (pv 3) (pa_cons (pv 5) (pa_cons (pv 7) pa_nil)))))
        (pss_cons (ps_if (pt_cmpR op_isN (pv 8) pe_non (nomark _)) (pss_one (ps_ret (pe_tup (pa_cons pe_str (pa_cons (pe_d WD.ray hr (by rfl) (pa_cons (pv 3) (pa_cons (pv 5) (pa_cons (pv 7) (pa_cons (pv 6) (pa_cons (pv 2) pa_nil)))))) pa_nil))))) pss_nil)
        (pss_cons (ps_set (i := 9) scWg.nd rfl (.inr rfl) (pe_ix ix_list (pv 3) (pv 8) (fun _ _ => rfl)))
        (pss_cons (ps_set (i := 4) scWg.nd rfl (.inl rfl) (pe_d WD.red hr (by rfl) (pa_cons (pv 4) (pa_cons (pv 9) (pa_cons (pv 7) (pa_cons (pv 6) pa_nil))))))
        (pss_cons (ps_setLc (i := 3) (own := [("at", 10), ("line", 11)]) (g := gTup K 2 (gCons (gName 10) (gCons (gName 11) gNil))) (tt := tYes) rfl scWg.nd rfl rfl (sw_true rfl rfl rfl (by decide +kernel)) (pi_enum (by rfl) T.enumerate (pa_cons (pv 3) pa_nil)) (blkOk_by (N := nWg) (sc := defScope sWg) (by decide +kernel))
          (fun _ _ _ _ _ => pg_tup rfl (pgs_cons (pg_name (i := 10) scWg.nd rfl (.inl rfl) (.inr rfl)) (pgs_cons (pg_name (i := 11) scWg.nd rfl (.inl rfl) (.inr rfl)) pgs_nil))) (fun _ _ _ _ _ => pts_nil)
          (fun _ _ _ _ _ => pe_ifExp (pt_cmpR op_eq (pv 10) (pv 8) (nomark _)) (pv 9) (pe_d WD.red hr (by rfl) (pa_cons (pv 11) (pa_cons (pv 9) (pa_cons (pv 7) (pa_cons (pv 6) pa_nil)))))))
        (pss_cons (ps_asg (pv 7) (pg_sub (pv 5) (pv 8) set_list))
        (pss_cons (ps_set (i := 6) scWg.nd rfl (.inr rfl) (pe_ix ix_list (pv 9) (pv 7) (fun _ _ => rfl)))
        (pss_one (ps_set (i := 7) scWg.nd rfl (.inr rfl) (pe_d WD.abv hr (by rfl) (pa_cons (pv 4) pa_nil))))))))))))
      (pss_one (ps_ret (pe_tup (pa_cons pe_str (pa_cons (pe_tupO T (pe_lc (own := [("number", 12)]) (g := gName 12) (tt := tYes) rfl scWg.nd (pi_list (pe_slice sl_list (pv 4) (po_some (pv 2)) po_none)) (blkOk_by (N := nWg) (sc := defScope sWg) (by decide +kernel)) (fun _ _ _ _ _ => pg_name (i := 12) scWg.nd rfl (Or.inl rfl)) (fun _ _ _ _ _ => pts_nil)
        (fun _ _ _ _ _ => pe_un un_neg (pv 12)))) pa_nil)))))))))))), ?_⟩
    refine ⟨x, rfl, y, rfl, rfl, rfl, B, x, y, d, e, rfl, hx, hy, fun hf H1 s1 => ?_, o⟩
    obtain ⟨vc, wd, hd, rfl, hw, hm, hv, hb, qq⟩ := q hf
    have ey := hy.intI
    subst ey
    obtain ⟨a, xs, rfl, _, hq, hAll⟩ := seq_of hx hd
    have hV := vecs_of hAll
    have lxs : xs.length = vc.length := hV.1
    have hq1 := hq.same s1
    have hV1 := hV.same s1
    -- many = len(vectors)
    refine ⟨.ref a, rfl, a, xs, rfl, hq1.imp (fun e => SqL.of e) (fun e => SqT.of e), ?_⟩
    rw [lxs]
    -- table = first_tableau(vectors, width)
    refine ⟨.ref a, rfl, .int (wd : Nat), rfl, a, xs, vc, wd, rfl, hq1, hV1, hv, by omega, by omega, fun H2 tA rs s2 nt et hR => ?_⟩
    -- goal = [1] * many + [0] * width
    refine ⟨(by show 1 ≤ sizeLine; decide), fun l1 hl1 => ?_⟩
    have s3 := same_upd (o := .lst [V.int 1]) hl1
    refine ⟨.int (vc.length : Nat), rfl, l1, (vc.length : Nat), [V.int 1], rfl, rfl, upd_same, by omega, by omega, ?_, fun o1 ho1 => ?_⟩
    · show 1 * ((vc.length : Nat) : Int).toNat ≤ sizeLine
      exact Nat.le_of_lt (small1000 (by omega))
    rw [show (List.replicate ((vc.length : Nat) : Int).toNat [V.int 1]).flatten = (List.replicate vc.length (1 : Int)).map V.int by rw [Int.toNat_natCast, rep_flat, List.map_replicate]]
    have s4 := s3.trans (same_upd (o := .lst ((List.replicate vc.length (1 : Int)).map V.int)) ho1)
    have e1 : LsI (upd (upd H2 l1 (.lst [V.int 1])) o1 (.lst ((List.replicate vc.length (1 : Int)).map V.int))) o1 (List.replicate vc.length (1 : Int)) := upd_same
    generalize upd (upd H2 l1 (.lst [V.int 1])) o1 (.lst ((List.replicate vc.length (1 : Int)).map V.int)) = H3 at *
    refine ⟨(by show 1 ≤ sizeLine; decide), fun l2 hl2 => ?_⟩
    have s5 := same_upd (o := .lst [V.int 0]) hl2
    refine ⟨.int (wd : Nat), rfl, l2, (wd : Nat), [V.int 0], rfl, rfl, upd_same, by omega, by omega, ?_, fun o2 ho2 => ?_⟩
    · show 1 * ((wd : Nat) : Int).toNat ≤ sizeLine
      exact Nat.le_of_lt (small1000 (by omega))
    rw [show (List.replicate ((wd : Nat) : Int).toNat [V.int 0]).flatten = (List.replicate wd (0 : Int)).map V.int by rw [Int.toNat_natCast, rep_flat, List.map_replicate]]
    have s6 := s5.trans (same_upd (o := .lst ((List.replicate wd (0 : Int)).map V.int)) ho2)
    have e2 : LsI (upd (upd H3 l2 (.lst [V.int 0])) o2 (.lst ((List.replicate wd (0 : Int)).map V.int))) o2 (List.replicate wd (0 : Int)) := upd_same
    generalize upd (upd H3 l2 (.lst [V.int 0])) o2 (.lst ((List.replicate wd (0 : Int)).map V.int)) = H4 at *
    refine ⟨o1, o2, _, _, rfl, rfl, s6 _ _ e1, e2, ?_, fun gA hgA => ?_⟩
    · simp only [List.length_map, List.length_replicate]
      exact Nat.le_of_lt (small1000 (by omega))
    rw [← List.map_append]
    have s7 := same_upd (o := .lst ((List.replicate vc.length (1 : Int) ++ List.replicate wd 0).map V.int)) hgA
    have eG : LsI (upd H4 gA (.lst ((List.replicate vc.length (1 : Int) ++ List.replicate wd 0).map V.int))) gA (startM vc wd).gl := upd_same
    have s8 := ((s2.trans s4).trans s6).trans s7
    have et8 := s7 _ _ (s6 _ _ (s4 _ _ et))
    have hR8 := ((hR.same s4).same s6).same s7
    generalize upd H4 gA (.lst ((List.replicate vc.length (1 : Int) ++ List.replicate wd 0).map V.int)) = H5 at *
    -- basis = [many + at for at in range(width)]
    refine ⟨.int (wd : Nat), rfl, (wd : Nat), rfl, by omega, by omega, fun bA hbA => lcV (n := wd) ((startM vc wd).bs.map fun (x : Nat) => V.int (x : Int)) hbA (by simp [startM]) (by omega) (fun i H' hi s' => hi) (fun H' s' => Nat.le_refl _) (fun i v H' H6 hi s' y => ?_) (fun H6 s9 eB => ?_)⟩
    · obtain ⟨rfl, rfl⟩ := y
      refine ⟨Same.refl _, fun A hA => ⟨rfl, _, rfl, _, rfl, _, _, rfl, rfl, hA _ _ (Same.refl _) ?_⟩⟩
      have : (startM vc wd).bs[i]? = some (vc.length + i) := by
        show ((List.range wd).map fun a => vc.length + a)[i]? = _
        simp [List.getElem?_range hi]
      rw [List.getElem?_map, this]
      show some (V.int ((vc.length + i : Nat) : Int)) = some (V.int (((vc.length : Nat) : Int) + (0 + ((i : Nat) : Int))))
      congr 2
      omega
    have eB' : LsI H6 bA ((startM vc wd).bs.map fun (x : Nat) => (x : Int)) := by
      show H6 bA = some (.lst (((startM vc wd).bs.map fun (x : Nat) => (x : Int)).map V.int))
      rw [List.map_map]
      exact eB
    have nb0 : H bA = none := (s1.trans s8).free hbA
    -- scale = 1; column = first_above(goal)
    refine ⟨.ref gA, rfl, gA, _, rfl, s9 _ _ eG, fun H7 s10 => ?_⟩
    have G0 := start_good hv
    -- while column is not None
    refine ⟨fun k σ H' => ∃ (S : LS) (rs : List V) (tA gA : Addr) (y8 y9 y10 y11 y12 : Option V), σ = [some (.ref a), some (.int (wd : Nat)), some (.int (vc.length : Nat)), some (.ref tA), some (.ref gA), some (.ref bA), some (.int S.sc), some (optV (aboveM S.gl)), y8, y9, y10, y11, y12] ∧ Same H H' ∧
      H' tA = some (.lst rs) ∧ RowsAt H' rs S.tb ∧ (∀ (i : Nat) r, rs[i]? = some (V.ref r) → r ≠ bA) ∧ tA ≠ bA ∧ LsI H' gA S.gl ∧ gA ≠ bA ∧ LsI H' bA (S.bs.map fun (x : Nat) => (x : Int)) ∧ Good vc wd S ∧ runM vc.length k S = some (weighM vc wd),
      ⟨_, startM vc wd, rs, tA, gA, _, _, _, _, _, rfl, ((s1.trans s8).trans s9).trans s10, s10 _ _ (s9 _ _ et8), (hR8.same s9).same s10, fun i r hr' => ?_, ne_of_none et8 hbA, s10 _ _ (s9 _ _ eG), ne_of_none eG hbA, s10 _ _ eB', G0, weigh_run hv⟩, fun k σ H' hW => ?_⟩
    · obtain ⟨r', f1, f2⟩ := hR8.2 i (by
        have := (List.getElem?_eq_some_iff.mp hr').1
        rw [hR8.1] at this
        exact this)
      rw [hr'] at f1
      cases f1
      exact ne_of_none f2 hbA
    obtain ⟨S, rs, tA, gA, y8, y9, y10, y11, y12, rfl, sm, eT, hRs, hne, nT, eGl, nG, eBs, G, hrun⟩ := hW
    obtain ⟨k', rfl, run0, run1⟩ := run_one hrun
    have bd := good_bnd G hv hb hw
    have lt := G.lt
    have lb := G.lb
    refine ⟨_, rfl, rfl, _, rfl, ?_⟩
    cases hab : aboveM S.gl with
    | none =>
      -- return "weights", ..
      have e0 : (!decide (optV none = V.non)) = false := by rw [decide_eq_true (show optV none = V.non from rfl)]; rfl
      show if (!decide (optV none = V.non)) = true then _ else _
      rw [e0]
      refine iteF ?_
      have eR := run0 hab
      refine ⟨.ref gA, rfl, .int (vc.length : Nat), rfl, (vc.length : Nat), rfl, gA, _, rfl, SqL.of eGl, fun sl hsl => ?_⟩
      rw [cut_from _ vc.length (by simp [G.lg]), ← List.map_drop]
      have sA := same_upd (o := .lst ((S.gl.drop vc.length).map V.int)) hsl
      have eS : LsI (upd H' sl (.lst ((S.gl.drop vc.length).map V.int))) sl (S.gl.drop vc.length) := upd_same
      generalize upd H' sl (.lst ((S.gl.drop vc.length).map V.int)) = H8 at *
      have ldr : (S.gl.drop vc.length).length = wd := by rw [List.length_drop, G.lg]; omega
      refine ⟨sl, rfl, ⟨_, SqL.of eS⟩, fun D hD => lcV (n := wd) (((S.gl.drop vc.length).map fun x => -x).map V.int) hD (by simp [G.lg]) (by omega) (fun i H9 hi s' => ⟨_, _, SqL.of (s' _ _ eS), get_int (by omega)⟩) (fun H9 s' => ⟨_, SqL.of (s' _ _ eS), by rw [List.length_map, ldr]; exact Nat.le_refl _⟩) (fun i v H9 H10 hi s' y => ?_) (fun H9 s' eD => ?_)⟩
      · obtain ⟨rfl, y⟩ := y
        have hx := y _ (SqL.of (s' _ _ eS))
        rw [get_int (by omega)] at hx
        have ev := Option.some.inj hx
        subst ev
        refine ⟨Same.refl _, fun A hA => ⟨rfl, _, rfl, _, rfl, hA _ _ (Same.refl _) ?_⟩⟩
        rw [get_int (by rw [List.length_map, ldr]; exact hi), getD_map 0 (by omega)]
      · refine ⟨D, _, rfl, .inl ⟨SqL.of eD, fun u hu => ?_⟩⟩
        refine ⟨(by show 2 ≤ sizeLine; decide), fun t ht => ?_⟩
        have sU := same_upd (o := .tup (((S.gl.drop vc.length).map fun x => -x).map V.int)) hu
        have sF := (sm.trans sA).trans s'
        have eU : (upd H9 u (.tup (((S.gl.drop vc.length).map fun x => -x).map V.int))) u = some (.tup (((S.gl.drop vc.length).map fun x => -x).map V.int)) := upd_same
        have nut := ne_of_none eU ht
        refine qq _ t u ((sF.trans sU).trans (same_upd ht)) ((sF.trans sU).free ht) (sF.free hu) ?_ ?_
        · rw [upd_same, eR]
          rfl
        · rw [upd_ne nut, eR]
          exact eU
    | some r =>
      obtain ⟨r1, r2, r3⟩ := above_some hab
      rw [G.lg] at r1
      have e0 : (!decide (optV (some r) = V.non)) = true := by rw [decide_eq_false (fun z => by cases z)]; rfl
      show if (!decide (optV (some r) = V.non)) = true then _ else _
      rw [e0]
      refine iteT ?_
      obtain ⟨runN, runS⟩ := run1 r hab
      refine ⟨_, fun σ' H8 hN => ⟨k', by omega, hN⟩, ?_⟩
      -- leaving = leaving_row(table, basis, column)
      refine ⟨.ref tA, rfl, .ref bA, rfl, .int (r : Nat), rfl, tA, bA, rs, S.tb, S.bs, r, rfl, eT, hRs, eBs, by omega, fun i hi => by rw [G.lr i (by omega)]; exact r1, fun H8 s11 => ?_⟩
      have sm8 := sm.trans s11
      refine ⟨_, rfl, rfl, _, rfl, ?_⟩
      cases hlv : leaveM S.tb S.bs r S.tb.length with
      | none =>
        -- return "counterweight", ..
        show if decide (optV none = V.non) = true then _ else _
        rw [decide_eq_true (show optV none = V.non from rfl)]
        refine iteT ?_
        have eR := runN hlv
        refine ⟨.ref tA, rfl, .ref bA, rfl, .int (r : Nat), rfl, .int S.sc, rfl, .int (vc.length : Nat), rfl, tA, bA, rs, S.tb, S.bs, r, S.sc, vc.length, rfl, s11 _ _ eT, hRs.same s11, s11 _ _ eBs, by omega, by omega, fun i hi => by rw [G.lr i (by omega), lt], by omega, fun i hi => ?_, fun H9 u s12 nu eu => ?_⟩
        · have := G.inv.blt i (by omega)
          rw [lt]
          exact this
        · refine ⟨(by show 2 ≤ sizeLine; decide), fun t ht => ?_⟩
          have nut := ne_of_none eu ht
          refine qq _ t u ((sm8.trans s12).trans (same_upd ht)) ((sm8.trans s12).free ht) (sm8.free nu) ?_ ?_
          · rw [upd_same, eR]
            rfl
          · rw [upd_ne nut, eR]
            exact eu
      | some p =>
        show if decide (optV (some p) = V.non) = true then _ else _
        rw [decide_eq_false (fun z => by cases z)]
        refine iteF ?_
        obtain ⟨hp, _, hT, _⟩ := step_pick G hab hlv
        have runP := runS p hlv
        have hp' : p < S.tb.length := by omega
        obtain ⟨pr, ep1, ep2⟩ := (hRs.same s11).2 p hp'
        have npr := hne p pr ep1
        -- pivot_line = table[leaving]
        refine ⟨.ref tA, rfl, .int (p : Nat), rfl, tA, rs, (p : Nat), .ref pr, rfl, rfl, SqL.of (s11 _ _ eT), atI_nat ep1, ?_⟩
        -- goal = reduced(goal, pivot_line, column, scale)
        have lp := G.lr p hp
        refine ⟨.ref gA, rfl, .ref pr, rfl, .int (r : Nat), rfl, .int S.sc, rfl, gA, pr, S.gl, S.tb.getD p [], r, S.sc, rfl, s11 _ _ eGl, ep2, by rw [G.lg, lp], by omega, by omega, fun i hi => bd.gl i (by omega), fun i hi => bd.tb p i hp (by omega), G.inv.pos, bd.sc, fun H9 g2 s12 n12 e12 => ?_⟩
        have sm9 := sm8.trans s12
        have s89 := s11.trans s12
        have hR9 := hRs.same s89
        have eT9 := s89 _ _ eT
        have eB9 := s89 _ _ eBs
        have ep9 := s12 _ _ ep2
        have ng2 : g2 ≠ bA := (ne_of_none (s11 _ _ eBs) n12).symm
        -- table = [..]
        have hxT : ∀ H', Same H9 H' → SqL K H' tA rs := fun H' s => SqL.of (s _ _ eT9)
        refine ⟨.ref tA, rfl, tA, rs, rfl, hxT _ (Same.refl _), fun D hD => lcY (n := rs.length) (fun i y H => ∃ r', y = .ref r' ∧ r' ≠ D ∧ r' ≠ bA ∧ LsI H r' ((S.step p r).tb.getD i [])) (fun i y H H' s ⟨r', e1, n1, n2, l⟩ => ⟨r', e1, n1, n2, s _ _ n1 l⟩) hD (by rw [hRs.1]; omega)
          (fun i H' hi s => ite_go hxT i H' hi s) (fun H' s => ⟨rs, hxT _ s, Nat.le_refl _⟩) (fun i v H' H10 hi s accD y => ?_) (fun H10 acc s13 eD ld hacc => ?_)⟩
        · obtain ⟨Tp, xv, rfl, hTp, rfl, exv⟩ := ite_yld hxT s y
          have hi' : i < S.tb.length := by rw [hRs.1] at hi; exact hi
          obtain ⟨ri, f1, f2⟩ := hR9.2 i hi'
          rw [exv] at f1
          cases f1
          have sP := same_upd (o := .tup [.int (i : Nat), .ref ri]) hTp
          refine ⟨sP, fun A hA => ?_⟩
          obtain ⟨acc0, eD0⟩ := accD
          have s9T := s.trans sP
          have li := G.lr i (by omega)
          refine ⟨Tp, _, rfl, SqT.of upd_same, rfl, .int (i : Nat), _, rfl, .ref ri, _, rfl, rfl, rfl, ?_⟩
          refine ⟨.int (i : Nat), rfl, .int (p : Nat), rfl, rfl, _, rfl, ?_⟩
          rw [dec_int]
          by_cases c : i = p
          · have ec : (((i : Nat) : Int) == ((p : Nat) : Int)) = true := by rw [c]; simp
            rw [ec]
            refine iteT ⟨.ref pr, rfl, hA _ _ (Same.refl _) ⟨pr, rfl, ne_of_none (s12 _ _ ep2) hD, npr, ?_⟩⟩
            rw [step_row hi', if_pos c]
            exact s9T _ _ ep9
          · have ec : (((i : Nat) : Int) == ((p : Nat) : Int)) = false := by
              simp only [beq_eq_false_iff_ne]
              omega
            rw [ec]
            refine iteF ⟨.ref ri, rfl, .ref pr, rfl, .int (r : Nat), rfl, .int S.sc, rfl, ri, pr, S.tb.getD i [], S.tb.getD p [], r, S.sc, rfl, s9T _ _ f2, s9T _ _ ep9, by rw [li, lp], by omega, by omega, fun j hj => bd.tb i j (by omega) (by omega), fun j hj => bd.tb p j hp (by omega), G.inv.pos, bd.sc, fun H11 r' s14 n14 e14 => ?_⟩
            refine hA _ _ s14 ⟨r', rfl, (ne_of_none (sP _ _ eD0) n14).symm, (ne_of_none (s9T _ _ eB9) n14).symm, ?_⟩
            rw [step_row hi', if_neg c]
            exact e14
        · -- basis[leaving] = column
          have eB10 := s13 _ _ eB9
          have ep10 := s13 _ _ ep9
          refine ⟨.int (r : Nat), rfl, .ref bA, rfl, .int (p : Nat), rfl, bA, _, _, p, rfl, rfl, eB10, ixN_nat (by simp; omega), ?_⟩
          have eset : ((S.bs.map fun (x : Nat) => (x : Int)).map V.int).set p (.int (r : Nat)) = ((S.step p r).bs.map fun (x : Nat) => (x : Int)).map V.int := by
            show _ = ((S.bs.set p r).map fun (x : Nat) => (x : Int)).map V.int
            rw [List.map_set, List.map_set]
          rw [eset]
          have nD : D ≠ bA := (ne_of_none eB9 hD).symm
          -- scale = pivot_line[column]
          refine ⟨.ref pr, rfl, .int (r : Nat), rfl, pr, _, (r : Nat), _, rfl, rfl, SqL.of (by rw [upd_ne npr]; exact ep10), at_int (by rw [lp]; exact r1), ?_⟩
          -- column = first_above(goal)
          refine ⟨.ref g2, rfl, g2, _, rfl, by rw [LsI, upd_ne ng2]; exact s13 _ _ e12, fun H11 s14 => ?_⟩
          have nbH : H bA = none := nb0
          refine ⟨S.step p r, acc, D, g2, _, _, _, _, _, rfl, ?_, ?_, ?_, ?_, nD, ?_, ng2, ?_, step_good G hp r1 hT, runP⟩
          · intro c u e
            refine s14 _ _ ?_
            rw [upd_ne (ne_of_none e nbH)]
            exact s13 _ _ (sm9 _ _ e)
          · refine s14 _ _ ?_
            rw [upd_ne nD]
            exact eD
          · refine ⟨by rw [ld, hRs.1]; exact (List.length_mapIdx ..).symm, fun i hi => ?_⟩
            have hi2 : i < acc.length := by
              rw [ld, hRs.1]
              have : (S.step p r).tb.length = S.tb.length := List.length_mapIdx ..
              omega
            obtain ⟨r', e1, n1, n2, l⟩ := hacc i _ (List.getElem?_eq_getElem hi2)
            refine ⟨r', by rw [List.getElem?_eq_getElem hi2, e1], s14 _ _ ?_⟩
            rw [upd_ne n2]
            exact l
          · intro i r' hr'
            obtain ⟨r'', e1, n1, n2, l⟩ := hacc i _ hr'
            cases e1
            exact n2
          · refine s14 _ _ ?_
            rw [upd_ne ng2]
            exact s13 _ _ e12
          · exact s14 _ _ upd_same
end
end K69

/-! ## K1 -/
namespace K69
open PySem PySem.Spec PyProof.Rows L2
/-- the bag of draws at B over the script's numbers at L -/
def BagAt (B L : Addr) (ns : List Int) (H : Hp) : Prop := ∃ (i : Nat) (c s k : Int), H B = some (.lst [.ref L, .int (i : Nat), .int c, .int s, .int k]) ∧ H L = some (.lst (ns.map V.int)) ∧ L ≠ B ∧ ns.length ≤ 63 ∧ 0 ≤ c ∧ 0 ≤ s ∧ s < 2147483587
theorem BagAt.same {B L : Addr} {ns : List Int} {H H' : Hp} (b : BagAt B L ns H) (s : Same H H') : BagAt B L ns H' := by
  obtain ⟨i, c, z, k, e, e2, r⟩ := b
  exact ⟨i, c, z, k, s _ _ e, s _ _ e2, r⟩
section
variable {X : Cx} {K : PySem.W.Frag} {p1 p2 p3 pos : Pos}
theorem pe_intO {a : Expr} {ta : TE} (T : Tx X.K X.mg) (ha : PE X a ta) (hg : Gl X "int" := by rfl) (he : starEach [a] X.env = (false, eval a X.env) :: starEach [] X.env := by rfl) :
    PE X (.Call (.Name "int" p1) [a] [] pos) (tCB (fun xs H Q => (∃ i, xs = [.int i] ∧ Q (.int i) H) ∨ ∃ k, xs = [.bl k] ∧ Q (.int (if k then 1 else 0)) H) (tCons ta tNil)) :=
  pe_callTy call_int1 hg T.int PyProof.Rows.boot_int (pa_cons ha pa_nil he) (by decide) (by decide) he rfl
end
theorem ix5 {i : Nat} {a b c d e : V} (h : i < 5) : atI [a, b, c, d, e] (i : Nat) = [a, b, c, d, e][i]? := by
  obtain ⟨v, e⟩ : ∃ v, [a, b, c, d, e][i]? = some v := ⟨_, List.getElem?_eq_getElem h⟩
  rw [e]
  exact atI_nat e
/-! ### a body cut behind a statement -/
theorem pss_cut {X : Cx} {st : Stmt} {rest : List Stmt} {ts : TS} {D : Ends} {σ : L2.St} {H : Hp} (Pm : L2.St → Hp → Prop) (h1 : PS X st ts) (q1 : ts { D with nx := Pm } σ H)
    (h2 : ∀ σ' H', Pm σ' H' → ∃ u, PSs X rest u ∧ u D σ' H') : ∃ t, PSs X (st :: rest) t ∧ t D σ H := by
  have hu : PSs X rest fun D' σ' H' => ∃ u, PSs X rest u ∧ u D' σ' H' := ⟨fun pins s σ' H' D' I h => let ⟨u, hu, q⟩ := h; hu.run pins s σ' H' D' I q⟩
  refine ⟨fun D' σ0 H0 => ts { D' with nx := Pm } σ0 H0 ∧ ∀ σ' H', Pm σ' H' → ∃ u, PSs X rest u ∧ u D' σ' H', ⟨fun pins s σ0 H0 D' I h => ?_⟩, q1, h2⟩
  refine wpAny_execs_cons (thn (h1.run pins s σ0 H0 { D' with nx := Pm } I h.1) fun f s1 q => ?_)
  cases f with
  | next =>
    obtain ⟨σ', H', I', q⟩ := q
    exact hu.run pins s1 σ' H' D' I' (h.2 _ _ q)
  | ret v => exact q
  | brk => exact q
  | cont => exact q
theorem pss_step {X : Cx} {st : Stmt} {rest : List Stmt} {ts : TS} {D : Ends} {σ : L2.St} {H : Hp} (h1 : PS X st ts) (q1 : ts { D with nx := fun σ' H' => ∃ u, PSs X rest u ∧ u D σ' H' } σ H) : ∃ t, PSs X (st :: rest) t ∧ t D σ H :=
  pss_cut _ h1 q1 fun _ _ h => h
theorem pss_any {X : Cx} {rest : List Stmt} : PSs X rest fun D' σ' H' => ∃ u, PSs X rest u ∧ u D' σ' H' := ⟨fun pins s σ' H' D' I h => let ⟨u, hu, q⟩ := h; hu.run pins s σ' H' D' I q⟩
theorem pss_fin {X : Cx} {st : Stmt} {ts : TS} {D : Ends} {σ : L2.St} {H : Hp} (h1 : PS X st ts) (q1 : ts D σ H) : ∃ t, PSs X [st] t ∧ t D σ H := ⟨_, pss_one h1, q1⟩
section
variable {P : Program} {w : World} {K : PySem.W.Frag} {mg : Str → Option Value} {base : Heap}
abbrev sPull : Stmt := topS 23
abbrev nPull : List Str := ["_law_bag", "_law_sides", "_law_cell", "_law_digit", "_law_seed"]
theorem scPull : FnScope nPull ["_law_bag", "_law_sides"] (defScope sPull) := ⟨rfl, rfl, rfl, by decide +kernel, rfl, by decide +kernel, by decide +kernel⟩
def spPull : Sp := fun vs H Q _ => ∃ (B L : Addr) (ns : List Int) (d : Int), vs = [.ref B, .int d] ∧ BagAt B L ns H ∧ 0 < d ∧ d < 2 ^ 62 ∧ ∀ (r : Int) (H' : Hp), 0 ≤ r → r < d → Sb B H H' → BagAt B L ns H' → Q (.int r) H'
theorem mod_seed (a : Int) : 0 ≤ a % 2147483587 ∧ a % 2147483587 < 2147483587 := ⟨Int.emod_nonneg _ (by omega), Int.emod_lt_of_pos _ (by omega)⟩
theorem log_small {d : Int} (h0 : 0 < d) (h : d < 2 ^ 62) : d.natAbs.log2 < 9000 := by
  have h1 : d.natAbs < 2 ^ 62 := by omega
  have h2 : d.natAbs.log2 < 62 := (Nat.log2_lt (by omega)).mpr h1
  omega
theorem ok_pull {f : Addr} {fd : FuncData} {k : Nat} (F : Fun K "_law_pull" "_law_pull" sPull f fd) (T : Tx K mg) : FnOk P w K mg base CX0 (k + 1) f fd ["_law_bag", "_law_sides"] spPull := by
  refine F.ok scPull (fun vs H Q E h => ?_) (fun cdv A outer s H vs Q E hr h => ?_)
  · obtain ⟨B, L, ns, d, rfl, _⟩ := h
    rfl
  · obtain ⟨B, L, ns, d, rfl, hB, hd, hd2, q⟩ := h
    obtain ⟨i, c, z, n, hb, hL, hLB, h63, hc, hz, hz2⟩ := hB
    refine pss_step (ps_asg (pe_op op_add (pe_ix ix_list (pv 0) pe_int (fun _ _ => rfl)) pe_int) (pg_sub (pv 0) pe_int set_list)) ?_
    refine ⟨.ref B, rfl, B, _, 4, _, rfl, rfl, SqL.of hb, rfl, n, 1, rfl, rfl, .ref B, rfl, B, _, 4, 4, rfl, rfl, hb, rfl, ?_⟩
    have s1 : Sb B H (upd H B (.lst ([V.ref L, .int (i : Nat), .int c, .int z, .int n].set 4 (.int (n + 1))))) := sb_upd
    have hb1 : (upd H B (.lst ([V.ref L, .int (i : Nat), .int c, .int z, .int n].set 4 (.int (n + 1))))) B = some (.lst [V.ref L, .int (i : Nat), .int c, .int z, .int (n + 1)]) := upd_same
    generalize upd H B (.lst ([V.ref L, .int (i : Nat), .int c, .int z, .int n].set 4 (.int (n + 1)))) = H1 at *
    generalize n + 1 = n1 at *
    have hL1 := s1 _ _ hLB hL
    refine pss_cut (fun σ' H' => ∃ (i' : Nat) (c' z' : Int) (y2 : Option V), σ' = [some (.ref B), some (.int d), y2, none, none] ∧ Sb B H H' ∧ H' B = some (.lst [V.ref L, .int (i' : Nat), .int c', .int z', .int n1]) ∧ 0 ≤ c' ∧ 0 ≤ z' ∧ z' < 2147483587)
      (ps_if (PW.pt (pw_and (pt_cmpR op_eq (pe_ix ix_list (pv 0) pe_int (fun _ _ => rfl)) pe_int (nomark _)) (pw_and1 (pt_cmpR op_lt (pe_ix ix_list (pv 0) pe_int (fun _ _ => rfl)) (pe_len T (pe_ix ix_list (pv 0) pe_int (fun _ _ => rfl))) (nomark _)))))
        (pss_cons (ps_asg (pe_tup (pa_cons (pe_ix ix_list (pe_ix ix_list (pv 0) pe_int (fun _ _ => rfl)) (pe_ix ix_list (pv 0) pe_int (fun _ _ => rfl)) (fun _ _ => rfl)) (pa_cons (pe_op op_add (pe_ix ix_list (pv 0) pe_int (fun _ _ => rfl)) pe_int) pa_nil)))
            (pg_tup rfl (pgs_cons (pg_name (i := 2) scPull.nd rfl (.inl rfl)) (pgs_cons (pg_sub (pv 0) pe_int set_list) pgs_nil))))
        (pss_cons (ps_if (pt_cmpR op_ge (pv 2) (pe_op op_pow pe_int pe_int) (nomark _)) (pss_one (ps_asg (pv 2) (pg_sub (pv 0) pe_int set_list))) pss_nil)
        (pss_one (ps_asg (pe_op op_mod (pe_intO T (pe_op op_add (pe_op op_add (pe_op op_mul (pe_ix ix_list (pv 0) pe_int (fun _ _ => rfl)) pe_int) (pe_op op_mul (pe_op op_mod (pe_intO T (pv 2)) pe_int) pe_int)) pe_int)) pe_int) (pg_sub (pv 0) pe_int set_list)))))
        pss_nil) ?_ ?_
    · refine ⟨.ref B, rfl, B, _, 2, _, rfl, rfl, SqL.of hb1, rfl, rfl, _, rfl, ?_⟩
      by_cases c0 : c = 0
      · subst c0
        refine iteT ⟨.ref B, rfl, B, _, 1, _, rfl, rfl, SqL.of hb1, rfl, .ref B, rfl, B, _, 0, _, rfl, rfl, SqL.of hb1, rfl, L, _, rfl, .inl (SqL.of hL1), (i : Nat), _, rfl, rfl, _, rfl, ?_⟩
        rw [List.length_map]
        by_cases hi : i < ns.length
        · rw [decide_eq_true (show ((i : Nat) : Int) < ((ns.length : Nat) : Int) by omega)]
          refine iteT ?_
          refine ⟨.ref B, rfl, B, _, 0, _, rfl, rfl, SqL.of hb1, rfl, .ref B, rfl, B, _, 1, _, rfl, rfl, SqL.of hb1, rfl, L, _, (i : Nat), _, rfl, rfl, SqL.of hL1, at_int hi, ?_⟩
          refine ⟨.ref B, rfl, B, _, 1, _, rfl, rfl, SqL.of hb1, rfl, (i : Nat), 1, rfl, rfl, (by show 2 ≤ sizeLine; decide), fun tp htp => ?_⟩
          have s2 := same_upd (o := .tup [V.int (ns.getD i 0), V.int ((i : Nat) + 1)]) htp
          have hb2 := s2 _ _ hb1
          have e2 : (upd H1 tp (.tup [V.int (ns.getD i 0), V.int ((i : Nat) + 1)])) tp = some (.tup [V.int (ns.getD i 0), V.int ((i : Nat) + 1)]) := upd_same
          generalize upd H1 tp (.tup [V.int (ns.getD i 0), V.int ((i : Nat) + 1)]) = H2 at *
          have s2' := s1.trans (Sb.of s2)
          refine ⟨tp, _, rfl, SqT.of e2, rfl, _, _, rfl, _, _, rfl, .ref B, rfl, B, _, 1, 1, rfl, rfl, hb2, rfl, rfl, ?_⟩
          have s3 : Sb B H2 (upd H2 B (.lst ([V.ref L, .int (i : Nat), .int 0, .int z, .int n1].set 1 (.int ((i : Nat) + 1))))) := sb_upd
          have hb3 : (upd H2 B (.lst ([V.ref L, .int (i : Nat), .int 0, .int z, .int n1].set 1 (.int ((i : Nat) + 1))))) B = some (.lst [V.ref L, .int ((i + 1 : Nat) : Int), .int 0, .int z, .int n1]) := upd_same
          generalize upd H2 B (.lst ([V.ref L, .int (i : Nat), .int 0, .int z, .int n1].set 1 (.int ((i : Nat) + 1)))) = H3 at *
          generalize ns.getD i 0 = x at *
          have s3' := s2'.trans s3
          refine ⟨_, rfl, 10, 18, rfl, rfl, ⟨by decide, by decide, by decide⟩, x, _, rfl, rfl, _, rfl, ?_⟩
          have last : ∀ (c' : Int) (H4 : Hp), 0 ≤ c' → Sb B H H4 → H4 B = some (.lst [V.ref L, .int ((i + 1 : Nat) : Int), .int c', .int z, .int n1]) → ∀ (R : L2.St → Hp → Prop),
              (∀ (z' : Int) H', 0 ≤ z' → z' < 2147483587 → Sb B H H' → H' B = some (.lst [V.ref L, .int ((i + 1 : Nat) : Int), .int c', .int z', .int n1]) → R [some (V.ref B), some (V.int d), some (V.int x), none, none] H') → True := fun _ _ _ _ _ _ _ => trivial
          have fin : ∀ (c' : Int) (H4 : Hp), 0 ≤ c' → Sb B H H4 → H4 B = some (.lst [V.ref L, .int ((i + 1 : Nat) : Int), .int c', .int z, .int n1]) → Sb B H (upd H4 B (.lst ([V.ref L, .int ((i + 1 : Nat) : Int), .int c', .int z, .int n1].set 3 (.int ((z * 39119 + x % 2147483489 * 41011 + 131) % 2147483587))))) :=
            fun c' H4 _ s _ => s.trans sb_upd
          by_cases cx : (10 : Int) ^ (18 : Int).toNat ≤ x
          · rw [decide_eq_true cx]
            refine iteT ⟨.int x, rfl, .ref B, rfl, B, _, 2, 2, rfl, rfl, hb3, rfl, ?_⟩
            have s4 : Sb B H3 (upd H3 B (.lst ([V.ref L, .int ((i + 1 : Nat) : Int), .int 0, .int z, .int n1].set 2 (.int x)))) := sb_upd
            have hb4 : (upd H3 B (.lst ([V.ref L, .int ((i + 1 : Nat) : Int), .int 0, .int z, .int n1].set 2 (.int x)))) B = some (.lst [V.ref L, .int ((i + 1 : Nat) : Int), .int x, .int z, .int n1]) := upd_same
            generalize upd H3 B (.lst ([V.ref L, .int ((i + 1 : Nat) : Int), .int 0, .int z, .int n1].set 2 (.int x))) = H4 at *
            have x0 : 0 ≤ x := Int.le_trans (by decide) cx
            obtain ⟨m0, m1⟩ := mod_seed (z * 39119 + x % 2147483489 * 41011 + 131)
            have mm : 0 ≤ x % 2147483489 ∧ x % 2147483489 < 2147483489 := ⟨Int.emod_nonneg _ (by omega), Int.emod_lt_of_pos _ (by omega)⟩
            refine ⟨.ref B, rfl, B, _, 3, _, rfl, rfl, SqL.of hb4, rfl, z, 39119, rfl, rfl, .inr ⟨by decide, by decide⟩, ?_⟩
            refine ⟨.int x, rfl, .inl ⟨x, rfl, x, 2147483489, rfl, rfl, (show (0 : Int) < 2147483489 by decide), _, 41011, rfl, rfl, .inr ⟨by decide, by decide⟩, _, _, rfl, rfl, _, 131, rfl, rfl, .inl ⟨_, rfl, _, 2147483587, rfl, rfl, (show (0 : Int) < 2147483587 by decide), ?_⟩⟩⟩
            refine ⟨.ref B, rfl, B, _, 3, 3, rfl, rfl, hb4, rfl, i + 1, x, _, _, rfl, (s3'.trans s4).trans sb_upd, upd_same, x0, m0, m1⟩
          · rw [decide_eq_false cx]
            refine iteF ?_
            obtain ⟨m0, m1⟩ := mod_seed (z * 39119 + x % 2147483489 * 41011 + 131)
            refine ⟨.ref B, rfl, B, _, 3, _, rfl, rfl, SqL.of hb3, rfl, z, 39119, rfl, rfl, .inr ⟨by decide, by decide⟩, ?_⟩
            refine ⟨.int x, rfl, .inl ⟨x, rfl, x, 2147483489, rfl, rfl, (show (0 : Int) < 2147483489 by decide), _, 41011, rfl, rfl, .inr ⟨by decide, by decide⟩, _, _, rfl, rfl, _, 131, rfl, rfl, .inl ⟨_, rfl, _, 2147483587, rfl, rfl, (show (0 : Int) < 2147483587 by decide), ?_⟩⟩⟩
            refine ⟨.ref B, rfl, B, _, 3, 3, rfl, rfl, hb3, rfl, i + 1, 0, _, _, rfl, s3'.trans sb_upd, upd_same, Int.le_refl _, m0, m1⟩
        · rw [decide_eq_false (show ¬ ((i : Nat) : Int) < ((ns.length : Nat) : Int) by omega)]
          exact iteF ⟨i, 0, z, none, rfl, s1, hb1, Int.le_refl _, hz, hz2⟩
      · have e0 : decide (V.int c = V.int 0) = false := decide_eq_false (fun z => c0 (by cases z; rfl))
        rw [e0]
        exact iteF (iteF ⟨i, c, z, none, rfl, s1, hb1, hc, hz, hz2⟩)
    · rintro σ' H' ⟨i', c', z', y2, rfl, s', hb', hc', hz', hz2'⟩
      have hL' := s' _ _ hLB hL
      refine pss_cut (fun σ2 H2 => σ2 = [some (.ref B), some (.int d), y2, none, none] ∧ H2 = H') (ps_if (pt_cmpR op_gt (pe_ix ix_list (pv 0) pe_int (fun _ _ => rfl)) pe_int (nomark _))
        (pss_cons (ps_asg (pe_tup (pa_cons (pe_op op_mod (pe_intO T (pe_ix ix_list (pv 0) pe_int (fun _ _ => rfl))) (pv 1)) (pa_cons (pe_op op_fdivW (pe_ix ix_list (pv 0) pe_int (fun _ _ => rfl)) (pv 1)) pa_nil)))
            (pg_tup rfl (pgs_cons (pg_name (i := 3) scPull.nd rfl (.inl rfl)) (pgs_cons (pg_sub (pv 0) pe_int set_list) pgs_nil))))
        (pss_one (ps_ret (pv 3)))) pss_nil) ?_ ?_
      · refine ⟨.ref B, rfl, B, _, 2, _, rfl, rfl, SqL.of hb', rfl, c', 0, rfl, rfl, _, rfl, ?_⟩
        by_cases c0 : 0 < c'
        · rw [decide_eq_true c0]
          refine iteT ⟨.ref B, rfl, B, _, 2, _, rfl, rfl, SqL.of hb', rfl, .inl ⟨c', rfl, .int d, rfl, c', d, rfl, rfl, hd, .ref B, rfl, B, _, 2, _, rfl, rfl, SqL.of hb', rfl, .int d, rfl, c', d, rfl, rfl, ⟨hd, log_small hd hd2⟩, (by show 2 ≤ sizeLine; decide), fun tp htp => ?_⟩⟩
          have s2 := same_upd (o := .tup [V.int (c' % d), V.int (c' / d)]) htp
          have e2 : (upd H' tp (.tup [V.int (c' % d), V.int (c' / d)])) tp = some (.tup [V.int (c' % d), V.int (c' / d)]) := upd_same
          generalize upd H' tp (.tup [V.int (c' % d), V.int (c' / d)]) = H2 at *
          have hb2 := s2 _ _ hb'
          refine ⟨tp, _, rfl, SqT.of e2, rfl, _, _, rfl, _, _, rfl, .ref B, rfl, B, _, 2, 2, rfl, rfl, hb2, rfl, rfl, .int (c' % d), rfl, ?_⟩
          have s3 := (s'.trans (Sb.of s2)).trans (sb_upd (H := H2) (B := B) (o := .lst ([V.ref L, .int (i' : Nat), .int c', .int z', .int n1].set 2 (.int (c' / d)))))
          exact q _ _ (Int.emod_nonneg _ (by omega)) (Int.emod_lt_of_pos _ hd) s3 ⟨i', c' / d, z', n1, upd_same, s3 _ _ hLB hL, hLB, h63, Int.ediv_nonneg hc' (by omega), hz', hz2'⟩
        · rw [decide_eq_false c0]
          exact iteF ⟨rfl, rfl⟩
      · rintro σ2 H2 ⟨rfl, rfl⟩
        refine pss_step (ps_set (i := 4) scPull.nd rfl (.inl rfl) (pe_ix ix_list (pv 0) pe_int (fun _ _ => rfl))) ⟨.ref B, rfl, B, _, 3, _, rfl, rfl, SqL.of hb', rfl, ?_⟩
        refine pss_cut (fun σ3 H3 => ∃ z2 : Int, σ3 = [some (.ref B), some (.int d), y2, none, some (.int z')] ∧ 0 ≤ z2 ∧ z2 < 2147483587 ∧ Sb B H H3 ∧ H3 B = some (.lst [V.ref L, .int (i' : Nat), .int c', .int z2, .int n1]))
          (ps_asg (pe_op op_mod (pe_intO T (pe_op op_add (pe_op op_add (pe_op op_add (pe_op op_pow (pv 4) pe_int) (pe_op op_mul (pv 4) pe_int)) (pe_op op_mul (pe_ix ix_list (pv 0) pe_int (fun _ _ => rfl)) pe_int)) pe_int)) pe_int) (pg_sub (pv 0) pe_int set_list)) ?_ ?_
        · refine ⟨.int z', rfl, z', 3, rfl, rfl, ⟨by decide, by decide, by omega⟩, .int z', rfl, z', 37657, rfl, rfl, .inr ⟨by decide, by decide⟩, _, _, rfl, rfl, ?_⟩
          refine ⟨.ref B, rfl, B, _, 4, _, rfl, rfl, SqL.of hb', rfl, n1, 1299827, rfl, rfl, .inr ⟨by decide, by decide⟩, _, _, rfl, rfl, _, 60101, rfl, rfl, .inl ⟨_, rfl, _, 2147483587, rfl, rfl, (show (0 : Int) < 2147483587 by decide), .ref B, rfl, B, _, 3, 3, rfl, rfl, hb', rfl, ?_⟩⟩
          exact ⟨_, rfl, (mod_seed _).1, (mod_seed _).2, s'.trans sb_upd, upd_same⟩
        · rintro σ3 H3 ⟨z2, rfl, m0, m1, s3, hb3⟩
          refine pss_fin (ps_ret (pe_op op_mod (pe_intO T (pe_op op_add (pe_op op_fdiv (pe_ix ix_list (pv 0) pe_int (fun _ _ => rfl)) pe_int) (pe_op op_mul (pe_op op_mod (pe_intO T (pe_ix ix_list (pv 0) pe_int (fun _ _ => rfl))) pe_int) pe_int))) (pv 1))) ?_
          refine ⟨.ref B, rfl, B, _, 3, _, rfl, rfl, SqL.of hb3, rfl, z2, 101, rfl, rfl, ⟨by decide, by decide⟩, .ref B, rfl, B, _, 3, _, rfl, rfl, SqL.of hb3, rfl, .inl ⟨z2, rfl, z2, 8011, rfl, rfl, (show (0 : Int) < 8011 by decide), _, 71, rfl, rfl, .inr ⟨by decide, by decide⟩, _, _, rfl, rfl, .inl ⟨_, rfl, .int d, rfl, _, d, rfl, rfl, hd, ?_⟩⟩⟩
          exact q _ _ (Int.emod_nonneg _ (by omega)) (Int.emod_lt_of_pos _ hd) s3 ⟨i', c', z2, n1, hb3, s3 _ _ hLB hL, hLB, h63, hc', m0, m1⟩
/-! ### _law_any -/
abbrev sAny : Stmt := topS 24
abbrev nAny : List Str := ["_law_bag", "_law_items"]
theorem scAny : FnScope nAny ["_law_bag", "_law_items"] (defScope sAny) := ⟨rfl, rfl, rfl, by decide +kernel, rfl, by decide +kernel, by decide +kernel⟩
def spAny : Sp := fun vs H Q _ => ∃ (B L : Addr) (ns : List Int) (a : Addr) (xs : List V), vs = [.ref B, .ref a] ∧ BagAt B L ns H ∧ a ≠ B ∧ H a = some (.lst xs) ∧ 0 < xs.length ∧ xs.length ≤ 1000 ∧
  ∀ (j : Nat) (x : V) (H' : Hp), xs[j]? = some x → Sb B H H' → BagAt B L ns H' → Q x H'
theorem ok_any {f : Addr} {fd : FuncData} (F : Fun K "_law_any" "_law_any" sAny f fd) (T : Tx K mg) (D1 : Df P w K mg base 1 "_law_pull" ["_law_bag", "_law_sides"] spPull) : FnOk P w K mg base CX0 2 f fd ["_law_bag", "_law_items"] spAny := by
  refine F.ok scAny (fun vs H Q E h => ?_) (fun cdv A outer s H vs Q E hr h => ?_)
  · obtain ⟨B, L, ns, a, xs, rfl, _⟩ := h
    rfl
  · obtain ⟨B, L, ns, a, xs, rfl, hB, ha, hL, h0, h1, q⟩ := h
    refine ⟨_, pss_one (ps_ret (pe_ix ix_list (pv 1) (pe_d D1 hr (by rfl) (pa_cons (pv 0) (pa_cons (pe_len T (pv 1)) pa_nil))) (fun _ _ => rfl))), ?_⟩
    refine ⟨.ref a, rfl, .ref B, rfl, .ref a, rfl, a, xs, rfl, .inl (SqL.of hL), B, L, ns, _, rfl, hB, by omega, by omega, fun r H' r0 r1 s' hB' => ?_⟩
    have hlt : r.toNat < xs.length := by omega
    refine ⟨a, xs, r, xs[r.toNat], rfl, rfl, SqL.of (s' _ _ ha hL), ?_, q r.toNat _ _ (List.getElem?_eq_getElem hlt) s' hB'⟩
    have := atI_nat (List.getElem?_eq_getElem hlt)
    rw [show ((r.toNat : Nat) : Int) = r by omega] at this
    exact this
end
end K69

/-! ## K2 -/
namespace K69
open PySem PySem.Spec PyProof.Rows L2
theorem BagAt.ne {B L D : Addr} {ns : List Int} {H : Hp} (b : BagAt B L ns H) (h : H D = none) : B ≠ D := by
  obtain ⟨i, c, z, k, e, _⟩ := b
  exact ne_of_none e h
theorem BagAt.lst {B L : Addr} {ns : List Int} {H : Hp} (b : BagAt B L ns H) : L ≠ B ∧ H L = some (.lst (ns.map V.int)) := by
  obtain ⟨i, c, z, k, _, e, n, _⟩ := b
  exact ⟨n, e⟩
/-- the bag stays where it is not written -/
theorem BagAt.upd {B L D : Addr} {ns : List Int} {H : Hp} {o : HO} (b : BagAt B L ns H) (h1 : B ≠ D) (h2 : L ≠ D) : BagAt B L ns (L2.upd H D o) := by
  obtain ⟨i, c, z, k, e, e2, r⟩ := b
  exact ⟨i, c, z, k, by rw [upd_ne h1]; exact e, by rw [upd_ne h2]; exact e2, r⟩
section
variable {K : PySem.W.Frag} {J : It} {g : TG} {te : TE} {vs : List Nat} {σ : L2.St} {H1 : Hp} {D : Addr} {Qd : Hp → Prop} {n : Nat} {B L : Addr} {ns : List Int}
/-- a comprehension whose items draw from the bag -/
theorem lcB (Y : Nat → V → Hp → Prop) (mono : ∀ i y H H', (∀ b o, b ≠ B → b ≠ D → H b = some o → H' b = some o) → Y i y H → Y i y H') (hB : BagAt B L ns H1) (hD : H1 D = none) (hz : n ≤ 1000) (hgo : ∀ (i : Nat) (H : Hp), i < n → Sb B H1 H → J.go i H) (hst : ∀ H, Sb B H1 H → J.stop n H)
    (hs : ∀ (i : Nat) (v : V) (H H2 : Hp), i < n → Sb B H1 H → BagAt B L ns H → (∃ acc, H D = some (.lst acc)) → J.yld i H v H2 → Same H H2 ∧ ∀ A : V → Hp → Prop, (∀ y H4, Sb B H2 H4 → BagAt B L ns H4 → Y i y H4 → A y H4) → g v (wipe σ vs) H2 fun σ2 H3 => wipe σ2 vs = wipe σ vs ∧ te σ2 H3 A)
    (hd : ∀ H acc, Sb B H1 H → BagAt B L ns H → H D = some (.lst acc) → acc.length = n → (∀ (j : Nat) y, acc[j]? = some y → Y j y H) → Qd H) :
    ∃ W : Nat → Nat → Hp → Prop, (∃ m, W 0 m (upd H1 D (.lst []))) ∧ ∀ i m H, W i m H →
      (J.stop i H ∧ Qd H) ∨ (J.go i H ∧ ∃ Nx : Hp → Prop, (∀ H', Nx H' → ∃ m', m' < m ∧ W (i + 1) m' H') ∧ ∀ x H', J.yld i H x H' → g x (wipe σ vs) H' fun σ2 H2 => wipe σ2 vs = wipe σ vs ∧ tYes σ2 H2 fun b H3 =>
        if b = true then te σ2 H3 fun y H4 => ∃ acc, H4 D = some (.lst acc) ∧ acc.length < sizeLine ∧ Nx (upd H4 D (.lst (acc ++ [y]))) else Nx H3) := by
  have nB : D ≠ B := (hB.ne hD).symm
  have nL : L ≠ D := ne_of_none hB.lst.2 hD
  refine lcP (tt := tYes) (fun i acc H => Sb B H1 H ∧ BagAt B L ns H ∧ acc.length = i ∧ ∀ (j : Nat) y, acc[j]? = some y → Y j y H) hz ⟨Sb.of (same_upd hD), hB.same (same_upd hD), rfl, fun j y h => by simp at h⟩ (fun i acc H hi p => hgo i H hi p.1) (fun acc H p => hst H p.1)
    (fun i acc v H H2 hi eD el p y A C hA hC => ?_) (fun acc H eD el p => hd H acc p.1 p.2.1 eD p.2.2.1 p.2.2.2)
  obtain ⟨s, hb, e, hY⟩ := p
  obtain ⟨s2, k⟩ := hs i v H H2 hi s hb ⟨acc, eD⟩ y
  refine lc_yes (k _ fun y H4 s4 hb4 hy => hA y H4 (s4 _ _ nB (s2 _ _ eD)) ⟨fun b o nb eb => ?_, hb4.upd (hB.ne hD) nL, by simp [e], fun j z hj => ?_⟩)
  · rw [upd_ne (ne_of_none eb hD)]
    exact s4 _ _ nb (s2 _ _ (s _ _ nb eb))
  · have up : ∀ b o, b ≠ B → b ≠ D → H4 b = some o → (upd H4 D (.lst (acc ++ [y]))) b = some o := fun b o _ nd eb => by
      rw [upd_ne nd]
      exact eb
    by_cases hj2 : j < acc.length
    · rw [List.getElem?_append_left hj2] at hj
      exact mono _ _ _ _ (fun b o n1 n2 eb => up b o n1 n2 (s4 _ _ n1 (s2 _ _ eb))) (hY j z hj)
    · rw [List.getElem?_append_right (by omega)] at hj
      have ej : j = acc.length := by
        have := (List.getElem?_eq_some_iff.mp hj).1
        simp at this
        omega
      subst ej
      simp at hj
      rw [← hj, e]
      exact mono _ _ _ _ up hy
end
/-- the items are whole numbers that are so -/
theorem ints_mk {acc : List V} {n : Nat} {R : Nat → Int → Prop} (hl : acc.length = n) (h : ∀ (j : Nat) y, acc[j]? = some y → ∃ x : Int, y = .int x ∧ R j x) : ∃ ns : List Int, acc = ns.map V.int ∧ ns.length = n ∧ ∀ (j : Nat) x, ns[j]? = some x → R j x := by
  induction acc generalizing n R with
  | nil => exact ⟨[], rfl, by simpa using hl, fun j x h => by simp at h⟩
  | cons v r ih =>
    obtain ⟨x, rfl, hx⟩ := h 0 v rfl
    obtain ⟨ns, e, el, hr⟩ := ih (n := n - 1) (R := fun j => R (j + 1)) (by simp at hl; omega) (fun j y hy => h (j + 1) y (by simpa using hy))
    refine ⟨x :: ns, by rw [e]; rfl, by simp at hl ⊢; omega, fun j z hz => ?_⟩
    cases j with
    | zero => cases hz; exact hx
    | succ j => exact hr j z (by simpa using hz)
/-- the items are vectors that are so -/
theorem vecs_mk {B : Addr} {H : Hp} {acc : List V} {n : Nat} {R : Nat → List Int → Prop} (hl : acc.length = n) (h : ∀ (j : Nat) y, acc[j]? = some y → ∃ v, At B H y (dV v) ∧ R j v) : ∃ vc : List (List Int), AtAll B H acc (vc.map dV) ∧ vc.length = n ∧ ∀ (j : Nat) v, vc[j]? = some v → R j v := by
  induction acc generalizing n R with
  | nil => exact ⟨[], .nil, by simpa using hl, fun j x h => by simp at h⟩
  | cons v r ih =>
    obtain ⟨x, ha, hx⟩ := h 0 v rfl
    obtain ⟨ns, e, el, hr⟩ := ih (n := n - 1) (R := fun j => R (j + 1)) (by simp at hl; omega) (fun j y hy => h (j + 1) y (by simpa using hy))
    refine ⟨x :: ns, .cons ha e, by simp at hl ⊢; omega, fun j z hz => ?_⟩
    cases j with
    | zero => cases hz; exact hx
    | succ j => exact hr j z (by simpa using hz)
/-- a vector that is new, off the list at D -/
def VecY (B D : Addr) (R : Nat → List Int → Prop) (j : Nat) (y : V) (H : Hp) : Prop := ∃ (a : Addr) (v : List Int), y = .ref a ∧ a ≠ B ∧ a ≠ D ∧ H a = some (.tup (v.map V.int)) ∧ R j v
theorem VecY.mono {B D : Addr} {R : Nat → List Int → Prop} (i : Nat) (y : V) (H H' : Hp) (k : ∀ b o, b ≠ B → b ≠ D → H b = some o → H' b = some o) (h : VecY B D R i y H) : VecY B D R i y H' := by
  obtain ⟨a, v, e, n1, n2, e2, r⟩ := h
  exact ⟨a, v, e, n1, n2, k _ _ n1 n2 e2, r⟩
theorem VecY.at {B D : Addr} {R : Nat → List Int → Prop} {i : Nat} {y : V} {H : Hp} (h : VecY B D R i y H) : ∃ v, At B H y (dV v) ∧ R i v := by
  obtain ⟨a, v, e, n1, n2, e2, r⟩ := h
  subst e
  exact ⟨v, vecAt n1 e2, r⟩
theorem upd_eq {H : Hp} {a : Addr} {o : HO} : upd H a o a = some o := upd_same
theorem sq_at {B : Addr} {H : Hp} {x : V} {v : List Int} (h : At B H x (dV v)) : ∃ a, x = .ref a ∧ a ≠ B ∧ H a = some (.tup (v.map V.int)) := h.vec
theorem canInts : ∀ ns : List Int, PyData.canLayAll0 (ns.map PyData.int) = true
  | [] => rfl
  | _ :: ns => canInts ns
theorem depInts : ∀ ns : List Int, PyData.depthAll (ns.map PyData.int) = 0
  | [] => rfl
  | _ :: ns => by
    show max 0 (PyData.depthAll (ns.map PyData.int)) = 0
    rw [depInts ns]
    rfl
theorem eqvInts : ∀ ns : List Int, PyData.eqvAll (ns.map PyData.int) (ns.map PyData.int) = true
  | [] => rfl
  | n :: ns => by
    show (n == n && PyData.eqvAll (ns.map PyData.int) (ns.map PyData.int)) = true
    rw [eqvInts ns]
    simp
theorem shI (ns : List Int) : PySem.SeqAt.shaped (.list (ns.map PyData.int)) = true := by
  unfold PySem.SeqAt.shaped
  have h1 : PyData.canLay0 (.list (ns.map PyData.int)) = true := canInts ns
  have h2 : PyData.depth (.list (ns.map PyData.int)) = 1 := by
    show PyData.depthAll (ns.map PyData.int) + 1 = 1
    rw [depInts]
  rw [h1, h2]
  rfl
theorem eqvI (ns : List Int) : PyData.eqv (.list (ns.map PyData.int)) (.list (ns.map PyData.int)) = true := eqvInts ns
end K69

/-! ## K3 -/
namespace K69
open PySem PySem.Spec PyProof.Rows L2
section
variable {P : Program} {w : World} {K : PySem.W.Frag} {mg : Str → Option Value} {base : Heap}
/-! ### _law_dot -/
abbrev sDot : Stmt := topS 34
abbrev nDot : List Str := ["_law_one", "_law_other", "_law_x", "_law_y"]
theorem scDot : FnScope nDot ["_law_one", "_law_other"] (defScope sDot) := ⟨rfl, rfl, rfl, by decide +kernel, rfl, by decide +kernel, by decide +kernel⟩
def spDot : Sp := fun vs H Q _ => ∃ (a b : Addr) (xs ys : List Int), vs = [.ref a, .ref b] ∧ H a = some (.tup (xs.map V.int)) ∧ H b = some (.tup (ys.map V.int)) ∧ xs.length = ys.length ∧ xs.length ≤ 1000 ∧ (∀ i : Nat, i < xs.length → Sm (xs.getD i 0)) ∧ (∀ i : Nat, i < ys.length → Sm (ys.getD i 0)) ∧
  ∀ H', Same H H' → Q (.int (dotM xs ys)) H'
theorem ok_dot {f : Addr} {fd : FuncData} {k : Nat} (F : Fun K "_law_dot" "_law_dot" sDot f fd) (T : Tx K mg) : FnOk P w K mg base CX0 (k + 1) f fd ["_law_one", "_law_other"] spDot := by
  refine F.ok scDot (fun vs H Q E h => ?_) (fun cdv A outer s H vs Q E hr h => ?_)
  · obtain ⟨a, b, xs, ys, rfl, _⟩ := h
    rfl
  · obtain ⟨a, b, xs, ys, rfl, ha, hb, hl, hz, b1, b2, q⟩ := h
    refine ⟨_, pss_one (ps_ret (pe_sum T (pe_lc (own := [("_law_x", 2), ("_law_y", 3)]) (g := gTup K 2 (gCons (gName 2) (gCons (gName 3) gNil))) (tt := tYes) rfl scDot.nd (RZ.pi_zipA (by rfl) T.zip (pa_cons (pv 0) (pa_cons (pv 1) pa_nil))) (blkOk_by (N := nDot) (sc := defScope sDot) (by decide +kernel))
        (fun _ _ _ _ _ => pg_tup rfl (pgs_cons (pg_name (i := 2) scDot.nd rfl (.inl rfl) (.inr rfl)) (pgs_cons (pg_name (i := 3) scDot.nd rfl (.inl rfl) (.inr rfl)) pgs_nil))) (fun _ _ _ _ _ => pts_nil)
        (fun _ _ _ _ _ => pe_op op_mulW (pv 2) (pv 3))))), ?_⟩
    have hx : ∀ H', Same H H' → SqT K H' a (xs.map V.int) := fun H' s => SqT.of (s _ _ ha)
    have hy : ∀ H', Same H H' → SqT K H' b (ys.map V.int) := fun H' s => SqT.of (s _ _ hb)
    refine ⟨.ref a, rfl, .ref b, rfl, a, b, _, _, rfl, .inr ⟨hx _ (Same.refl _), hy _ (Same.refl _), fun D hD => ?_⟩⟩
    refine lcV (n := xs.length) ((List.zipWith (fun x y => x * y) xs ys).map V.int) hD (by simp [hl]) hz (fun i H' hi s => itzT_go hx hy i H' (by simpa using hi) (by simpa [← hl] using hi) s) (fun H' s => ⟨_, _, hx _ s, hy _ s, .inl (by simp)⟩)
      (fun i v H' H2 hi s y => ?_) (fun H' s e => ⟨D, _, rfl, SqL.of e, q _ s⟩)
    obtain ⟨Tp, x, z, rfl, hT, rfl, ex, ez⟩ := itzT_yld hx hy s y
    rw [get_int hi] at ex
    rw [get_int (show i < ys.length by omega)] at ez
    have ix := (Option.some.inj ex).symm
    have iz := (Option.some.inj ez).symm
    subst ix iz
    refine ⟨same_upd hT, fun A hA => ?_⟩
    refine ⟨Tp, _, rfl, SqT.of upd_same, rfl, _, _, rfl, _, _, rfl, rfl, rfl, ?_⟩
    refine ⟨_, rfl, _, rfl, _, _, rfl, rfl, wide_mul (a := 300) (b := 300) (b1 i hi) (b2 i (by omega)) (by decide) (by decide) (by decide), hA _ _ (Same.refl _) ?_⟩
    rw [get_int (by simp [← hl]; omega), zipWith_getD (by omega) (by omega)]
/-! ### _law_less -/
abbrev sLess : Stmt := topS 38
abbrev nLess : List Str := ["_law_one", "_law_x"]
theorem scLess : FnScope nLess ["_law_one"] (defScope sLess) := ⟨rfl, rfl, rfl, by decide +kernel, rfl, by decide +kernel, by decide +kernel⟩
def spLess : Sp := fun vs H Q _ => ∃ (a : Addr) (xs : List Int), vs = [.ref a] ∧ H a = some (.tup (xs.map V.int)) ∧ xs.length ≤ 1000 ∧ ∀ H' t, Same H H' → H t = none → H' t = some (.tup ((xs.map fun x => -x).map V.int)) → Q (.ref t) H'
theorem ok_less {f : Addr} {fd : FuncData} {k : Nat} (F : Fun K "_law_less" "_law_less" sLess f fd) (T : Tx K mg) : FnOk P w K mg base CX0 (k + 1) f fd ["_law_one"] spLess := by
  refine F.ok scLess (fun vs H Q E h => ?_) (fun cdv A outer s H vs Q E hr h => ?_)
  · obtain ⟨a, xs, rfl, _⟩ := h
    rfl
  · obtain ⟨a, xs, rfl, ha, hz, q⟩ := h
    refine ⟨_, pss_one (ps_ret (pe_tupO T (pe_lc (own := [("_law_x", 1)]) (g := gName 1) (tt := tYes) rfl scLess.nd (pi_tup (pv 0)) (blkOk_by (N := nLess) (sc := defScope sLess) (by decide +kernel)) (fun _ _ _ _ _ => pg_name (i := 1) scLess.nd rfl (Or.inl rfl)) (fun _ _ _ _ _ => pts_nil)
        (fun _ _ _ _ _ => pe_un un_neg (pv 1))))), ?_⟩
    refine ⟨.ref a, rfl, a, rfl, ⟨_, SqT.of ha⟩, fun D hD => lcm_tup (xs := xs.map V.int) (ys := (xs.map fun x => -x).map V.int) (SqT.of ha) (fun H' s => SqT.of (s _ _ ha)) hD (by simp) (by simpa using hz) (fun i y H2 hy s A hA => ?_) (fun H2 s eD => ?_)⟩
    · rw [List.getElem?_map] at hy
      obtain ⟨z, h1, rfl⟩ := Option.map_eq_some_iff.mp hy
      refine ⟨rfl, .int z, rfl, z, rfl, hA _ _ ?_ (Same.refl _)⟩
      rw [List.getElem?_map, List.getElem?_map, h1]
      rfl
    · refine ⟨D, _, rfl, .inl ⟨SqL.of eD, fun t ht => q _ t (s.trans (same_upd ht)) (s.free ht) upd_same⟩⟩
theorem un64 {k : Nat} {A : Around} (r : Room k A) : A.units + 64 < cLine := by have := r.un; omega
/-! ### _law_vector -/
abbrev sVct : Stmt := topS 37
abbrev nVct : List Str := ["_law_bag", "_law_wide", "_law_top", "_law_one", "_law_k"]
theorem scVct : FnScope nVct ["_law_bag", "_law_wide"] (defScope sVct) := ⟨rfl, rfl, rfl, by decide +kernel, rfl, by decide +kernel, by decide +kernel⟩
def NZ (v : List Int) : Prop := ∃ x ∈ v, x ≠ 0
/-- what _law_vector makes -/
def VecOk (wd : Nat) (v : List Int) : Prop := v.length = wd ∧ (∀ x ∈ v, x.natAbs ≤ 999999999) ∧ NZ v
def spVct : Sp := fun vs H Q _ => ∃ (B L : Addr) (ns : List Int) (wd : Nat), vs = [.ref B, .int (wd : Nat)] ∧ BagAt B L ns H ∧ 0 < wd ∧ wd ≤ 7 ∧ ∀ (v : List Int) (H' : Hp) (t : Addr), VecOk wd v → Sb B H H' → BagAt B L ns H' → H t = none → t ≠ B → H' t = some (.tup (v.map V.int)) → Q (.ref t) H'
theorem set_mem {v : List Int} {i : Nat} {y x : Int} (h : x ∈ v.set i y) : x ∈ v ∨ x = y := by
  rcases List.mem_or_eq_of_mem_set h with a | a
  · exact .inl a
  · exact .inr a
theorem mem_set' {v : List Int} {i : Nat} {y : Int} (h : i < v.length) : y ∈ v.set i y := List.mem_iff_getElem.mpr ⟨i, by simpa using h, by simp⟩
theorem rep_of {v : List Int} {n : Nat} (hl : v.length = n) (h : ¬ NZ v) : v = List.replicate n 0 := by
  refine List.eq_replicate_iff.mpr ⟨hl, fun x hx => ?_⟩
  by_cases e : x = 0
  · exact e
  · exact absurd ⟨x, hx, e⟩ h
theorem ok_vct {f : Addr} {fd : FuncData} (F : Fun K "_law_vector" "_law_vector" sVct f fd) (T : Tx K mg) (D1 : Df P w K mg base 1 "_law_pull" ["_law_bag", "_law_sides"] spPull) (D2 : Df P w K mg base 2 "_law_any" ["_law_bag", "_law_items"] spAny) :
    FnOk P w K mg base CX0 3 f fd ["_law_bag", "_law_wide"] spVct := by
  refine F.ok scVct (fun vs H Q E h => ?_) (fun cdv A outer s H vs Q E hr h => ?_)
  · obtain ⟨B, L, ns, wd, rfl, _⟩ := h
    rfl
  · obtain ⟨B, L, ns, wd, rfl, hB, h0, h7, q⟩ := h
    refine pss_cut (fun σ' H' => ∃ t : Int, σ' = [some (.ref B), some (.int (wd : Nat)), some (.int t), none, none] ∧ 0 ≤ t ∧ t ≤ 999999999 ∧ Sb B H H' ∧ BagAt B L ns H')
      (ps_set (i := 2) scVct.nd rfl (.inr rfl) (pe_d D2 hr (by rfl) (pa_cons (pv 0) (pa_cons (pe_lst (pa_cons pe_int (pa_cons pe_int (pa_cons pe_int (pa_cons pe_int (pa_cons pe_int (pa_cons pe_int (pa_cons pe_int (pa_cons pe_int pa_nil))))))))) pa_nil)))) ?_ ?_
    · refine ⟨.ref B, rfl, (by show 8 ≤ sizeLine; decide), fun l hl => ?_⟩
      refine ⟨B, L, ns, l, [.int 3, .int 2, .int 1, .int 3, .int 9, .int 2, .int 1, .int 999999999], rfl, hB.same (same_upd hl), (hB.ne hl).symm, upd_same, by decide, by decide, fun j x H' hj s' hB' => ?_⟩
      have s2 := (Sb.of (same_upd (o := .lst [.int 3, .int 2, .int 1, .int 3, .int 9, .int 2, .int 1, .int 999999999]) hl)).trans s'
      match j, hj with
      | 0, hj => cases hj; exact ⟨3, rfl, by decide, by decide, s2, hB'⟩
      | 1, hj => cases hj; exact ⟨2, rfl, by decide, by decide, s2, hB'⟩
      | 2, hj => cases hj; exact ⟨1, rfl, by decide, by decide, s2, hB'⟩
      | 3, hj => cases hj; exact ⟨3, rfl, by decide, by decide, s2, hB'⟩
      | 4, hj => cases hj; exact ⟨9, rfl, by decide, by decide, s2, hB'⟩
      | 5, hj => cases hj; exact ⟨2, rfl, by decide, by decide, s2, hB'⟩
      | 6, hj => cases hj; exact ⟨1, rfl, by decide, by decide, s2, hB'⟩
      | 7, hj => cases hj; exact ⟨999999999, rfl, by decide, by decide, s2, hB'⟩
      | j + 8, hj => simp at hj
    · rintro σ' H1 ⟨t, rfl, t0, t1, s1, hB1⟩
      refine pss_cut (fun σ' H' => ∃ (v : List Int) (o : Addr), σ' = [some (.ref B), some (.int (wd : Nat)), some (.int t), some (.ref o), none] ∧ v.length = wd ∧ (∀ x ∈ v, x.natAbs ≤ 999999999) ∧ Sb B H H' ∧ BagAt B L ns H' ∧ o ≠ B ∧ H o = none ∧ L ≠ o ∧ LsI H' o v)
        (ps_setLc (i := 3) (own := [("_law_k", 4)]) (g := gName 4) (tt := tYes) rfl scVct.nd rfl rfl (sw_true rfl rfl rfl (by decide +kernel)) (pi_range1 (by rfl) T.range (pa_cons (pv 1) pa_nil)) (blkOk_by (N := nVct) (sc := defScope sVct) (by decide +kernel)) (fun _ _ _ _ _ => pg_name (i := 4) scVct.nd rfl (Or.inl rfl)) (fun _ _ _ _ _ => pts_nil)
          (fun _ _ _ _ _ => pe_op op_sub (pe_d (j := 2) D1 hr (by rfl) (pa_cons (pv 0) (pa_cons (pe_op op_add (pe_op op_mul pe_int (pv 2)) pe_int) pa_nil))) (pv 2))) ?_ ?_
      · refine ⟨.int (wd : Nat), rfl, (wd : Nat), rfl, by omega, by omega, fun D hD => lcB (B := B) (L := L) (ns := ns) (n := wd) (fun _ y _ => ∃ x : Int, y = .int x ∧ x.natAbs ≤ 999999999) (fun _ _ _ _ _ h => h) hB1 hD (by omega) (fun i H' hi _ => hi) (fun H' _ => Nat.le_refl _) (fun i v H' H2 hi s' hB' _ y => ?_) (fun H' acc s' hB' eD el hY => ?_)⟩
        · obtain ⟨rfl, rfl⟩ := y
          refine ⟨Same.refl _, fun A hA => ⟨rfl, .ref B, rfl, .int t, rfl, 2, t, rfl, rfl, .inl ⟨by decide, by decide⟩, _, _, rfl, rfl, B, L, ns, 2 * t + 1, rfl, hB', by omega, by omega, fun r H3 r0 r1 s3 hB3 => ?_⟩⟩
          exact ⟨.int t, rfl, r, t, rfl, rfl, hA _ _ s3 hB3 ⟨_, rfl, by omega⟩⟩
        · obtain ⟨v, rfl, lv, hv⟩ := ints_mk (R := fun _ x => x.natAbs ≤ 999999999) el hY
          refine ⟨v, D, rfl, lv, fun x hx => ?_, s1.trans s', hB', (hB1.ne hD).symm, ?_, ne_of_none hB1.lst.2 hD, eD⟩
          · obtain ⟨j, hj, e⟩ := List.mem_iff_getElem.mp hx
            exact hv j x (by rw [List.getElem?_eq_getElem hj, e])
          · cases e : H D with
            | none => rfl
            | some o =>
              have := s1 _ _ (hB1.ne hD).symm e
              rw [hD] at this
              cases this
      · rintro σ' H2 ⟨v, o, rfl, lv, hv, s2, hB2, no, ho, nLo, eo⟩
        refine pss_cut (fun σ' H' => ∃ v : List Int, σ' = [some (.ref B), some (.int (wd : Nat)), some (.int t), some (.ref o), none] ∧ VecOk wd v ∧ Sb B H H' ∧ BagAt B L ns H' ∧ LsI H' o v)
          (ps_if (pt_cmpR (op_eqD (un64 hr)) (pv 3) (pe_op op_rep (pe_lst (pa_cons pe_int pa_nil)) (pv 1)) (nomark _))
            (pss_one (ps_asg (pe_d D2 hr (by rfl) (pa_cons (pv 0) (pa_cons (pe_lst (pa_cons pe_int (pa_cons (pe_un un_neg pe_int) pa_nil))) pa_nil))) (pg_sub (pv 3) (pe_d (j := 2) D1 hr (by rfl) (pa_cons (pv 0) (pa_cons (pv 1) pa_nil))) set_list))) pss_nil) ?_ ?_
        · refine ⟨.ref o, rfl, (by show 1 ≤ sizeLine; decide), fun l0 hl0 => ?_⟩
          have s3 := same_upd (o := .lst [V.int 0]) hl0
          refine ⟨.int (wd : Nat), rfl, l0, (wd : Nat), [V.int 0], rfl, rfl, upd_same, by omega, by omega, ?_, fun z hz => ?_⟩
          · show 1 * ((wd : Nat) : Int).toNat ≤ sizeLine
            exact Nat.le_of_lt (small1000 (by omega))
          have e0 : (List.replicate ((wd : Nat) : Int).toNat [V.int 0]).flatten = (List.replicate wd (0 : Int)).map V.int := by
            rw [Int.toNat_natCast, rep_flat, List.map_replicate]
          rw [e0]
          have s4 := s3.trans (same_upd (o := .lst ((List.replicate wd (0 : Int)).map V.int)) hz)
          have ez : (upd (upd H2 l0 (.lst [V.int 0])) z (.lst ((List.replicate wd (0 : Int)).map V.int))) z = some (.lst ((List.replicate wd (0 : Int)).map V.int)) := upd_same
          generalize upd (upd H2 l0 (.lst [V.int 0])) z (.lst ((List.replicate wd (0 : Int)).map V.int)) = H3 at *
          have dI : ∀ (ms : List Int), DpAll K H3 (ms.map V.int) (ms.map PyData.int) := fun ms => (atInts (B := B) (H := H3) ms).dp
          refine ⟨.list (v.map .int), .list ((List.replicate wd (0 : Int)).map .int), .lst (SqL.of (s4 _ _ eo)) (dI v), .lst (SqL.of ez) (dI _), shI _, shI _, _, rfl, ?_⟩
          have sH3 := s2.trans (Sb.of s4)
          have hB3 := hB2.same s4
          cases hq : PyData.eqv (.list (v.map .int)) (.list ((List.replicate wd (0 : Int)).map .int)) with
          | true =>
            refine iteT ⟨.ref B, rfl, 1, rfl, (by show 2 ≤ sizeLine; decide), fun l hl => ?_⟩
            have s5 := same_upd (o := .lst [V.int 1, V.int (-1)]) hl
            refine ⟨B, L, ns, l, [.int 1, .int (-1)], rfl, hB3.same s5, (hB3.ne hl).symm, upd_same, by decide, by decide, fun j x H4 hj s6 hB4 => ?_⟩
            have hx : ∃ y : Int, x = .int y ∧ y.natAbs ≤ 999999999 ∧ y ≠ 0 := by
              match j, hj with
              | 0, hj => cases hj; exact ⟨1, rfl, by decide, by decide⟩
              | 1, hj => cases hj; exact ⟨-1, rfl, by decide, by decide⟩
              | j + 2, hj => simp at hj
            obtain ⟨y, rfl, y1, y2⟩ := hx
            refine ⟨.ref o, rfl, .ref B, rfl, .int (wd : Nat), rfl, B, L, ns, (wd : Nat), rfl, hB4, by omega, by omega, fun r H5 r0 r1 s7 hB5 => ?_⟩
            have s67 := (Sb.of s5).trans (s6.trans s7)
            have eo5 : LsI H5 o v := s67 _ _ no (s4 _ _ eo)
            refine ⟨o, v.map V.int, r, r.toNat, rfl, rfl, eo5, ?_, ?_⟩
            · rw [List.length_map, show r = ((r.toNat : Nat) : Int) by omega]
              exact ixN_nat (by omega)
            · rw [set_int]
              refine ⟨v.set r.toNat y, rfl, ⟨by simpa using lv, fun x hx => ?_, y, mem_set' (by omega), y2⟩, (fun b ob nb e => by rw [upd_ne (ne_of_none e ho)]; exact (sH3.trans s67) b ob nb e), hB5.upd (fun z => no z.symm) nLo, upd_same⟩
              · rcases set_mem hx with h | h
                · exact hv x h
                · rw [h]; exact y1
          | false =>
            refine iteF ⟨v, rfl, ⟨lv, hv, ?_⟩, sH3, hB3, s4 _ _ eo⟩
            by_cases nz : NZ v
            · exact nz
            · rw [rep_of lv nz, eqvI] at hq
              cases hq
        · rintro σ' H3 ⟨v, rfl, ok, s3, hB3, eo3⟩
          refine pss_fin (ps_ret (pe_tupO T (pv 3))) ⟨.ref o, rfl, o, _, rfl, .inl ⟨SqL.of eo3, fun t ht => ?_⟩⟩
          have st := same_upd (o := .tup (v.map V.int)) ht
          refine q v _ t ok (s3.trans (Sb.of st)) (hB3.same st) ?_ (hB3.ne ht).symm upd_same
          cases e : H t with
          | none => rfl
          | some o' =>
            have := s3 _ _ (hB3.ne ht).symm e
            rw [ht] at this
            cases this
end
end K69

/-! ## K4 -/
namespace K69
open PySem PySem.Spec PyProof.Rows L2
/-! ### parts of the text -/
def noE : Expr := .Constant .none 0 ⟨0, 0, 0, 0⟩
def lcScope : Expr → Scope
  | .ListComp _ _ sc _ => sc
  | _ => { kind := .function, names := [], isGenerator := false, isCoroutine := false }
def asgV : Stmt → Expr
  | .Assign _ v _ => v
  | .Return (some v) _ => v
  | _ => noE
def ifBody : Stmt → List Stmt
  | .If _ b _ _ => b
  | _ => []
def argE (i : Nat) : Expr → Expr
  | .Call _ es _ _ => es.getD i noE
  | _ => noE
theorem fresh_back {B D : Addr} {H H' : Hp} (s : Sb B H H') (n : D ≠ B) (h : H' D = none) : H D = none := by
  cases e : H D with
  | none => rfl
  | some o =>
    have := s _ _ n e
    rw [h] at this
    cases this
section
variable {P : Program} {w : World} {K : PySem.W.Frag} {mg : Str → Option Value} {base : Heap}
/-! ### _law_mixed -/
abbrev sMix : Stmt := topS 25
abbrev nMix : List Str := ["_law_bag", "_law_items", "_law_found", "_law_item"]
theorem scMix : FnScope nMix ["_law_bag", "_law_items"] (defScope sMix) := ⟨rfl, rfl, rfl, by decide +kernel, rfl, by decide +kernel, by decide +kernel⟩
def spMix : Sp := fun vs H Q _ => ∃ (B L : Addr) (ns : List Int) (a : Addr) (xs : List V), vs = [.ref B, .ref a] ∧ BagAt B L ns H ∧ a ≠ B ∧ H a = some (.lst xs) ∧ xs.length ≤ 100 ∧
  ∀ (ys : List V) (H' : Hp) (t : Addr), (∀ y, y ∈ ys ↔ y ∈ xs) → ys.length = xs.length → Sb B H H' → BagAt B L ns H' → t ≠ B → H t = none → H' t = some (.lst ys) → Q (.ref t) H'
theorem mem_ins {ys : List V} {i : Nat} {z y : V} : y ∈ ys.take i ++ [z] ++ ys.drop i ↔ y ∈ ys ∨ y = z := by
  have h : y ∈ ys ↔ y ∈ ys.take i ∨ y ∈ ys.drop i := by
    rw [← List.mem_append, List.take_append_drop]
  rw [h, List.mem_append, List.mem_append, List.mem_singleton]
  constructor
  · rintro ((a | a) | a)
    · exact .inl (.inl a)
    · exact .inr a
    · exact .inl (.inr a)
  · rintro ((a | a) | a)
    · exact .inl (.inl a)
    · exact .inr a
    · exact .inl (.inr a)
theorem len_ins {ys : List V} {i : Nat} {z : V} : (ys.take i ++ [z] ++ ys.drop i).length = ys.length + 1 := by
  have h : ys.length = (ys.take i ++ ys.drop i).length := by rw [List.take_append_drop]
  rw [h]
  simp only [List.length_append, List.length_singleton]
  omega
theorem ok_mix {f : Addr} {fd : FuncData} (F : Fun K "_law_mixed" "_law_mixed" sMix f fd) (T : Tx K mg) (D1 : Df P w K mg base 1 "_law_pull" ["_law_bag", "_law_sides"] spPull) : FnOk P w K mg base CX0 2 f fd ["_law_bag", "_law_items"] spMix := by
  refine F.ok scMix (fun vs H Q E h => ?_) (fun cdv A outer s H vs Q E hr h => ?_)
  · obtain ⟨B, L, ns, a, xs, rfl, _⟩ := h
    rfl
  · obtain ⟨B, L, ns, a, xs, rfl, hB, na, ha, hz, q⟩ := h
    refine ⟨_, pss_cons (ps_set (i := 2) scMix.nd rfl (.inl rfl) (pe_lst pa_nil))
      (pss_cons (ps_for PassesOwn.never rfl (pi_list (pv 1)) (pg_name (i := 3) scMix.nd rfl (.inl rfl))
        (pss_one (ps_expr (pe_bm PySem.F.plainAttrs_list PySem.F.slot_list_insert PySem.F.type_list_insert mt_insert (pv 2) (pa_cons (pe_d D1 hr (by rfl) (pa_cons (pv 0) (pa_cons (pe_op op_add (pe_len T (pv 2)) pe_int) pa_nil))) (pa_cons (pv 3) pa_nil))))))
      (pss_one (ps_ret (pv 2)))), ?_⟩
    refine ⟨Nat.zero_le _, fun t ht => ?_⟩
    have s0 := same_upd (o := .lst []) ht
    have nt : t ≠ B := (hB.ne ht).symm
    have nL : L ≠ t := ne_of_none hB.lst.2 ht
    refine ⟨.ref a, rfl, a, rfl, ⟨xs, SqL.of (s0 _ _ ha)⟩, for_list (a := a) (xs := xs) (fun i σ H' => ∃ y3 ys, σ = [some (.ref B), some (.ref a), some (.ref t), y3] ∧ Sb B H H' ∧ BagAt B L ns H' ∧ H' t = some (.lst ys) ∧ ys.length = i ∧ ∀ y, y ∈ ys ↔ y ∈ xs.take i)
      ⟨none, [], rfl, Sb.of s0, hB.same s0, upd_same, rfl, fun y => by simp⟩ (fun i σ H' _ p => by obtain ⟨_, _, _, s, _⟩ := p; exact SqL.of (s _ _ na ha)) ?_ ?_⟩
    · intro i x σ H' hx p
      obtain ⟨y3, ys, rfl, s, hB', et, el, hm⟩ := p
      have hi := (List.getElem?_eq_some_iff.mp hx).1
      refine ⟨.ref t, rfl, .inl ⟨rfl, _, SqL.of et⟩, .ref B, rfl, .ref t, rfl, t, ys, rfl, .inl (SqL.of et), _, 1, rfl, rfl, B, L, ns, _, rfl, hB', by omega, by omega, fun r H2 r0 r1 s2 hB2 => ?_⟩
      refine ⟨x, rfl, t, ys, r, x, rfl, rfl, s2 _ _ nt et, small1000 (by omega), r0, by omega, ?_⟩
      refine ⟨_, _, rfl, fun b o nb e => ?_, hB2.upd nt.symm nL, upd_same, by rw [len_ins, el], fun y => ?_⟩
      · rw [upd_ne (ne_of_none e ht)]
        exact (s.trans s2) _ _ nb e
      · rw [mem_ins, hm, List.take_add_one, hx, List.mem_append]
        simp
    · intro σ H' p
      obtain ⟨y3, ys, rfl, s, hB', et, el, hm⟩ := p
      exact ⟨.ref t, rfl, q ys H' t (fun y => by rw [hm, List.take_length]) el s hB' nt ht et⟩
/-! ### _law_some -/
abbrev sSome : Stmt := topS 26
abbrev nSome : List Str := ["_law_bag", "_law_items", "_law_sides", "_law_item"]
theorem scSome : FnScope nSome ["_law_bag", "_law_items", "_law_sides"] (defScope sSome) := ⟨rfl, rfl, rfl, by decide +kernel, rfl, by decide +kernel, by decide +kernel⟩
def spSome : Sp := fun vs H Q _ => ∃ (B L : Addr) (ns : List Int) (a : Addr) (xs : List V) (d : Int), vs = [.ref B, .ref a, .int d] ∧ BagAt B L ns H ∧ a ≠ B ∧ H a = some (.lst xs) ∧ xs.length ≤ 100 ∧ 0 < d ∧ d < 2 ^ 62 ∧
  ∀ (ys : List V) (H' : Hp) (t : Addr), (∀ y, y ∈ ys → y ∈ xs) → ys.length ≤ xs.length → Sb B H H' → BagAt B L ns H' → t ≠ B → H t = none → H' t = some (.lst ys) → Q (.ref t) H'
theorem ok_some {f : Addr} {fd : FuncData} (F : Fun K "_law_some" "_law_some" sSome f fd) (T : Tx K mg) (D1 : Df P w K mg base 1 "_law_pull" ["_law_bag", "_law_sides"] spPull) : FnOk P w K mg base CX0 2 f fd ["_law_bag", "_law_items", "_law_sides"] spSome := by
  refine F.ok scSome (fun vs H Q E h => ?_) (fun cdv A outer s H vs Q E hr h => ?_)
  · obtain ⟨B, L, ns, a, xs, d, rfl, _⟩ := h
    rfl
  · obtain ⟨B, L, ns, a, xs, d, rfl, hB, na, ha, hz, hd, hd2, q⟩ := h
    refine ⟨_, pss_one (ps_ret (pe_lc (own := [("_law_item", 3)]) (g := gName 3) rfl scSome.nd (pi_list (pv 1)) (blkOk_by (N := nSome) (sc := defScope sSome) (by decide +kernel)) (fun _ _ _ _ _ => pg_name (i := 3) scSome.nd rfl (Or.inl rfl))
        (fun _ _ _ _ _ => pts_one (pt_cmpR op_gt (pe_d (j := 1) D1 hr (by rfl) (pa_cons (pv 0) (pa_cons (pv 2) pa_nil))) pe_int (nomark _))) (fun _ _ _ _ _ => pv 3))), ?_⟩
    refine ⟨.ref a, rfl, a, rfl, ⟨xs, SqL.of ha⟩, fun D hD => lcP (n := xs.length) (fun i acc H' => Sb B H H' ∧ BagAt B L ns H' ∧ ∀ y, y ∈ acc → y ∈ xs) (by omega) ⟨Sb.of (same_upd hD), hB.same (same_upd hD), fun y h => by simp at h⟩
      (fun i acc H' hi p => ⟨xs, xs[i], SqL.of (p.1 _ _ na ha), List.getElem?_eq_getElem hi⟩) (fun acc H' p => ⟨xs, SqL.of (p.1 _ _ na ha), Nat.le_refl _⟩) (fun i acc v H' H2 hi eD el p y A C hA hC => ?_) (fun acc H' eD el p => q acc H' D p.2.2 el p.1 p.2.1 (hB.ne hD).symm hD eD)⟩
    obtain ⟨s, hB', hm⟩ := p
    obtain ⟨rfl, y⟩ := y
    have hx := y _ (SqL.of (s _ _ na ha))
    have hv : v ∈ xs := List.mem_of_getElem? hx
    refine ⟨rfl, .ref B, rfl, .int d, rfl, B, L, ns, d, rfl, hB', hd, hd2, fun r H3 r0 r1 s3 hB3 => ⟨r, 0, rfl, rfl, _, rfl, ?_⟩⟩
    have eD3 := s3 _ _ (hB.ne hD).symm eD
    by_cases c : 0 < r
    · rw [decide_eq_true c]
      refine iteT ⟨v, rfl, hA v H3 eD3 ⟨fun b o nb e => ?_, hB3.upd (hB.ne hD) (ne_of_none hB.lst.2 hD), fun z hz => ?_⟩⟩
      · rw [upd_ne (ne_of_none e hD)]
        exact (s.trans s3) _ _ nb e
      · rcases List.mem_append.mp hz with h | h
        · exact hm z h
        · rw [List.mem_singleton.mp h]; exact hv
    · rw [decide_eq_false c]
      exact iteF (hC H3 eD3 ⟨s.trans s3, hB3, hm⟩)
end
end K69

/-! ## K5 -/
namespace K69
open PySem PySem.Spec PyProof.Rows L2
section
variable {X : Cx} {p1 p2 p3 pos : Pos}
theorem pe_max2 {a b : Expr} {ta tb : TE} (T : Tx X.K X.mg) (ha : PE X a ta) (hb : PE X b tb) (hc : X.calm = true := by rfl) (hg : Gl X "max" := by rfl) (he : starEach [a, b] X.env = (false, eval a X.env) :: starEach [b] X.env := by rfl) (he2 : starEach [b] X.env = (false, eval b X.env) :: starEach [] X.env := by rfl) :
    PE X (.Call (.Name "max" p1) [a, b] [] pos) (tCB (fun xs H Q => ∃ i j, xs = [.int i, .int j] ∧ Q (.int (if j > i then j else i)) H) (tCons ta (tCons tb tNil))) :=
  pe_callB (call_max2 hc) hg T.max (by decide +kernel) (pa_cons ha (pa_cons hb pa_nil he2) he) (by decide) (by decide) he (by rw [he2]; rfl)
theorem pe_min2 {a b : Expr} {ta tb : TE} (T : Tx X.K X.mg) (ha : PE X a ta) (hb : PE X b tb) (hc : X.calm = true := by rfl) (hg : Gl X "min" := by rfl) (he : starEach [a, b] X.env = (false, eval a X.env) :: starEach [b] X.env := by rfl) (he2 : starEach [b] X.env = (false, eval b X.env) :: starEach [] X.env := by rfl) :
    PE X (.Call (.Name "min" p1) [a, b] [] pos) (tCB (fun xs H Q => ∃ i j, xs = [.int i, .int j] ∧ Q (.int (if j < i then j else i)) H) (tCons ta (tCons tb tNil))) :=
  pe_callB (call_min2 hc) hg T.min (by decide +kernel) (pa_cons ha (pa_cons hb pa_nil he2) he) (by decide) (by decide) he (by rw [he2]; rfl)
end
/-! ### the same inside a comprehension: K told -/
section
variable {X : Cx} {K : PySem.W.Frag} {p1 p2 p3 pos : Pos}
theorem pe_tupOK (hK : X.K = K) {a : Expr} {ta : TE} (T : Tx K X.mg) (ha : PE X a ta) (hg : Gl X "tuple" := by rfl) (he : starEach [a] X.env = (false, eval a X.env) :: starEach [] X.env := by rfl) :
    PE X (.Call (.Name "tuple" p1) [a] [] pos) (tCB (fun xs H Q => ∃ p ys, xs = [.ref p] ∧ ((SqL K H p ys ∧ ∀ l, H l = none → Q (.ref l) (upd H l (.tup ys))) ∨ (SqT K H p ys ∧ Q (.ref p) H))) (tCons ta tNil)) := by
  subst hK
  exact pe_tupO T ha hg he
theorem pe_sumK (hK : X.K = K) {a : Expr} {ta : TE} (T : Tx K X.mg) (ha : PE X a ta) (hc : X.calm = true := by rfl) (hg : Gl X "sum" := by rfl) (he : starEach [a] X.env = (false, eval a X.env) :: starEach [] X.env := by rfl) :
    PE X (.Call (.Name "sum" p1) [a] [] pos) (tCB (rSum K) (tCons ta tNil)) := by
  subst hK
  exact pe_sum T ha hc hg he
theorem pi_tupK (hK : X.K = K) {tg l : Expr} {tl : TE} (hl : PE X l tl) : PI X tg l (iTup K tl) := by
  subst hK
  exact pi_tup hl
theorem pi_zipK (hK : X.K = K) {e e2 : Expr} {ta : TA} {p pos tpos : Pos} {elts : List Expr} {kk : Nat} (T : Tx K X.mg) (ha : PA X [e, e2] ta) (hg : Gl X "zip" := by rfl)
    (hs : starEach [e, e2] X.env = (false, eval e X.env) :: starEach [e2] X.env := by rfl) (hpl : (backTo pos (starEach [e2] X.env)).any (·.1) = false := by rfl) :
    PI X (.Tuple elts kk tpos) (.Call (.Name "zip" p) [e, e2] [] pos) (iZip K ta) := by
  subst hK
  exact pi_zip hg T.zip ha hs hpl
end
/-- max(-c, min(c, x)) -/
def clip (c x : Int) : Int := if (if x < c then x else c) > -c then (if x < c then x else c) else -c
theorem clip_le {c x : Int} (h : 0 ≤ c) : (clip c x).natAbs ≤ c.natAbs := by
  unfold clip
  split <;> split at * <;> omega
theorem clip_nz {c x : Int} (h : 0 < c) (hx : x ≠ 0) : clip c x ≠ 0 := by
  unfold clip
  split <;> split at * <;> omega
theorem clip_ok {wd : Nat} {c : Int} {v : List Int} (h0 : 0 < c) (h1 : c ≤ 9) (h : VecOk wd v) : VecOk wd (v.map (clip c)) := by
  obtain ⟨l, b, x, hx, nx⟩ := h
  refine ⟨by simpa using l, fun y hy => ?_, clip c x, List.mem_map_of_mem hx, clip_nz h0 nx⟩
  obtain ⟨z, _, rfl⟩ := List.mem_map.mp hy
  have := clip_le (c := c) (x := z) (by omega)
  omega
theorem neg_ok {wd : Nat} {v : List Int} (h : VecOk wd v) : VecOk wd (v.map fun x => -x) := by
  obtain ⟨l, b, x, hx, nx⟩ := h
  refine ⟨by simpa using l, fun y hy => ?_, -x, List.mem_map_of_mem hx, by omega⟩
  obtain ⟨z, hz, rfl⟩ := List.mem_map.mp hy
  have := b z hz
  omega
def GoodL (wd : Nat) (vc : List (List Int)) : Prop := ∀ v ∈ vc, VecOk wd v
theorem vec_get {B : Addr} {H : Hp} {xs : List V} {vc : List (List Int)} {i : Nat} {x : V} (h : AtAll B H xs (vc.map dV)) (hx : xs[i]? = some x) : ∃ v c, vc[i]? = some v ∧ x = .ref c ∧ c ≠ B ∧ H c = some (.tup (v.map V.int)) := by
  obtain ⟨d, h1, h2⟩ := h.getV hx
  rw [List.getElem?_map] at h1
  obtain ⟨v, e, rfl⟩ := Option.map_eq_some_iff.mp h1
  obtain ⟨c, e1, n, e2⟩ := h2.vec
  exact ⟨v, c, e, e1, n, e2⟩
theorem vecs_upd {B G : Addr} {H : Hp} {o : HO} {l : List V} : ∀ {xs : List V} {vc : List (List Int)}, AtAll B H xs (vc.map dV) → H G = some (.lst l) → AtAll B (upd H G o) xs (vc.map dV)
  | _, [], h, _ => by cases h; exact .nil
  | _, v :: vc, h, e => by
    cases h with
    | cons a r =>
      obtain ⟨c, rfl, n, ec⟩ := a.vec
      refine .cons (vecAt n ?_) (vecs_upd r e)
      rw [upd_ne (fun z => by rw [z, e] at ec; cases ec)]
      exact ec
theorem good_get {wd i : Nat} {vc : List (List Int)} {v : List Int} (g : GoodL wd vc) (h : vc[i]? = some v) : VecOk wd v := g v (List.mem_of_getElem? h)
theorem sm_of {xs : List Int} {c : Nat} (h : ∀ x ∈ xs, x.natAbs ≤ c) (hc : c ≤ 10 ^ 40) (i : Nat) (hi : i < xs.length) : Sm (xs.getD i 0) := by
  have := h _ (getD_mem' 0 hi)
  show _ < 2 ^ 300
  exact Nat.lt_of_le_of_lt (Nat.le_trans this hc) (by decide)
theorem sum_bound {b : Nat} : ∀ {ns : List Int}, (∀ x ∈ ns, x.natAbs ≤ b) → ns.sum.natAbs ≤ ns.length * b
  | [], _ => by simp
  | n :: ns, h => by
    have h1 := h n (by simp)
    have h2 := sum_bound (ns := ns) fun x hx => h x (by simp [hx])
    rw [List.sum_cons, List.length_cons, Nat.succ_mul]
    omega
theorem vecs_sub {B : Addr} {H : Hp} {xs ys : List V} {vc : List (List Int)} {n : Nat} {R : List Int → Prop} (h : AtAll B H xs (vc.map dV)) (hm : ∀ y ∈ ys, y ∈ xs) (hl : ys.length = n) (hR : ∀ v ∈ vc, R v) :
    ∃ vs : List (List Int), AtAll B H ys (vs.map dV) ∧ vs.length = n ∧ ∀ v ∈ vs, R v ∧ v ∈ vc := by
  obtain ⟨vs, h1, h2, h3⟩ := vecs_mk (B := B) (H := H) (acc := ys) (R := fun _ v => R v ∧ v ∈ vc) hl fun j y hy => by
    obtain ⟨i, hi, e⟩ := List.mem_iff_getElem.mp (hm y (List.mem_of_getElem? hy))
    obtain ⟨v, c, e1, e2, e3, e4⟩ := vec_get h (show xs[i]? = some y by rw [List.getElem?_eq_getElem hi, e])
    refine ⟨v, ?_, hR v (List.mem_of_getElem? e1), List.mem_of_getElem? e1⟩
    rw [e2]
    exact vecAt e3 e4
  refine ⟨vs, h1, h2, fun v hv => ?_⟩
  obtain ⟨j, hj, e⟩ := List.mem_iff_getElem.mp hv
  exact h3 j v (by rw [List.getElem?_eq_getElem hj, e])
section
variable {P : Program} {w : World} {K : PySem.W.Frag} {mg : Str → Option Value} {base : Heap}
abbrev sHid : Stmt := topS 40
abbrev nHid : List Str := ["_law_bag", "_law_given", "_law_wide", "_law_road", "_law_many", "_law_weights_z", "_law_counter", "_law_last", "_law_late", "_law_k", "_law_one", "_law_x"]
theorem scHid : FnScope nHid ["_law_bag", "_law_given", "_law_wide"] (defScope sHid) := ⟨rfl, rfl, rfl, by decide +kernel, rfl, by decide +kernel, by decide +kernel⟩
abbrev hidIf : List Stmt := ifBody ((defBody sHid).getD 3 (.Pass ⟨0, 0, 0, 0⟩))
abbrev scHid1 : Scope := lcScope (asgV (hidIf.getD 1 (.Pass ⟨0, 0, 0, 0⟩)))
abbrev scHid2 : Scope := lcScope (asgV (hidIf.getD 2 (.Pass ⟨0, 0, 0, 0⟩)))
def spHid : Sp := fun vs H Q _ => ∃ (B L : Addr) (ns : List Int) (a : Addr) (xs : List V) (vc : List (List Int)) (wd : Nat), vs = [.ref B, .ref a, .int (wd : Nat)] ∧ BagAt B L ns H ∧ a ≠ B ∧ H a = some (.lst xs) ∧ AtAll B H xs (vc.map dV) ∧ GoodL wd vc ∧ vc.length ≤ 6 ∧ 0 < wd ∧ wd ≤ 7 ∧
  ∀ (t : Addr) (ys : List V) (vd : List (List Int)) (H' : Hp), Sb B H H' → BagAt B L ns H' → t ≠ B → H' t = some (.lst ys) → AtAll B H' ys (vd.map dV) → GoodL wd vd → vd.length ≤ 7 → Q (.ref t) H'
theorem ok_hid {f : Addr} {fd : FuncData} (F : Fun K "_law_hidden" "_law_hidden" sHid f fd) (T : Tx K mg) (D1 : Df P w K mg base 1 "_law_pull" ["_law_bag", "_law_sides"] spPull) (D2 : Df P w K mg base 1 "_law_dot" ["_law_one", "_law_other"] spDot) (D3 : Df P w K mg base 1 "_law_less" ["_law_one"] spLess) :
    FnOk P w K mg base CX0 3 f fd ["_law_bag", "_law_given", "_law_wide"] spHid := by
  refine F.ok scHid (fun vs H Q E h => ?_) (fun cdv A outer s H vs Q E hr h => ?_)
  · obtain ⟨B, L, ns, a, xs, vc, wd, rfl, _⟩ := h
    rfl
  · obtain ⟨B, L, ns, a, xs, vc, wd, rfl, hB, na, ha, hA, hG, h6, hw, h7, q⟩ := h
    have lx : xs.length = vc.length := by rw [hA.len, List.length_map]
    refine pss_cut (fun σ' H' => ∃ r : Int, σ' = [some (.ref B), some (.ref a), some (.int (wd : Nat)), some (.int r), some (.int (xs.length : Nat)), none, none, none, none, none, none, none] ∧ Sb B H H' ∧ BagAt B L ns H')
      (ps_par (i := 3) (j := 4) rfl scHid.nd rfl rfl (by decide) rfl rfl (pa_cons (pe_d D1 hr (by rfl) (pa_cons (pv 0) (pa_cons pe_int pa_nil))) (pa_cons (pe_len T (pv 1)) pa_nil)) rfl) ?_ ?_
    · refine ⟨.ref B, rfl, B, L, ns, 3, rfl, hB, by decide, by decide, fun r H1 r0 r1 s1 hB1 => ?_⟩
      refine ⟨.ref a, rfl, a, xs, rfl, .inl (SqL.of (s1 _ _ na ha)), _, _, rfl, r, rfl, s1, hB1⟩
    rintro σ' H1 ⟨r, rfl, s1, hB1⟩
    refine pss_cut (fun σ' H' => ∃ (z : Addr) (zs : List Int), σ' = [some (.ref B), some (.ref a), some (.int (wd : Nat)), some (.int r), some (.int (xs.length : Nat)), some (.ref z), none, none, none, none, none, none] ∧ Sb B H H' ∧ BagAt B L ns H' ∧ zs.length = wd ∧ (∀ x ∈ zs, x.natAbs ≤ 4) ∧ H' z = some (.tup (zs.map V.int)))
      (ps_set (i := 5) scHid.nd rfl (.inr rfl) (pe_tupO T (pe_lc (own := [("_law_k", 9)]) (g := gName 9) (tt := tYes) rfl scHid.nd (pi_range1 (by rfl) T.range (pa_cons (pv 2) pa_nil)) (blkOk_by (N := nHid) (sc := defScope sHid) (by decide +kernel)) (fun _ _ _ _ _ => pg_name (i := 9) scHid.nd rfl (Or.inl rfl)) (fun _ _ _ _ _ => pts_nil)
        (fun _ _ _ _ _ => pe_op op_add pe_int (pe_d (j := 2) D1 hr (by rfl) (pa_cons (pv 0) (pa_cons pe_int pa_nil))))))) ?_ ?_
    · refine ⟨.int (wd : Nat), rfl, (wd : Nat), rfl, by omega, by omega, fun D hD => lcB (B := B) (L := L) (ns := ns) (n := wd) (fun _ y _ => ∃ x : Int, y = .int x ∧ x.natAbs ≤ 4) (fun _ _ _ _ _ h => h) hB1 hD (by omega) (fun i H' hi _ => hi) (fun H' _ => Nat.le_refl _) (fun i v H' H2 hi s' hB' _ y => ?_) (fun H' acc s' hB' eD el hY => ?_)⟩
      · obtain ⟨rfl, rfl⟩ := y
        refine ⟨Same.refl _, fun A hA' => ⟨rfl, .ref B, rfl, B, L, ns, 4, rfl, hB', by decide, by decide, fun x H3 x0 x1 s3 hB3 => ?_⟩⟩
        exact ⟨1, x, rfl, rfl, hA' _ _ s3 hB3 ⟨_, rfl, by omega⟩⟩
      · obtain ⟨v, rfl, lv, hv⟩ := ints_mk (R := fun _ x => x.natAbs ≤ 4) el hY
        refine ⟨D, _, rfl, .inl ⟨SqL.of eD, fun t ht => ?_⟩⟩
        refine ⟨t, v, rfl, (s1.trans s').trans (Sb.of (same_upd ht)), hB'.same (same_upd ht), lv, fun x hx => ?_, upd_same⟩
        obtain ⟨j, hj, e⟩ := List.mem_iff_getElem.mp hx
        exact hv j x (by rw [List.getElem?_eq_getElem hj, e])
    rintro σ' H2 ⟨z, zs, rfl, s2, hB2, lz, bz, ez⟩
    have ha2 := s2 _ _ na ha
    have hA2 := hA.sb s2
    have smz : ∀ i : Nat, i < zs.length → Sm (zs.getD i 0) := fun i hi => sm_of bz (by decide) i hi
    have smv : ∀ v : List Int, VecOk wd v → ∀ i : Nat, i < v.length → Sm (v.getD i 0) := fun v hv i hi => sm_of hv.2.1 (by decide) i hi
    refine pss_cut (fun σ' H' => σ' = [some (.ref B), some (.ref a), some (.int (wd : Nat)), some (.int r), some (.int (xs.length : Nat)), some (.ref z), none, none, none, none, none, none] ∧ H' = H2)
      (ps_if (pt_cmpR op_eq (pv 3) pe_int (nomark _))
        (pss_cons (ps_set (i := 1) scHid.nd rfl (.inr rfl) (pe_lc (own := [("_law_one", 10)]) (g := gName 10) (tt := tYes) rfl scHid.nd (pi_list (pv 1)) (blkOk_by (N := nHid) (sc := defScope sHid) (by decide +kernel)) (fun _ _ _ _ _ => pg_name (i := 10) scHid.nd rfl (Or.inl rfl)) (fun _ _ _ _ _ => pts_nil)
          (fun _ _ _ _ _ => pe_ifExp (pt_cmpR op_ge (pe_d (j := 2) D2 hr (by rfl) (pa_cons (pv 10) (pa_cons (pv 5) pa_nil))) pe_int (nomark _)) (pv 10) (pe_d (j := 2) D3 hr (by rfl) (pa_cons (pv 10) pa_nil)))))
        (pss_one (ps_ret (pe_lc (own := [("_law_one", 10)]) (g := gName 10) rfl scHid.nd (pi_list (pv 1)) (blkOk_by (N := nHid) (sc := defScope sHid) (by decide +kernel)) (fun _ _ _ _ _ => pg_name (i := 10) scHid.nd rfl (Or.inl rfl))
          (fun _ _ _ _ _ => pts_one (pt_cmpR op_gt (pe_d (j := 2) D2 hr (by rfl) (pa_cons (pv 10) (pa_cons (pv 5) pa_nil))) pe_int (nomark _))) (fun _ _ _ _ _ => pv 10))))) pss_nil) ?_ ?_
    · refine ⟨.int r, rfl, rfl, _, rfl, ?_⟩
      by_cases c0 : r = 0
      · rw [decide_eq_true (show V.int r = V.int 0 by rw [c0])]
        refine iteT ⟨.ref a, rfl, a, rfl, ⟨xs, SqL.of ha2⟩, fun D hD => ?_⟩
        have nD : D ≠ B := (hB2.ne hD).symm
        refine lcY (n := xs.length) (VecY B D fun _ v => VecOk wd v) (fun i y H' H'' s h => h.mono _ _ _ _ fun b o _ n e => s b o n e) hD (by omega) (fun i H' hi s => ⟨xs, xs[i], SqL.of (s _ _ ha2), List.getElem?_eq_getElem hi⟩) (fun H' s => ⟨xs, SqL.of (s _ _ ha2), Nat.le_refl _⟩)
          (fun i v H' H3 hi s ac y => ?_) (fun H3 acc s3 eD el hY => ?_)
        · obtain ⟨rfl, y⟩ := y
          have hx := y _ (SqL.of (s _ _ ha2))
          obtain ⟨vv, c, e1, rfl, nc, ec⟩ := vec_get hA2 hx
          have ok := good_get hG e1
          have ec3 := s _ _ ec
          refine ⟨Same.refl _, fun A hA' => ⟨rfl, .ref c, rfl, .ref z, rfl, c, z, vv, zs, rfl, ec3, s _ _ ez, by rw [ok.1, lz], by rw [ok.1]; omega, smv vv ok, smz, fun H4 s4 => ⟨_, 0, rfl, rfl, _, rfl, ?_⟩⟩⟩
          obtain ⟨acc, eac⟩ := ac
          have ncD : c ≠ D := fun z => by rw [z, eac] at ec3; cases ec3
          by_cases c1 : 0 ≤ dotM vv zs
          · rw [decide_eq_true c1]
            exact iteT ⟨.ref c, rfl, hA' _ _ s4 ⟨c, vv, rfl, nc, ncD, s4 _ _ ec3, ok⟩⟩
          · rw [decide_eq_false c1]
            refine iteF ⟨.ref c, rfl, c, vv, rfl, s4 _ _ ec3, by rw [ok.1]; omega, fun H5 t s5 ht et => ?_⟩
            refine hA' _ _ (s4.trans s5) ⟨t, _, rfl, ((hB2.same (s.trans s4)).ne ht).symm, fun z => ?_, et, neg_ok ok⟩
            rw [z] at ht
            rw [s4 _ _ eac] at ht
            cases ht
        · obtain ⟨vd, hA3, ld, hd⟩ := vecs_mk (B := B) (H := H3) (R := fun _ v => VecOk wd v) el fun j y hy => (hY j y hy).at
          have gd : GoodL wd vd := fun v hv => by
            obtain ⟨j, hj, e⟩ := List.mem_iff_getElem.mp hv
            exact hd j v (by rw [List.getElem?_eq_getElem hj, e])
          refine ⟨.ref D, rfl, D, rfl, ⟨acc, SqL.of eD⟩, fun D2 hD2 => ?_⟩
          have s23 := s2.trans (Sb.of s3)
          refine lcP (n := acc.length) (fun i ac H' => Same H3 H' ∧ ∀ y ∈ ac, y ∈ acc) (by omega) ⟨same_upd hD2, fun y h => by simp at h⟩ (fun i ac H' hi p => ⟨acc, acc[i], SqL.of (p.1 _ _ eD), List.getElem?_eq_getElem hi⟩) (fun ac H' p => ⟨acc, SqL.of (p.1 _ _ eD), Nat.le_refl _⟩)
            (fun i ac v H' H4 hi eD2 el2 p y A C hA' hC' => ?_) (fun ac H' eD2 el2 p => ?_)
          · obtain ⟨s4, hm⟩ := p
            obtain ⟨rfl, y⟩ := y
            have hx := y _ (SqL.of (s4 _ _ eD))
            obtain ⟨vv, c, e1, rfl, nc, ec⟩ := vec_get hA3 hx
            have ok := good_get gd e1
            refine ⟨rfl, .ref c, rfl, .ref z, rfl, c, z, vv, zs, rfl, s4 _ _ ec, s4 _ _ (s3 _ _ ez), by rw [ok.1, lz], by rw [ok.1]; omega, smv vv ok, smz, fun H5 s5 => ⟨_, 0, rfl, rfl, _, rfl, ?_⟩⟩
            by_cases c1 : 0 < dotM vv zs
            · rw [decide_eq_true c1]
              refine iteT ⟨.ref c, rfl, hA' _ _ (s5 _ _ eD2) ⟨fun b o e => ?_, fun y hy => ?_⟩⟩
              · rw [upd_ne (ne_of_none e hD2)]
                exact s5 _ _ (s4 _ _ e)
              · rcases List.mem_append.mp hy with h | h
                · exact hm y h
                · rw [List.mem_singleton.mp h]
                  exact List.mem_of_getElem? hx
            · rw [decide_eq_false c1]
              exact iteF (hC' _ (s5 _ _ eD2) ⟨s4.trans s5, hm⟩)
          · obtain ⟨s4, hm⟩ := p
            obtain ⟨ve, hAe, le, he⟩ := vecs_sub (hA3.sb (Sb.of s4)) hm rfl gd
            have hB3 := (hB2.same s3)
            exact q D2 ac ve H' (s23.trans (Sb.of s4)) (hB3.same s4) (hB3.ne hD2).symm eD2 hAe (fun v hv => (he v hv).1) (by omega)
      · rw [decide_eq_false (fun z => c0 (by cases z; rfl))]
        exact iteF ⟨rfl, rfl⟩
    rintro σ' H3 ⟨rfl, rfl⟩
    refine pss_cut (fun σ' H' => ∃ (t : Addr) (ys : List V) (vd : List (List Int)) (y6 y7 y8 y9 y10 y11 : Option V), σ' = [some (.ref B), some (.ref t), some (.int (wd : Nat)), some (.int r), some (.int (xs.length : Nat)), some (.ref z), y6, y7, y8, y9, y10, y11] ∧ Sb B H H' ∧ BagAt B L ns H' ∧ t ≠ B ∧ H' t = some (.lst ys) ∧ AtAll B H' ys (vd.map dV) ∧ GoodL wd vd ∧ vd.length ≤ 7)
      (ps_if (PW.pt (pw_and (pt_cmpR op_eq (pv 3) pe_int (nomark _)) (pw_and1 (pt_cmpR op_gt (pv 4) pe_int (nomark _)))))
        (pss_cons (ps_set (i := 6) scHid.nd rfl (.inr rfl) (pe_lc (own := [("_law_one", 10)]) (g := gName 10) (tt := tYes) rfl scHid.nd (pi_list (pv 1)) (blkOk_by (N := nHid) (sc := defScope sHid) (by decide +kernel)) (fun _ _ _ _ _ => pg_name (i := 10) scHid.nd rfl (Or.inl rfl)) (fun _ _ _ _ _ => pts_nil)
          (fun _ _ _ _ _ => pe_d (j := 2) D1 hr (by rfl) (pa_cons (pv 0) (pa_cons pe_int pa_nil)))))
        (pss_cons (ps_set (i := 1) scHid.nd rfl (.inr rfl) (pe_lc (own := [("_law_one", 10)]) (g := gName 10) (tt := tYes) rfl scHid.nd (pi_list (pv 1)) (blkOk_by (N := nHid) (sc := defScope sHid) (by decide +kernel)) (fun _ _ _ _ _ => pg_name (i := 10) scHid.nd rfl (Or.inl rfl)) (fun _ _ _ _ _ => pts_nil)
          (fun _ _ _ _ _ => pe_tupOK (K := K) rfl T (pe_lc (own := [("_law_x", 11)]) (g := gName 11) (tt := tYes) rfl scHid.nd (pi_tupK (K := K) rfl (pv 10)) (blkOk_by (N := nHid) (sc := relS scHid1 (defScope sHid)) (by decide +kernel)) (fun _ _ _ _ _ => pg_name (i := 11) scHid.nd rfl (Or.inl rfl)) (fun _ _ _ _ _ => pts_nil)
            (fun _ _ _ _ _ => pe_max2 T (pe_un un_neg pe_int) (pe_min2 T pe_int (pv 11)))))))
        (pss_cons (ps_setLc (i := 7) (own := [("_law_k", 9)]) (g := gName 9) (tt := tYes) rfl scHid.nd rfl rfl (sw_true rfl rfl rfl (by decide +kernel)) (pi_range1 (by rfl) T.range (pa_cons (pv 2) pa_nil)) (blkOk_by (N := nHid) (sc := defScope sHid) (by decide +kernel)) (fun _ _ _ _ _ => pg_name (i := 9) scHid.nd rfl (.inr rfl)) (fun _ _ _ _ _ => pts_nil)
          (fun _ _ _ _ _ => pe_op op_sub (pe_un un_neg (pe_sumK (K := K) rfl T (pe_lc (own := [("_law_one", 10), ("_law_x", 11)]) (g := gTup K 2 (gCons (gName 10) (gCons (gName 11) gNil))) (tt := tYes) rfl scHid.nd (pi_zipK (K := K) rfl T (pa_cons (pe_slice (show SlR _ (rSlL K) from sl_list) (pv 1) (po_some pe_int) po_none) (pa_cons (pe_slice (show SlR _ (rSlL K) from sl_list) (pv 6) (po_some pe_int) po_none) pa_nil))) (blkOk_by (N := nHid) (sc := relS scHid2 (defScope sHid)) (by decide +kernel))
            (fun _ _ _ _ _ => pg_tup rfl (pgs_cons (pg_name (i := 10) scHid.nd rfl (.inl rfl) (.inr rfl)) (pgs_cons (pg_name (i := 11) scHid.nd rfl (.inl rfl) (.inr rfl)) pgs_nil))) (fun _ _ _ _ _ => pts_nil)
            (fun _ _ _ _ _ => pe_op op_mulW (pe_ix (show IxR _ (rIxT K) from ix_tup) (pv 10) (pv 9) (fun _ _ => rfl)) (pv 11))))) (pe_d (j := 2) D1 hr (by rfl) (pa_cons (pv 0) (pa_cons pe_int pa_nil)))))
        pss_any)))
        pss_nil) ?_ ?_
    rotate_left
    · rintro σ' H4 ⟨t, ys, vd, y6, y7, y8, y9, y10, y11, rfl, s4, hB4, nt, et, hA4, g4, l4⟩
      exact pss_fin (ps_ret (pv 1)) ⟨.ref t, rfl, q t ys vd H4 s4 hB4 nt et hA4 g4 l4⟩
    refine ⟨.int r, rfl, rfl, _, rfl, ?_⟩
    by_cases c0 : r = 1
    · rw [decide_eq_true (show V.int r = V.int 1 by rw [c0])]
      refine iteT ⟨_, rfl, _, _, rfl, rfl, _, rfl, ?_⟩
      by_cases c1 : 1 < xs.length
      · rw [decide_eq_true (show (1 : Int) < ((xs.length : Nat) : Int) by omega)]
        refine iteT ?_
        -- counter
        refine ⟨.ref a, rfl, a, rfl, ⟨xs, SqL.of ha2⟩, fun C hC => lcB (B := B) (L := L) (ns := ns) (n := xs.length) (fun _ y _ => ∃ x : Int, y = .int x ∧ x.natAbs ≤ 4) (fun _ _ _ _ _ h => h) hB2 hC (by omega) (fun i H' hi s => ⟨xs, xs[i], SqL.of (s _ _ na ha2), List.getElem?_eq_getElem hi⟩) (fun H' s => ⟨xs, SqL.of (s _ _ na ha2), Nat.le_refl _⟩)
          (fun i v H' H4 hi s' hB' _ y => ?_) (fun H4 acc s4 hB4 eC elC hC' => ?_)⟩
        · obtain ⟨rfl, y⟩ := y
          refine ⟨Same.refl _, fun A hA' => ⟨rfl, .ref B, rfl, B, L, ns, 4, rfl, hB', by decide, by decide, fun x H5 x0 x1 s5 hB5 => hA' _ _ s5 hB5 ⟨x, rfl, by omega⟩⟩⟩
        obtain ⟨cs, rfl, lcs, bcs⟩ := ints_mk (R := fun _ x => x.natAbs ≤ 4) elC hC'
        have nC : C ≠ B := (hB2.ne hC).symm
        have ha4 := s4 _ _ na ha2
        have hA4 := hA2.sb s4
        have s24 := s2.trans s4
        -- given
        refine ⟨.ref a, rfl, a, rfl, ⟨xs, SqL.of ha4⟩, fun G hG' => ?_⟩
        have nG : G ≠ B := (hB4.ne hG').symm
        refine lcY (n := xs.length) (VecY B G fun _ v => VecOk wd v ∧ ∀ x ∈ v, x.natAbs ≤ 9) (fun i y H' H'' s h => h.mono _ _ _ _ fun b o _ n e => s b o n e) hG' (by omega) (fun i H' hi s => ⟨xs, xs[i], SqL.of (s _ _ ha4), List.getElem?_eq_getElem hi⟩) (fun H' s => ⟨xs, SqL.of (s _ _ ha4), Nat.le_refl _⟩)
          (fun i v H' H5 hi s ac y => ?_) (fun H5 acc s5 eG elG hY => ?_)
        · obtain ⟨rfl, y⟩ := y
          have hx := y _ (SqL.of (s _ _ ha4))
          obtain ⟨vv, c, e1, rfl, nc, ec⟩ := vec_get hA4 hx
          have ok := good_get hG e1
          have ec5 := s _ _ ec
          obtain ⟨acc, eac⟩ := ac
          refine ⟨Same.refl _, fun A hA' => ⟨rfl, .ref c, rfl, c, rfl, ⟨_, SqT.of ec5⟩, fun D3 hD3 => lcm_tup (xs := vv.map V.int) (ys := (vv.map (clip 9)).map V.int) (SqT.of ec5) (fun H' s => SqT.of (s _ _ ec5)) hD3 (by simp) (by simp [ok.1]; omega) (fun i y H2 hy s A hA => ?_) (fun H6 s6 eD6 => ?_)⟩⟩
          · rw [List.getElem?_map] at hy
            obtain ⟨x, h1, rfl⟩ := Option.map_eq_some_iff.mp hy
            refine ⟨rfl, 9, rfl, .int x, rfl, 9, x, rfl, -9, _, rfl, hA _ _ ?_ (Same.refl _)⟩
            rw [List.getElem?_map, List.getElem?_map, h1]
            rfl
          · refine ⟨D3, _, rfl, .inl ⟨SqL.of eD6, fun t ht => hA' _ _ (s6.trans (same_upd ht)) ⟨t, vv.map (clip 9), rfl, ((hB4.same (s.trans s6)).ne ht).symm, fun z => ?_, upd_same, clip_ok (by decide) (by decide) ok, fun x hx => ?_⟩⟩⟩
            · rw [z, s6 _ _ eac] at ht
              cases ht
            · obtain ⟨z, _, rfl⟩ := List.mem_map.mp hx
              exact clip_le (by decide)
        obtain ⟨vd, hA5, ld, hd⟩ := vecs_mk (B := B) (H := H5) (R := fun _ v => VecOk wd v ∧ ∀ x ∈ v, x.natAbs ≤ 9) elG fun j y hy => (hY j y hy).at
        have gd : ∀ v ∈ vd, VecOk wd v ∧ ∀ x ∈ v, x.natAbs ≤ 9 := fun v hv => by
          obtain ⟨j, hj, e⟩ := List.mem_iff_getElem.mp hv
          exact hd j v (by rw [List.getElem?_eq_getElem hj, e])
        have bcs' : ∀ x ∈ cs, x.natAbs ≤ 4 := fun x hx => by
          obtain ⟨j, hj, e⟩ := List.mem_iff_getElem.mp hx
          exact bcs j x (by rw [List.getElem?_eq_getElem hj, e])
        have s25 := s24.trans (Sb.of s5)
        have hB5 := hB4.same s5
        have eC5 := s5 _ _ eC
        clear hY hd
        -- last
        refine ⟨.int (wd : Nat), rfl, (wd : Nat), rfl, by omega, by omega, fun D hD => lcB (B := B) (L := L) (ns := ns) (n := wd) (fun _ y _ => ∃ x : Int, y = .int x ∧ x.natAbs ≤ 999999999) (fun _ _ _ _ _ h => h) hB5 hD (by omega) (fun i H' hi _ => hi) (fun H' _ => Nat.le_refl _) (fun i v H' H6 hi s6 hB6 _ y => ?_) (fun H6 acc6 s6 hB6 eD elD hY => ?_)⟩
        · obtain ⟨rfl, rfl⟩ := y
          refine ⟨Same.refl _, fun A hA' => ⟨rfl, ?_⟩⟩
          have eG6 := s6 _ _ nG eG
          have eC6 := s6 _ _ nC eC5
          refine ⟨.ref G, rfl, 1, rfl, G, acc, rfl, SqL.of eG6, fun G1 hG1 => ?_⟩
          have ecG : cutV acc (some 1) none = acc.drop 1 := cut_from acc 1 (by omega)
          rw [ecG]
          have s7 := same_upd (o := .lst (acc.drop 1)) hG1
          have eG1 : (upd H6 G1 (.lst (acc.drop 1))) G1 = some (.lst (acc.drop 1)) := upd_same
          generalize upd H6 G1 (.lst (acc.drop 1)) = H7 at *
          refine ⟨.ref C, rfl, 1, rfl, C, cs.map V.int, rfl, SqL.of (s7 _ _ eC6), fun C1 hC1 => ?_⟩
          have ecC : cutV (cs.map V.int) (some 1) none = (cs.map V.int).drop 1 := cut_from (cs.map V.int) 1 (by rw [List.length_map]; omega)
          rw [ecC, ← List.map_drop]
          have s8 := same_upd (o := .lst ((cs.drop 1).map V.int)) hC1
          have eC1 : (upd H7 C1 (.lst ((cs.drop 1).map V.int))) C1 = some (.lst ((cs.drop 1).map V.int)) := upd_same
          generalize upd H7 C1 (.lst ((cs.drop 1).map V.int)) = H8 at *
          have eG8 := s8 _ _ eG1
          have hx : ∀ H', Same H8 H' → SqL K H' G1 (acc.drop 1) := fun H' s => SqL.of (s _ _ eG8)
          have hy : ∀ H', Same H8 H' → SqL K H' C1 ((cs.drop 1).map V.int) := fun H' s => SqL.of (s _ _ eC1)
          have hA8 := ((hA5.sb s6).sb (Sb.of s7)).sb (Sb.of s8)
          refine ⟨G1, C1, _, _, rfl, hx _ (Same.refl _), hy _ (Same.refl _), fun M hM => ?_⟩
          refine lcY (n := (acc.drop 1).length) (fun _ y _ => ∃ x : Int, y = .int x ∧ x.natAbs ≤ 36) (fun _ _ _ _ _ h => h) hM (by simp; omega) (fun i H' hi s => itz_go hx hy i H' hi (by simp at hi ⊢; omega) s) (fun H' s => ⟨_, _, hx _ s, hy _ s, .inl (Nat.le_refl _)⟩)
            (fun j v H' H9 hj s ac y => ?_) (fun H9 acc9 s9 eM elM hY => ?_)
          · obtain ⟨Tp, x, u, rfl, hT, rfl, ex, ez'⟩ := itz_yld hx hy s y
            rw [List.getElem?_drop] at ex
            obtain ⟨vv, c, e1, rfl, nc, ec⟩ := vec_get hA8 ex
            have ok := gd vv (List.mem_of_getElem? e1)
            rw [List.getElem?_map] at ez'
            obtain ⟨cx, h1, rfl⟩ := Option.map_eq_some_iff.mp ez'
            have bx := bcs' cx (List.mem_of_mem_drop (List.mem_of_getElem? h1))
            have sT := same_upd (o := .tup [.ref c, .int cx]) hT
            have hi' : i < vv.length := by rw [ok.1.1]; exact hi
            have bv := ok.2 _ (getD_mem' 0 hi')
            refine ⟨sT, fun A hA' => ⟨Tp, _, rfl, SqT.of upd_same, rfl, _, _, rfl, _, _, rfl, rfl, rfl, ?_⟩⟩
            refine ⟨.ref c, rfl, .int (0 + (i : Nat)), rfl, c, vv.map V.int, (0 + (i : Nat)), _, rfl, rfl, SqT.of (sT _ _ (s _ _ ec)), by rw [Int.zero_add]; exact at_int hi', .int cx, rfl, _, _, rfl, rfl, wide_mul (a := 64) (b := 64) (by omega) (by omega) (by decide) (by decide) (by decide), hA' _ _ (Same.refl _) ⟨_, rfl, ?_⟩⟩
            rw [Int.natAbs_mul]
            exact Nat.le_trans (Nat.mul_le_mul bv bx) (by decide)
          · obtain ⟨ms, rfl, lms, bms⟩ := ints_mk (R := fun _ x => x.natAbs ≤ 36) elM hY
            have bsum := sum_bound (ns := ms) (b := 36) fun x hx => by
              obtain ⟨j, hj, e⟩ := List.mem_iff_getElem.mp hx
              exact bms j x (by rw [List.getElem?_eq_getElem hj, e])
            have lm6 : ms.length ≤ 6 := by rw [lms, List.length_drop]; omega
            refine ⟨M, ms, rfl, SqL.of eM, ms.sum, rfl, .ref B, rfl, B, L, ns, 2, rfl, ((hB6.same s7).same s8).same s9, by decide, by decide, fun x H10 x0 x1 s10 hB10 => ?_⟩
            refine ⟨_, _, rfl, rfl, hA' _ _ (((Sb.of s7).trans (Sb.of s8)).trans ((Sb.of s9).trans s10)) hB10 ⟨_, rfl, ?_⟩⟩
            omega
        obtain ⟨ls, rfl, lls, bls⟩ := ints_mk (R := fun _ x => x.natAbs ≤ 999999999) elD hY
        have bls' : ∀ x ∈ ls, x.natAbs ≤ 999999999 := fun x hx => by
          obtain ⟨j, hj, e⟩ := List.mem_iff_getElem.mp hx
          exact bls j x (by rw [List.getElem?_eq_getElem hj, e])
        have nD : D ≠ B := (hB5.ne hD).symm
        have eG6 := s6 _ _ nG eG
        have hA6 := hA5.sb s6
        have s26 := s25.trans s6
        refine pss_cut (fun σ' H' => ∃ (t : Addr) (v : List Int), σ' = [some (.ref B), some (.ref G), some (.int (wd : Nat)), some (.int r), some (.int (xs.length : Nat)), some (.ref z), some (.ref C), some (.ref D), some (.ref t), none, none, none] ∧ VecOk wd v ∧ Same H6 H' ∧ t ≠ B ∧ t ≠ G ∧ H' t = some (.tup (v.map V.int)))
          (ps_set (i := 8) scHid.nd rfl (.inl rfl) (pe_ifExp (pt_cmpR (op_eqD (un64 hr)) (pv 7) (pe_op op_rep (pe_lst (pa_cons pe_int pa_nil)) (pv 2)) (nomark _)) (pe_op op_repA (pe_tup (pa_cons (pe_un un_neg pe_int) pa_nil)) (pv 2)) (pe_tupO T (pv 7)))) ?_ ?_
        · refine ⟨.ref D, rfl, (by show 1 ≤ sizeLine; decide), fun l0 hl0 => ?_⟩
          have s3 := same_upd (o := .lst [V.int 0]) hl0
          refine ⟨.int (wd : Nat), rfl, l0, (wd : Nat), [V.int 0], rfl, rfl, upd_same, by omega, by omega, ?_, fun z hz => ?_⟩
          · show 1 * ((wd : Nat) : Int).toNat ≤ sizeLine
            exact Nat.le_of_lt (small1000 (by omega))
          have e0 : (List.replicate ((wd : Nat) : Int).toNat [V.int 0]).flatten = (List.replicate wd (0 : Int)).map V.int := by
            rw [Int.toNat_natCast, rep_flat, List.map_replicate]
          rw [e0]
          have s7 := s3.trans (same_upd (o := .lst ((List.replicate wd (0 : Int)).map V.int)) hz)
          have ez' : (upd (upd H6 l0 (.lst [V.int 0])) z (.lst ((List.replicate wd (0 : Int)).map V.int))) z = some (.lst ((List.replicate wd (0 : Int)).map V.int)) := upd_same
          generalize upd (upd H6 l0 (.lst [V.int 0])) z (.lst ((List.replicate wd (0 : Int)).map V.int)) = H7 at *
          have dI : ∀ (ms : List Int), DpAll K H7 (ms.map V.int) (ms.map PyData.int) := fun ms => (atInts (B := B) (H := H7) ms).dp
          refine ⟨.list (ls.map .int), .list ((List.replicate wd (0 : Int)).map .int), .lst (SqL.of (s7 _ _ eD)) (dI ls), .lst (SqL.of ez') (dI _), shI _, shI _, _, rfl, ?_⟩
          have eG7 := s7 _ _ eG6
          have hB7 := hB6.same s7
          cases hq : PyData.eqv (.list (ls.map .int)) (.list ((List.replicate wd (0 : Int)).map .int)) with
          | true =>
            have vok : VecOk wd (List.replicate wd (-1)) := ⟨by simp, fun x hx => by rw [List.eq_of_mem_replicate hx]; decide, -1, List.mem_replicate.mpr ⟨by omega, rfl⟩, by decide⟩
            refine iteT ⟨1, rfl, (by show 1 ≤ sizeLine; decide), fun tp htp => ⟨.int (wd : Nat), rfl, tp, wd, [V.int (-1)], rfl, rfl, SqT.of upd_same, by simp, by omega, by simp, fun e1 => ?_, fun _ p hp => ?_⟩⟩
            · have e2 : [V.int (-1)] = (List.replicate wd (-1)).map V.int := by rw [e1]; rfl
              refine ⟨tp, _, rfl, vok, s7.trans (same_upd htp), (hB7.ne htp).symm, fun z => ?_, ?_⟩
              · rw [z, eG7] at htp
                cases htp
              · rw [upd_same, ← e2]
            · have s8 := same_upd (o := .tup [V.int (-1)]) htp
              refine ⟨p, _, rfl, vok, (s7.trans s8).trans (same_upd hp), ((hB7.same s8).ne hp).symm, fun z => ?_, ?_⟩
              · rw [z, s8 _ _ eG7] at hp
                cases hp
              · rw [upd_same, rep_flat, List.map_replicate]
          | false =>
            refine iteF ⟨.ref D, rfl, D, _, rfl, .inl ⟨SqL.of (s7 _ _ eD), fun t ht => ?_⟩⟩
            refine ⟨t, ls, rfl, ⟨lls, bls', ?_⟩, s7.trans (same_upd ht), (hB7.ne ht).symm, fun z => ?_, upd_same⟩
            · by_cases nz : NZ ls
              · exact nz
              · rw [rep_of lls nz, eqvI] at hq
                cases hq
            · rw [z, eG7] at ht
              cases ht
        · rintro σ' H7 ⟨t, v, rfl, vok, s7, nt, ntG, et⟩
          refine pss_fin (ps_expr (pe_bm PySem.F.plainAttrs_list PySem.F.slot_list_insert PySem.F.type_list_insert mt_insert (pv 1) (pa_cons (pe_d (j := 2) D1 hr (by rfl) (pa_cons (pv 0) (pa_cons (pv 4) pa_nil))) (pa_cons (pv 8) pa_nil)))) ?_
          have eG7 := s7 _ _ eG6
          refine ⟨.ref G, rfl, .inl ⟨rfl, _, SqL.of eG7⟩, .ref B, rfl, .int (xs.length : Nat), rfl, B, L, ns, _, rfl, hB6.same s7, by omega, by omega, fun x H8 x0 x1 s8 hB8 => ?_⟩
          have eG8 := s8 _ _ nG eG7
          have et8 := s8 _ _ nt et
          have hA8 := (hA6.sb (Sb.of s7)).sb s8
          refine ⟨.ref t, rfl, G, acc, x, .ref t, rfl, rfl, eG8, small1000 (by omega), x0, by omega, ?_⟩
          have hAn : AtAll B H8 (acc.take x.toNat ++ [.ref t] ++ acc.drop x.toNat) ((vd.take x.toNat ++ [v] ++ vd.drop x.toNat).map dV) := by
            rw [List.map_append, List.map_append, List.map_take, List.map_drop]
            exact ((hA8.take _).append (.cons (vecAt nt et8) .nil)).append (hA8.drop _)
          have hG0 := fresh_back s24 nG hG'
          refine ⟨G, _, vd.take x.toNat ++ [v] ++ vd.drop x.toNat, _, _, _, _, _, _, rfl, fun b o nb e => ?_, hB8.upd nG.symm (ne_of_none hB4.lst.2 hG'), nG, upd_same, vecs_upd hAn eG8, fun u hu => ?_, ?_⟩
          · rw [upd_ne (ne_of_none e hG0)]
            exact s8 _ _ nb (s7 _ _ (s26 _ _ nb e))
          · rcases List.mem_append.mp hu with h | h
            · rcases List.mem_append.mp h with h | h
              · exact (gd u (List.mem_of_mem_take h)).1
              · rw [List.mem_singleton.mp h]; exact vok
            · exact (gd u (List.mem_of_mem_drop h)).1
          · have : (vd.take x.toNat ++ [v] ++ vd.drop x.toNat).length = vd.length + 1 := by
              have h : vd.length = (vd.take x.toNat ++ vd.drop x.toNat).length := by rw [List.take_append_drop]
              rw [h]
              simp only [List.length_append, List.length_singleton]
              omega
            omega
      · rw [decide_eq_false (show ¬ (1 : Int) < ((xs.length : Nat) : Int) by omega)]
        exact iteF ⟨a, xs, vc, _, _, _, _, _, _, rfl, s2, hB2, na, ha2, hA2, hG, by omega⟩
    · rw [decide_eq_false (fun z => c0 (by cases z; rfl))]
      exact iteF (iteF ⟨a, xs, vc, _, _, _, _, _, _, rfl, s2, hB2, na, ha2, hA2, hG, by omega⟩)
end
end K69

/-! ## K6 -/
namespace K69
open PySem PySem.Spec PyProof.Rows L2
theorem pe_any' {X : Cx} {e : Expr} : PE X e fun σ H Q => ∃ t, PE X e t ∧ t σ H Q := ⟨fun pins s σ H Q I h => let ⟨t, ht, q⟩ := h; ht.run pins s σ H Q I q⟩
section
variable {X : Cx} {K : PySem.W.Frag} {p1 p2 p3 pos : Pos}
theorem pe_isiK (hK : X.K = K) {a c : Expr} {ta tc : TE} (T : Tx K X.mg) (ha : PE X a ta) (hc : PE X c tc) (hg : Gl X "isinstance" := by rfl) (he : starEach [a, c] X.env = (false, eval a X.env) :: starEach [c] X.env := by rfl) (he2 : starEach [c] X.env = (false, eval c X.env) :: starEach [] X.env := by rfl) :
    PE X (.Call (.Name "isinstance" p1) [a, c] [] pos) (tCB (rIsi K) (tCons ta (tCons tc tNil))) := by
  subst hK
  exact pe_isi T ha hc hg he he2
theorem ix_seq (hK : X.K = K) : IxR X (fun x y H Q => rIxL K x y H Q ∨ rIxT K x y H Q) := by
  subst hK
  intro value slice pins s σ H x y v u Q I rx ry h hs
  rcases h with h | h
  · exact ix_list value slice pins s σ H x y v u Q I rx ry h hs
  · exact ix_tup value slice pins s σ H x y v u Q I rx ry h hs
end
/-- whole and not below 0 -/
def natD : PyData → Bool
  | .int i => decide (0 ≤ i)
  | _ => false
theorem natD_not {d : PyData} (h : wholeD d = false) : natD d = false := by
  revert h
  cases d <;> simp [wholeD, isInt, isBool, natD]
/-- no number of it is above 10 ** 40 -/
def SmallD (d : PyData) : Prop := ∀ xs, d = .tuple xs → ∀ i : Int, PyData.int i ∈ xs → i.natAbs ≤ 10 ^ 40
section
variable {P : Program} {w : World} {K : PySem.W.Frag} {mg : Str → Option Value} {base : Heap}
/-! ### _law_is_number -/
abbrev sLNum : Stmt := topS 30
theorem scLNum : FnScope ["_law_item", "_law_low", "_law_high"] ["_law_item", "_law_low", "_law_high"] (defScope sLNum) := ⟨rfl, rfl, rfl, by decide +kernel, rfl, by decide +kernel, by decide +kernel⟩
theorem ok_lnum {f : Addr} {fd : FuncData} {k : Nat} (F : Fun K "_law_is_number" "_law_is_number" sLNum f fd) (T : Tx K mg) : FnOk P w K mg base CX0 (k + 1) f fd ["_law_item", "_law_low", "_law_high"] spNum := by
  refine F.ok scLNum (fun vs H Q E h => ?_) (fun cdv A outer s H vs Q E hr h => ?_)
  · obtain ⟨B, x, d, lo, hi, rfl, _⟩ := h
    rfl
  · obtain ⟨B, x, d, lo, hi, rfl, h, q⟩ := h
    refine ⟨_, pss_one (ps_ret (pe_and (pe_isi T (pv 0) (bI T (by rfl)))
      (pe_and (pe_not (pe_isi T (pv 0) (bB T (by rfl))))
        (pe_one (pe_chain op_le op_le (pv 1) (pv 0) (pv 2)))))), ?_⟩
    refine ⟨x, rfl, x, _, _, _, _, rfl, .ty _, h.ty, kit_ty (kit_int d), _, rfl, ?_⟩
    cases e : wholeD d with
    | false =>
      rw [numIn_not e] at q
      rcases whole_not e with e1 | ⟨e1, e2⟩
      · rw [e1]
        exact iteF q
      · rw [e1]
        refine iteT ⟨x, rfl, x, _, _, _, _, rfl, .ty _, h.ty, kit_ty (kit_bool d), _, rfl, _, rfl, ?_⟩
        rw [e2]
        exact iteF q
    | true =>
      obtain ⟨i, rfl⟩ := whole_int e
      refine iteT ⟨x, rfl, x, _, _, _, _, rfl, .ty _, h.ty, kit_ty (kit_bool _), _, rfl, _, rfl, ?_⟩
      refine iteT ⟨.int lo, rfl, x, rfl, lo, i, rfl, h.intI, _, rfl, ?_⟩
      by_cases c : lo ≤ i
      · rw [decide_eq_true c]
        refine iteT ⟨.int hi, rfl, i, hi, h.intI, rfl, ?_⟩
        have e2 : numIn (.int i) lo hi = decide (i ≤ hi) := by simp [numIn, c]
        rw [e2] at q
        exact q
      · rw [decide_eq_false c]
        have e2 : numIn (.int i) lo hi = false := by simp [numIn, c]
        rw [e2] at q
        exact iteF q
/-! ### _law_is_whole -/
abbrev sLWh : Stmt := topS 31
theorem scLWh : FnScope ["_law_item"] ["_law_item"] (defScope sLWh) := ⟨rfl, rfl, rfl, by decide +kernel, rfl, by decide +kernel, by decide +kernel⟩
def spLWh : Sp := fun vs H Q _ => ∃ (B : Addr) (x : V) (d : PyData), vs = [x] ∧ At B H x d ∧ Q (.bl (natD d)) H
theorem ok_lwh {f : Addr} {fd : FuncData} {k : Nat} (F : Fun K "_law_is_whole" "_law_is_whole" sLWh f fd) (T : Tx K mg) : FnOk P w K mg base CX0 (k + 1) f fd ["_law_item"] spLWh := by
  refine F.ok scLWh (fun vs H Q E h => ?_) (fun cdv A outer s H vs Q E hr h => ?_)
  · obtain ⟨B, x, d, rfl, _⟩ := h
    rfl
  · obtain ⟨B, x, d, rfl, h, q⟩ := h
    refine ⟨_, pss_one (ps_ret (pe_and (pe_isi T (pv 0) (bI T (by rfl)))
      (pe_and (pe_not (pe_isi T (pv 0) (bB T (by rfl))))
        (pe_one (pe_cmpR op_ge (pv 0) pe_int (nomark _)))))), ?_⟩
    refine ⟨x, rfl, x, _, _, _, _, rfl, .ty _, h.ty, kit_ty (kit_int d), _, rfl, ?_⟩
    cases e : wholeD d with
    | false =>
      rw [natD_not e] at q
      rcases whole_not e with e1 | ⟨e1, e2⟩
      · rw [e1]
        exact iteF q
      · rw [e1]
        refine iteT ⟨x, rfl, x, _, _, _, _, rfl, .ty _, h.ty, kit_ty (kit_bool d), _, rfl, _, rfl, ?_⟩
        rw [e2]
        exact iteF q
    | true =>
      obtain ⟨i, rfl⟩ := whole_int e
      refine iteT ⟨x, rfl, x, _, _, _, _, rfl, .ty _, h.ty, kit_ty (kit_bool _), _, rfl, _, rfl, ?_⟩
      exact iteT ⟨x, rfl, i, 0, h.intI, rfl, q⟩
/-! ### _law_is_vector -/
abbrev sLVec : Stmt := topS 32
abbrev nLVec : List Str := ["_law_item", "_law_wide", "_law_x"]
theorem scLVec : FnScope nLVec ["_law_item", "_law_wide"] (defScope sLVec) := ⟨rfl, rfl, rfl, by decide +kernel, rfl, by decide +kernel, by decide +kernel⟩
def spLVec : Sp := fun vs H Q _ => ∃ (B : Addr) (x : V) (d : PyData) (wd : Int), vs = [x, .int wd] ∧ At B H x d ∧ SmallD d ∧ wd ≤ 1000 ∧ ∀ H', Same H H' → Q (.bl (vecD d wd)) H'
theorem num_whole {d : PyData} (h : ∀ i, d = .int i → i.natAbs ≤ 10 ^ 40) : numIn d (-10 ^ 40) (10 ^ 40) = wholeD d := by
  cases d with
  | int i =>
    have := h i rfl
    have e1 : (-10 ^ 40 : Int) ≤ i := by omega
    have e2 : i ≤ 10 ^ 40 := by omega
    simp only [numIn, wholeD, isInt, isBool, e1, e2]
    rfl
  | _ => rfl
theorem ok_lvec {f : Addr} {fd : FuncData} {k : Nat} (F : Fun K "_law_is_vector" "_law_is_vector" sLVec f fd) (T : Tx K mg) (D1 : Df P w K mg base k "_law_is_number" ["_law_item", "_law_low", "_law_high"] spNum) : FnOk P w K mg base CX0 (k + 1) f fd ["_law_item", "_law_wide"] spLVec := by
  refine F.ok scLVec (fun vs H Q E h => ?_) (fun cdv A outer s H vs Q E hr h => ?_)
  · obtain ⟨B, x, d, wd, rfl, _⟩ := h
    rfl
  · obtain ⟨B, x, d, wd, rfl, h, hS, hw, q⟩ := h
    refine ⟨_, pss_cons (ps_if (PW.pt (pw_or (pt_not (pt_val (pe_isi T (pv 0) (bT T (by rfl))))) (pw_or (pt_cmpR op_ne (pe_len T (pv 0)) (pv 1) (nomark _)) (pw_or1 (pt_not (pt_val
          (pe_all T (pe_lc (own := [("_law_x", 2)]) (g := gName 2) (tt := tYes) rfl scLVec.nd (pi_tup (pv 0)) (blkOk_by (N := nLVec) (sc := defScope sLVec) (by decide +kernel)) (fun _ _ _ _ _ => pg_name (i := 2) scLVec.nd rfl (Or.inl rfl)) (fun _ _ _ _ _ => pts_nil)
          (fun _ _ _ _ _ => pe_d (j := k) D1 hr (by rfl) (pa_cons (pv 2) (pa_cons (pe_un un_neg (pe_op op_pow pe_int pe_int)) (pa_cons (pe_op op_pow pe_int pe_int) pa_nil))) (Nat.le_refl _)))))))))) (pss_one (ps_ret pe_bl)) pss_nil)
      (pss_one (ps_ret (pe_cmpR (op_neD (un64 hr)) (pe_lc (own := [("_law_x", 2)]) (g := gName 2) rfl scLVec.nd (pi_tup (pv 0)) (blkOk_by (N := nLVec) (sc := defScope sLVec) (by decide +kernel)) (fun _ _ _ _ _ => pg_name (i := 2) scLVec.nd rfl (Or.inl rfl)) (fun _ _ _ _ _ => pts_one (pt_cmpR op_ne (pv 2) pe_int (nomark _)))
          (fun _ _ _ _ _ => pv 2)) (pe_lst pa_nil) (nomark _)))), ?_⟩
    refine ⟨x, rfl, x, _, _, _, _, rfl, .ty _, h.ty, kit_ty (kit_tup d), _, rfl, ?_⟩
    cases e : isTup d with
    | false =>
      have e2 : vecD d wd = false := by revert e; cases d <;> simp [isTup, vecD]
      rw [e2] at q
      exact q _ (Same.refl H)
    | true =>
      obtain ⟨ds, rfl⟩ : ∃ ds, d = .tuple ds := by revert e; cases d <;> simp [isTup]
      obtain ⟨a, xs, rfl, hn, ha, hs⟩ := h.tupI
      have hl := hs.len
      refine ⟨.ref a, rfl, a, xs, rfl, .inr (SqT.of ha), .int wd, rfl, rfl, _, rfl, ?_⟩
      by_cases c : (xs.length : Int) = wd
      · have ec : decide (V.int (xs.length : Int) = V.int wd) = true := decide_eq_true (by rw [c])
        rw [ec]
        refine iteF ?_
        have hz : ds.length ≤ 1000 := by omega
        refine ⟨.ref a, rfl, a, rfl, ⟨_, SqT.of ha⟩, fun D hD => lcm_tup (xs := xs) (ys := (ds.map wholeD).map V.bl) (SqT.of ha) (fun H' s => SqT.of (s _ _ ha)) hD (by simp [hl]) (by simpa using hz) (fun i y H2 hy s A hA => ?_) (fun H2 s eD => ?_)⟩
        · obtain ⟨d', h1, h2⟩ := hs.getV hy
          refine ⟨rfl, y, rfl, 10, 40, rfl, rfl, ⟨by decide, by decide, by decide⟩, _, rfl, 10, 40, rfl, rfl, ⟨by decide, by decide, by decide⟩, ?_⟩
          refine ⟨B, y, d', _, _, rfl, h2.sb (Sb.of s), hA _ _ ?_ (Same.refl _)⟩
          have e1 : numIn d' (-10 ^ 40) (10 ^ 40) = wholeD d' := num_whole fun i hi => hS ds rfl i (by rw [← hi]; exact List.mem_of_getElem? h1)
          rw [List.getElem?_map, List.getElem?_map, h1]
          exact congrArg (fun b => some (V.bl b)) e1.symm
        · refine ⟨D, ds.map wholeD, rfl, SqL.of eD, _, rfl, ?_⟩
          have ev : vecD (.tuple ds) wd = ((ds.map wholeD).all id && ds.any neZ) := by
            simp [vecD, ← hl, c, List.all_map]
          cases ea : (ds.map wholeD).all id with
          | false =>
            have e2 : vecD (.tuple ds) wd = false := by rw [ev, ea]; rfl
            rw [e2] at q
            exact iteT (q _ s)
          | true =>
            refine iteF ?_
            obtain ⟨ns, rfl⟩ := wholes_ints (xs := ds) (by rw [← ea, List.all_map]; rfl)
            have ex := ints_of hs
            subst ex
            have ha2 : H2 a = some (.tup (ns.map V.int)) := s _ _ ha
            have hns : ns.length ≤ 1000 := by simpa using hz
            refine ⟨.ref a, rfl, a, rfl, ⟨_, SqT.of ha2⟩, fun D2 hD2 => lcP (n := ns.length) (fun i acc H' => Same H2 H' ∧ ∃ ms : List Int, acc = ms.map V.int ∧ (ms = [] ↔ ∀ z ∈ ns.take i, z = 0)) hns ⟨same_upd hD2, [], rfl, by simp⟩ (fun i acc H' hi p => ⟨ns.map V.int, V.int ns[i], SqT.of (p.1 _ _ ha2), by rw [List.getElem?_map, List.getElem?_eq_getElem hi]; rfl⟩) (fun acc H' p => ⟨_, SqT.of (p.1 _ _ ha2), by simp⟩)
              (fun i acc v H' H3 hi eD3 el p y A C hA hC => ?_) (fun acc H3 eD3 el p => ?_)⟩
            · obtain ⟨s3, ms, rfl, hm⟩ := p
              obtain ⟨rfl, y⟩ := y
              have hx := y _ (SqT.of (s3 _ _ ha2))
              rw [List.getElem?_map] at hx
              obtain ⟨x, h1, rfl⟩ := Option.map_eq_some_iff.mp hx
              refine ⟨rfl, .int x, rfl, rfl, _, rfl, ?_⟩
              rw [dec_int]
              by_cases cx : x = 0
              · have : (!(x == 0)) = false := by simp [cx]
                rw [this]
                refine iteF (hC _ eD3 ⟨s3, ms, rfl, ?_⟩)
                rw [hm, List.take_add_one, h1]
                constructor
                · intro hh z hz
                  rcases List.mem_append.mp hz with h | h
                  · exact hh z h
                  · simp at h; rw [h]; exact cx
                · intro hh z hz
                  exact hh z (List.mem_append.mpr (.inl hz))
              · have : (!(x == 0)) = true := by simp [cx]
                rw [this]
                refine iteT ⟨.int x, rfl, hA _ _ eD3 ⟨fun b o e => ?_, ms ++ [x], by simp, ?_⟩⟩
                · rw [upd_ne (ne_of_none e hD2)]
                  exact s3 _ _ e
                · refine ⟨fun z => by simp at z, fun hh => absurd (hh x ?_) cx⟩
                  rw [List.take_add_one, h1]
                  simp
            · obtain ⟨s3, ms, rfl, hm⟩ := p
              refine ⟨Nat.zero_le _, fun l hl' => ?_⟩
              have s4 := same_upd (o := .lst []) hl'
              refine ⟨.list (ms.map .int), .list [], .lst (SqL.of (s4 _ _ eD3)) (atInts (B := B) ms).dp, .lst (SqL.of upd_same) .nil, shI _, shI [], ?_⟩
              have e4 : PyData.eqv (.list (ms.map .int)) (.list []) = !(ns.any fun i => i != 0) := by
                cases ms with
                | nil =>
                  have h0 := hm.mp rfl
                  rw [List.take_length] at h0
                  have : (ns.any fun i => i != 0) = false := by
                    rw [List.any_eq_false]
                    intro z hz
                    simp [h0 z hz]
                  rw [this]; rfl
                | cons m ms =>
                  have : (ns.any fun i => i != 0) = true := by
                    by_cases hh : ∀ z ∈ ns, z = 0
                    · rw [List.take_length] at hm
                      exact absurd (hm.mpr hh) (by simp)
                    · obtain ⟨z, hz⟩ := Classical.not_forall.mp hh
                      obtain ⟨h1, h2⟩ := Classical.not_imp.mp hz
                      exact List.any_eq_true.mpr ⟨z, h1, by simp [h2]⟩
                  rw [this]; rfl
              rw [e4, Bool.not_not]
              have e3 : vecD (.tuple (ns.map .int)) wd = (ns.any fun i => i != 0) := by
                rw [ev, ea]
                simp [List.any_map]
                rfl
              rw [e3] at q
              exact q _ ((s.trans s3).trans s4)
      · have ec : decide (V.int (xs.length : Int) = V.int wd) = false := decide_eq_false (by simpa using c)
        rw [ec]
        refine iteT ?_
        have e2 : vecD (.tuple ds) wd = false := by simp [vecD, ← hl, c]
        rw [e2] at q
        exact q _ (Same.refl H)
end
end K69

/-! ## K7 -/
namespace K69
open PySem PySem.Spec PyProof.Rows L2
/-! ### the answer's numbers are not too large -/
theorem ray_small {tb : List (List Int)} {bs : List Nat} {col n : Nat} {sc : Int} (h0 : Sm sc) (hT : ∀ k, k < bs.length → Sm ((tb.getD k []).getD col 0)) : ∀ k, k ≤ bs.length → ∀ x ∈ rayLoop tb bs col ((List.replicate n 0).set col sc) k, Sm x
  | 0, _, x, h => by
    rcases List.mem_or_eq_of_mem_set h with e | e
    · rw [List.eq_of_mem_replicate e]; decide +kernel
    · rw [e]; exact h0
  | k + 1, hk, x, h => by
    unfold rayLoop at h
    rcases List.mem_or_eq_of_mem_set h with e | e
    · exact ray_small h0 hT k (by omega) x e
    · rw [e]
      have := hT k (by omega)
      show (-_ : Int).natAbs < _
      rw [Int.natAbs_neg]
      exact this
theorem run_small {vs : List (List Int)} {w : Nat} (hv : ∀ v ∈ vs, v.length = w) (hb : ∀ v ∈ vs, ∀ x ∈ v, x.natAbs ≤ BIG) (hw : w ≤ 7) : ∀ (k : Nat) (S : LS) (R : Bool × List Int), Good vs w S → runM vs.length k S = some R → ∀ x ∈ R.2, Sm x
  | 0, _, _, _, h => by cases h
  | k + 1, S, R, G, h => by
    have bd := good_bnd G hv hb hw
    unfold runM at h
    split at h
    · rename_i h0
      cases h
      intro x hx
      obtain ⟨y, hy, rfl⟩ := List.mem_map.mp hx
      obtain ⟨j, hj, e⟩ := List.mem_iff_getElem.mp (List.mem_of_mem_drop hy)
      have := bd.gl j (by rw [← G.lg]; exact hj)
      rw [List.getD_eq_getElem?_getD, List.getElem?_eq_getElem hj] at this
      show (-y).natAbs < _
      rw [Int.natAbs_neg, ← e]
      exact this
    · rename_i r hr
      obtain ⟨r1, r2, r3⟩ := above_some hr
      rw [G.lg] at r1
      split at h
      · rename_i hp
        cases h
        intro x hx
        exact ray_small bd.sc (fun k hk => bd.tb k r (by rw [← G.lb]; exact hk) r1) _ (Nat.le_refl _) x (List.mem_of_mem_take hx)
      · rename_i p hp
        obtain ⟨a, b, c, _⟩ := step_pick G hr hp
        exact run_small hv hb hw k _ R (step_good G a b c) h
theorem weigh_small {vs : List (List Int)} {w : Nat} (hv : ∀ v ∈ vs, v.length = w) (hb : ∀ v ∈ vs, ∀ x ∈ v, x.natAbs ≤ BIG) (hw : w ≤ 7) : ∀ x ∈ (weighM vs w).2, Sm x :=
  run_small hv hb hw _ _ _ (start_good hv) (weigh_run hv)
theorem sm_get {xs : List Int} (h : ∀ x ∈ xs, Sm x) (i : Nat) (hi : i < xs.length) : Sm (xs.getD i 0) := h _ (getD_mem' 0 hi)
/-! ### the places of what is no vector -/
def bads (ds : List PyData) (wd : Int) (i : Nat) : List Nat := (List.range i).filter fun k => !vecD (ds.getD k .none) wd
theorem bads_succ {ds : List PyData} {wd : Int} {i : Nat} : bads ds wd (i + 1) = bads ds wd i ++ if vecD (ds.getD i .none) wd = true then [] else [i] := by
  unfold bads
  rw [List.range_succ, List.filter_append]
  congr 1
  cases h : vecD (ds.getD i .none) wd <;> simp [List.filter_cons, ← List.getD_eq_getElem?_getD, h]
theorem bads_len {ds : List PyData} {wd : Int} {i : Nat} : (bads ds wd i).length ≤ i := by
  have := List.length_filter_le (fun k => !vecD (ds.getD k .none) wd) (List.range i)
  rw [List.length_range] at this
  exact this
theorem getD_at {α : Type} {ds : List α} {i : Nat} {x d : α} (h : ds[i]? = some x) : ds.getD i d = x := by
  rw [List.getD_eq_getElem?_getD, h]
  rfl
theorem bads_nil {ds : List PyData} {wd : Int} (h : bads ds wd ds.length = []) : firstBad wd ds 0 = none := by
  refine firstBad_none fun y hy => ?_
  obtain ⟨i, hi, e⟩ := List.mem_iff_getElem.mp hy
  cases hv : vecD y wd with
  | true => rfl
  | false =>
    have : i ∈ bads ds wd ds.length := List.mem_filter.mpr ⟨List.mem_range.mpr hi, by rw [getD_at (show ds[i]? = some y by rw [List.getElem?_eq_getElem hi, e]), hv]; rfl⟩
    rw [h] at this
    cases this
theorem bads_cons {ds : List PyData} {wd : Int} {j : Nat} {r : List Nat} (h : bads ds wd ds.length = j :: r) : firstBad wd ds 0 = some j := by
  have hj : j ∈ bads ds wd ds.length := by rw [h]; exact List.mem_cons_self
  obtain ⟨j1, j2⟩ := List.mem_filter.mp hj
  have j1 := List.mem_range.mp j1
  have pw : (bads ds wd ds.length).Pairwise (· < ·) := List.Pairwise.filter _ List.pairwise_lt_range
  rw [h] at pw
  have := firstBad_at (wd := wd) (xs := ds) (i := j) (j := 0) (x := ds[j]) (fun k y hk hy => ?_) (List.getElem?_eq_getElem j1) ?_
  · simpa using this
  · cases hv : vecD y wd with
    | true => rfl
    | false =>
      have hm : k ∈ bads ds wd ds.length := List.mem_filter.mpr ⟨List.mem_range.mpr (by omega), by rw [getD_at hy, hv]; rfl⟩
      rw [h] at hm
      rcases List.mem_cons.mp hm with e | e
      · omega
      · have := (List.pairwise_cons.mp pw).1 k e
        omega
  · rw [getD_at (List.getElem?_eq_getElem j1)] at j2
    simpa using j2
section
variable {P : Program} {w : World} {K : PySem.W.Frag} {mg : Str → Option Value} {base : Heap}
/-! ### _law_vectors_fault -/
abbrev sVF : Stmt := topS 33
abbrev nVF : List Str := ["_law_given", "_law_wide", "_law_bad", "_law_k"]
theorem scVF : FnScope nVF ["_law_given", "_law_wide"] (defScope sVF) := ⟨rfl, rfl, rfl, by decide +kernel, rfl, by decide +kernel, by decide +kernel⟩
def SmallL (d : PyData) : Prop := ∀ ds, itemsD d = some ds → ∀ z ∈ ds, SmallD z
def spVF : Sp := fun vs H Q _ => ∃ (B : Addr) (x y : V) (d e : PyData), vs = [x, y] ∧ At B H x d ∧ At B H y e ∧ SmallL d ∧ H B ≠ none ∧ (faultD d e = none → ∀ H', Same H H' → Q .non H') ∧
  (∀ f, faultD d e = some f → ∀ H' t, Same H H' → At B H' t (.tuple [.str f.code, f.pay]) → Q t H')
theorem pairAt {B t : Addr} {H : Hp} {c : Str} {v : V} {d : PyData} (n : t ≠ B) (e : H t = some (.tup [.str c, v])) (h : At B H v d) : At B H (.ref t) (.tuple [.str c, d]) := .tup n e (.cons (.str c) (.cons h .nil))
theorem neB {H : Hp} {B t : Addr} (h : H B ≠ none) (ht : H t = none) : t ≠ B := fun z => h (by rw [← z]; exact ht)
theorem same_ne {H H' : Hp} {B : Addr} (s : Same H H') (h : H B ≠ none) : H' B ≠ none := by
  cases e : H B with
  | none => exact absurd e h
  | some o => rw [s _ _ e]; simp
theorem ok_vf {f : Addr} {fd : FuncData} (F : Fun K "_law_vectors_fault" "_law_vectors_fault" sVF f fd) (T : Tx K mg) (D1 : Df P w K mg base 1 "_law_is_number" ["_law_item", "_law_low", "_law_high"] spNum) (D2 : Df P w K mg base 2 "_law_is_vector" ["_law_item", "_law_wide"] spLVec) :
    FnOk P w K mg base CX0 3 f fd ["_law_given", "_law_wide"] spVF := by
  refine F.ok scVF (fun vs H Q E h => ?_) (fun cdv A outer s H vs Q E hr h => ?_)
  · obtain ⟨B, x, y, d, e, rfl, _⟩ := h
    rfl
  · obtain ⟨B, x, y, d, e, rfl, hx, hy, hS, hB, q, o⟩ := h
    refine pss_step (ps_if (pt_not (pt_val (pe_d D1 hr (by rfl) (pa_cons (pv 1) (pa_cons pe_int (pa_cons pe_int pa_nil)))))) (pss_one (ps_ret (pe_tup (pa_cons pe_str (pa_cons (pv 1) pa_nil))))) pss_nil) ?_
    refine ⟨y, rfl, B, y, e, 1, 7, rfl, hy, _, rfl, ?_⟩
    cases c1 : numIn e 1 7 with
    | false =>
      have ef : faultD d e = some (.num e) := by simp [faultD, c1]
      refine iteT ⟨y, rfl, (by show 2 ≤ sizeLine; decide), fun t ht => o _ ef _ _ (same_upd ht) (pairAt (neB hB ht) upd_same (hy.sb (Sb.of (same_upd ht))))⟩
    | true =>
      obtain ⟨wd, rfl⟩ : ∃ wd, e = .int wd := by revert c1; cases e <;> simp [numIn]
      have ey := hy.intI
      subst ey
      have hwd : 1 ≤ wd ∧ wd ≤ 7 := by simpa [numIn] using c1
      refine iteF ?_
      refine pss_step (ps_if (pt_not (pt_val (pe_callB call_isiT (by rfl) T.isinstance PyProof.Rows.boot_isinstance (pa_cons (pv 0) (pa_cons (pe_tup (pa_cons (bL T (by rfl)) (pa_cons (bT T (by rfl)) pa_nil))) pa_nil))))) (pss_one (ps_ret (pe_tup (pa_cons pe_str (pa_cons (pe_un un_neg pe_int) pa_nil))))) pss_nil) ?_
      refine ⟨x, rfl, (by show 2 ≤ sizeLine; decide), fun tp htp => ?_⟩
      have s1 := same_upd (o := .tup [.ty "list", .ty "tuple"]) htp
      have hx1 := hx.sb (Sb.of s1)
      refine ⟨x, tp, _, _, _, _, rfl, upd_same, .cons (.ty _) (.cons (.ty _) .nil), hx1.ty, kit_seq d, _, rfl, ?_⟩
      have hB1 := same_ne s1 hB
      generalize upd H tp (.tup [.ty "list", .ty "tuple"]) = H1 at *
      cases c2 : isLst d || isTup d with
      | false =>
        have ef : faultD d (.int wd) = some (.vec (-1)) := by
          have : itemsD d = none := by revert c2; cases d <;> simp [isLst, isTup, itemsD]
          simp [faultD, c1, this]
        exact iteT ⟨1, rfl, (by show 2 ≤ sizeLine; decide), fun t ht => o _ ef _ _ (s1.trans (same_upd ht)) (pairAt (neB hB1 ht) upd_same (.int _))⟩
      | true =>
        refine iteF ?_
        obtain ⟨ds, a, xs, hds, rfl, hs, hJ⟩ : ∃ (ds : List PyData) (a : Addr) (xs : List V), itemsD d = some ds ∧ x = .ref a ∧ AtAll B H1 xs ds ∧ (H1 a = some (.lst xs) ∨ H1 a = some (.tup xs)) := by
          cases hx1 with
          | lst _ e h => exact ⟨_, _, _, rfl, rfl, h, .inl e⟩
          | tup _ e h => exact ⟨_, _, _, rfl, rfl, h, .inr e⟩
          | _ => simp [isLst, isTup] at c2
        have hl := hs.len
        have sq : ∀ H', Same H1 H' → SqL K H' a xs ∨ SqT K H' a xs := fun H' s => hJ.imp (fun e => SqL.of (s _ _ e)) (fun e => SqT.of (s _ _ e))
        refine pss_step (ps_if (pt_cmpR op_gt (pe_len T (pv 0)) pe_int (nomark _)) (pss_one (ps_ret (pe_tup (pa_cons pe_str (pa_cons pe_int pa_nil))))) pss_nil) ?_
        refine ⟨.ref a, rfl, a, xs, rfl, sq _ (Same.refl _), xs.length, 12, rfl, rfl, _, rfl, ?_⟩
        by_cases c3 : 12 < xs.length
        · have ef : faultD d (.int wd) = some .many := by simp [faultD, c1, hds, ← hl, c3]
          rw [decide_eq_true (show (12 : Int) < (xs.length : Int) by omega)]
          exact iteT ⟨(by show 2 ≤ sizeLine; decide), fun t ht => o _ ef _ _ (s1.trans (same_upd ht)) (pairAt (neB hB1 ht) upd_same (.int _))⟩
        · rw [decide_eq_false (show ¬ (12 : Int) < (xs.length : Int) by omega)]
          refine iteF ?_
          have ef0 : faultD d (.int wd) = (firstBad wd ds 0).map fun (i : Nat) => Fault.vec (i : Int) := by
            simp [faultD, c1, hds, ← hl, c3, wOf]
          refine pss_cut (fun σ' H' => ∃ D : Addr, σ' = [some (.ref a), some (.int wd), some (.ref D), none] ∧ Same H1 H' ∧ LsI H' D ((bads ds wd ds.length).map fun (k : Nat) => (k : Int)))
            (ps_setLc (i := 2) (own := [("_law_k", 3)]) (g := gName 3) rfl scVF.nd rfl rfl (sw_true rfl rfl rfl (by decide +kernel)) (pi_range1 (by rfl) T.range (pa_cons (pe_len T (pv 0)) pa_nil)) (blkOk_by (N := nVF) (sc := defScope sVF) (by decide +kernel)) (fun _ _ _ _ _ => pg_name (i := 3) scVF.nd rfl (Or.inl rfl))
              (fun _ _ _ _ _ => pts_one (pt_not (pt_val (pe_d (j := 2) D2 hr (by rfl) (pa_cons (pe_ix (ix_seq (K := K) rfl) (pv 0) (pv 3) (fun _ _ => rfl)) (pa_cons (pv 1) pa_nil)))))) (fun _ _ _ _ _ => pv 3)) ?_ ?_
          · refine ⟨.ref a, rfl, a, xs, rfl, sq _ (Same.refl _), (xs.length : Nat), rfl, by omega, by omega, fun D hD => ?_⟩
            rw [Int.toNat_natCast]
            refine lcP (n := xs.length) (fun i acc H' => Same H1 H' ∧ acc = (bads ds wd i).map fun (k : Nat) => V.int (k : Int)) (by omega) ⟨same_upd hD, rfl⟩ (fun i acc H' hi _ => hi) (fun acc H' p => Nat.le_refl _) (fun i acc v H' H2 hi eD el p y A C hA hC => ?_) (fun acc H' eD el p => ?_)
            · obtain ⟨rfl, rfl⟩ := y
              obtain ⟨s2, rfl⟩ := p
              obtain ⟨dz, h1, h2⟩ := hs.getV (show xs[i]? = some xs[i] from List.getElem?_eq_getElem hi)
              have hat : atI xs (0 + (i : Nat)) = some xs[i] := by rw [Int.zero_add]; exact atI_nat (List.getElem?_eq_getElem hi)
              have rd : ∀ R : VK, R xs[i] H2 → (rIxL K (.ref a) (.int (0 + (i : Nat))) H2 R ∨ rIxT K (.ref a) (.int (0 + (i : Nat))) H2 R) := fun R hR => (sq _ s2).imp (fun e => ⟨a, xs, _, _, rfl, rfl, e, hat, hR⟩) (fun e => ⟨a, xs, _, _, rfl, rfl, e, hat, hR⟩)
              refine ⟨rfl, .ref a, rfl, .int (0 + (i : Nat)), rfl, rd _ ⟨.int wd, rfl, B, xs[i], dz, wd, rfl, h2.sb (Sb.of s2), hS ds hds dz (List.mem_of_getElem? h1), by omega, fun H3 s3 => ⟨_, rfl, ?_⟩⟩⟩
              have eD3 := s3 _ _ eD
              cases c4 : vecD dz wd with
              | true =>
                refine iteF (hC H3 eD3 ⟨s2.trans s3, ?_⟩)
                rw [bads_succ, getD_at h1, c4, if_pos rfl, List.append_nil]
              | false =>
                refine iteT ⟨.int (0 + (i : Nat)), rfl, hA _ _ eD3 ⟨fun b o e => ?_, ?_⟩⟩
                · rw [upd_ne (ne_of_none e hD)]
                  exact s3 _ _ (s2 _ _ e)
                · rw [bads_succ, getD_at h1, c4, if_neg (by simp), List.map_append]
                  simp
            · obtain ⟨s2, rfl⟩ := p
              refine ⟨D, rfl, s2, ?_⟩
              show H' D = _
              rw [eD, ← hl, List.map_map]
              rfl
          · rintro σ' H2 ⟨D, rfl, s2, eD⟩
            have s12 := s1.trans s2
            have hB2 := same_ne s2 hB1
            refine pss_fin (ps_ret (pe_ifExp (pt_cmpR (op_neD (un64 hr)) (pv 2) (pe_lst pa_nil) (nomark _)) (pe_tup (pa_cons pe_str (pa_cons (pe_ix ix_list (pv 2) pe_int (fun _ _ => rfl)) pa_nil))) pe_non)) ?_
            refine ⟨.ref D, rfl, Nat.zero_le _, fun l hl' => ?_⟩
            have s3 := same_upd (o := .lst []) hl'
            have eD3 := s3 _ _ eD
            have el3 : (upd H2 l (.lst [])) l = some (.lst []) := upd_same
            have hB3 := same_ne s3 hB2
            generalize upd H2 l (.lst []) = H3 at *
            refine ⟨.list (((bads ds wd ds.length).map fun (k : Nat) => (k : Int)).map .int), .list [], .lst (SqL.of eD3) (atInts (B := B) _).dp, .lst (SqL.of el3) .nil, shI _, shI [], _, rfl, ?_⟩
            cases hb : bads ds wd ds.length with
            | nil => exact iteF (q (by rw [ef0, bads_nil hb]; rfl) _ (s12.trans s3))
            | cons j r =>
              rw [hb] at eD3
              refine iteT ⟨.ref D, rfl, D, _, 0, .int (j : Nat), rfl, rfl, SqL.of eD3, atI_nat (j := 0) rfl, (by show 2 ≤ sizeLine; decide), fun t ht => ?_⟩
              exact o (.vec (j : Nat)) (by rw [ef0, bads_cons hb]; rfl) _ _ ((s12.trans s3).trans (same_upd ht)) (pairAt (neB hB3 ht) upd_same (.int _))
end
end K69

/-! ## K8 -/
namespace K69
open PySem PySem.Spec PyProof.Rows L2
section
variable {X : Cx} {K : PySem.W.Frag} {p1 p2 p3 pos : Pos}
theorem pi_zipLTK (hK : X.K = K) {e e2 : Expr} {ta : TA} {p pos tpos : Pos} {elts : List Expr} {kk : Nat} (T : Tx K X.mg) (ha : PA X [e, e2] ta) (hg : Gl X "zip" := by rfl)
    (hs : starEach [e, e2] X.env = (false, eval e X.env) :: starEach [e2] X.env := by rfl) (hpl : (backTo pos (starEach [e2] X.env)).any (·.1) = false := by rfl) :
    PI X (.Tuple elts kk tpos) (.Call (.Name "zip" p) [e, e2] [] pos) (iZipLT K ta) := by
  subst hK
  exact pi_zipLT hg T.zip ha hs hpl
end
def leftE : Expr → Expr
  | .Compare l _ _ _ => l
  | _ => noE
section
variable {P : Program} {w : World} {K : PySem.W.Frag} {mg : Str → Option Value} {base : Heap}
/-! ### _law_weights_of -/
abbrev sWO : Stmt := topS 35
abbrev nWO : List Str := ["_law_item", "_law_given", "_law_wide", "_law_one", "_law_x"]
theorem scWO : FnScope nWO ["_law_item", "_law_given", "_law_wide"] (defScope sWO) := ⟨rfl, rfl, rfl, by decide +kernel, rfl, by decide +kernel, by decide +kernel⟩
def spWO : Sp := fun vs H Q _ => ∃ (B : Addr) (u g : Addr) (xs : List V) (ws : List Int) (vc : List (List Int)) (wd : Nat), vs = [.ref u, .ref g, .int (wd : Nat)] ∧ H u = some (.tup (ws.map V.int)) ∧ H g = some (.lst xs) ∧ AtAll B H xs (vc.map dV) ∧ IsW vc wd ws ∧
  (∀ v ∈ vc, v.length = wd) ∧ (∀ v ∈ vc, ∀ x ∈ v, Sm x) ∧ (∀ x ∈ ws, Sm x) ∧ wd ≤ 100 ∧ vc.length ≤ 100 ∧ ∀ H', Same H H' → Q (.bl true) H'
theorem all_rep {n : Nat} : ((List.replicate n true).all id) = true := by
  induction n with
  | zero => rfl
  | succ n ih => rw [List.replicate_succ, List.all_cons, ih]; rfl
theorem rep_get {n i : Nat} {α : Type} {x : α} (h : i < n) : (List.replicate n x)[i]? = some x := by
  rw [List.getElem?_replicate, if_pos h]
theorem wholes_ok {B : Addr} {H : Hp} {ws : List Int} (i : Nat) (y : V) (h : (ws.map V.int)[i]? = some y) : ∃ x : Int, ws[i]? = some x ∧ y = .int x := by
  rw [List.getElem?_map] at h
  obtain ⟨x, h1, rfl⟩ := Option.map_eq_some_iff.mp h
  exact ⟨x, h1, rfl⟩
theorem ok_wo {f : Addr} {fd : FuncData} (F : Fun K "_law_weights_of" "_law_weights_of" sWO f fd) (T : Tx K mg) (D1 : Df P w K mg base 1 "_law_is_whole" ["_law_item"] spLWh) (D2 : Df P w K mg base 1 "_law_dot" ["_law_one", "_law_other"] spDot) :
    FnOk P w K mg base CX0 2 f fd ["_law_item", "_law_given", "_law_wide"] spWO := by
  refine F.ok scWO (fun vs H Q E h => ?_) (fun cdv A outer s H vs Q E hr h => ?_)
  · obtain ⟨B, u, g, xs, ws, vc, wd, rfl, _⟩ := h
    rfl
  · obtain ⟨B, u, g, xs, ws, vc, wd, rfl, hu, hg, hA, ⟨w1, w2, w3⟩, hv, bv, bw, h1, h2, q⟩ := h
    have lx : xs.length = vc.length := by rw [hA.len, List.length_map]
    refine pss_cut (fun σ' H' => σ' = [some (.ref u), some (.ref g), some (.int (wd : Nat)), none, none] ∧ Same H H') (ps_if (PW.pt (pw_or (pt_not (pt_val (pe_isi T (pv 0) (bT T (by rfl))))) (pw_or (pt_cmpR op_ne (pe_len T (pv 0)) (pv 2) (nomark _)) (pw_or1 (pt_not (pt_val
          (pe_all T (pe_lc (own := [("_law_x", 4)]) (g := gName 4) (tt := tYes) rfl scWO.nd (pi_tup (pv 0)) (blkOk_by (N := nWO) (sc := defScope sWO) (by decide +kernel)) (fun _ _ _ _ _ => pg_name (i := 4) scWO.nd rfl (Or.inl rfl)) (fun _ _ _ _ _ => pts_nil)
          (fun _ _ _ _ _ => pe_d (j := 1) D1 hr (by rfl) (pa_cons (pv 4) pa_nil)))))))))) (pss_one (ps_ret pe_bl)) pss_nil) ?_ ?_
    · refine ⟨.ref u, rfl, .ref u, _, _, _, _, rfl, .ty _, .base (.tup hu), (kit_ty (kit_tup (.tuple []))), _, rfl, ?_⟩
      refine ⟨.ref u, rfl, u, _, rfl, .inr (SqT.of hu), .int (wd : Nat), rfl, rfl, _, rfl, ?_⟩
      rw [List.length_map, w1, decide_eq_true rfl]
      refine iteF ⟨.ref u, rfl, u, rfl, ⟨_, SqT.of hu⟩, fun D hD => lcm_tup (xs := ws.map V.int) (ys := (List.replicate ws.length true).map V.bl) (SqT.of hu) (fun H' s => SqT.of (s _ _ hu)) hD (by simp) (by simp; omega) (fun i y H2 hy s A hA => ?_) (fun H2 s eD => ?_)⟩
      · obtain ⟨x, hx, rfl⟩ := wholes_ok (B := B) (H := H) i y hy
        have hi := (List.getElem?_eq_some_iff.mp hx).1
        refine ⟨rfl, .int x, rfl, B, .int x, .int x, rfl, .int x, hA _ _ ?_ (Same.refl _)⟩
        rw [List.getElem?_map, rep_get hi]
        show some (V.bl true) = some (V.bl (decide (0 ≤ x)))
        rw [decide_eq_true (w2 x (List.mem_of_getElem? hx))]
      · refine ⟨D, _, rfl, SqL.of eD, _, rfl, ?_⟩
        rw [all_rep]
        exact iteF ⟨rfl, s⟩
    · rintro σ' H1 ⟨rfl, s1⟩
      have hu1 := s1 _ _ hu
      have hg1 := s1 _ _ hg
      have hA1 := hA.sb (Sb.of s1)
      refine pss_fin (ps_ret (pe_all T (pe_lc (own := [("_law_one", 3)]) (g := gName 3) (tt := tYes) rfl scWO.nd (pi_list (pv 1)) (blkOk_by (N := nWO) (sc := defScope sWO) (by decide +kernel)) (fun _ _ _ _ _ => pg_name (i := 3) scWO.nd rfl (Or.inl rfl)) (fun _ _ _ _ _ => pts_nil)
          (fun _ _ _ _ _ => pe_cmpR op_gt (pe_d (j := 1) D2 hr (by rfl) (pa_cons (pv 3) (pa_cons (pv 0) pa_nil))) pe_int (nomark _))))) ?_
      refine ⟨.ref g, rfl, g, rfl, ⟨xs, SqL.of hg1⟩, fun D hD => lcm_list (xs := xs) (ys := (List.replicate xs.length true).map V.bl) (fun H' s => SqL.of (s _ _ hg1)) hD (by simp) (by simp; omega) (fun i y H2 hy s A hA' => ?_) (fun H2 s eD => ?_)⟩
      · obtain ⟨vv, c, e1, rfl, nc, ec⟩ := vec_get hA1 hy
        have hm := List.mem_of_getElem? e1
        have hi := (List.getElem?_eq_some_iff.mp hy).1
        refine ⟨rfl, .ref c, rfl, .ref u, rfl, c, u, vv, ws, rfl, s _ _ ec, s _ _ hu1, by rw [hv vv hm, w1], by rw [hv vv hm]; omega, sm_get (bv vv hm), sm_get bw, fun H3 s3 => ⟨_, 0, rfl, rfl, hA' _ _ ?_ s3⟩⟩
        rw [List.getElem?_map, rep_get hi]
        exact congrArg (fun b => some (V.bl b)) (decide_eq_true (w3 vv hm)).symm
      · refine ⟨D, _, rfl, SqL.of eD, ?_⟩
        rw [all_rep]
        exact q _ (s1.trans s)
/-! ### _law_counters -/
abbrev sCO : Stmt := topS 36
abbrev nCO : List Str := ["_law_item", "_law_given", "_law_wide", "_law_k", "_law_one", "_law_x"]
theorem scCO : FnScope nCO ["_law_item", "_law_given", "_law_wide"] (defScope sCO) := ⟨rfl, rfl, rfl, by decide +kernel, rfl, by decide +kernel, by decide +kernel⟩
abbrev scCO1 : Scope := lcScope (argE 0 (asgV ((defBody sCO).getD 2 (.Pass ⟨0, 0, 0, 0⟩))))
def spCO : Sp := fun vs H Q _ => ∃ (B : Addr) (u g : Addr) (xs : List V) (ws : List Int) (vc : List (List Int)) (wd : Nat), vs = [.ref u, .ref g, .int (wd : Nat)] ∧ H u = some (.tup (ws.map V.int)) ∧ H g = some (.lst xs) ∧ AtAll B H xs (vc.map dV) ∧ IsC vc wd ws ∧
  (∀ v ∈ vc, v.length = wd) ∧ (∀ v ∈ vc, ∀ x ∈ v, Sm x) ∧ (∀ x ∈ ws, Sm x) ∧ wd ≤ 100 ∧ vc.length ≤ 100 ∧ ∀ H', Same H H' → Q (.bl true) H'
theorem ok_co {f : Addr} {fd : FuncData} (F : Fun K "_law_counters" "_law_counters" sCO f fd) (T : Tx K mg) (D1 : Df P w K mg base 1 "_law_is_whole" ["_law_item"] spLWh) :
    FnOk P w K mg base CX0 2 f fd ["_law_item", "_law_given", "_law_wide"] spCO := by
  refine F.ok scCO (fun vs H Q E h => ?_) (fun cdv A outer s H vs Q E hr h => ?_)
  · obtain ⟨B, u, g, xs, ws, vc, wd, rfl, _⟩ := h
    rfl
  · obtain ⟨B, u, g, xs, ws, vc, wd, rfl, hu, hg, hA, ⟨w1, w2, ⟨wx, wx1, wx2⟩, w3⟩, hv, bv, bw, h1, h2, q⟩ := h
    have lx : xs.length = vc.length := by rw [hA.len, List.length_map]
    refine pss_cut (fun σ' H' => σ' = [some (.ref u), some (.ref g), some (.int (wd : Nat)), none, none, none] ∧ Same H H') (ps_if (PW.pt (pw_or (pt_not (pt_val (pe_isi T (pv 0) (bT T (by rfl))))) (pw_or (pt_cmpR op_ne (pe_len T (pv 0)) (pe_len T (pv 1)) (nomark _)) (pw_or1 (pt_not (pt_val
          (pe_all T (pe_lc (own := [("_law_x", 5)]) (g := gName 5) (tt := tYes) rfl scCO.nd (pi_tup (pv 0)) (blkOk_by (N := nCO) (sc := defScope sCO) (by decide +kernel)) (fun _ _ _ _ _ => pg_name (i := 5) scCO.nd rfl (Or.inl rfl)) (fun _ _ _ _ _ => pts_nil)
          (fun _ _ _ _ _ => pe_d (j := 1) D1 hr (by rfl) (pa_cons (pv 5) pa_nil)))))))))) (pss_one (ps_ret pe_bl)) pss_nil) ?_ ?_
    · refine ⟨.ref u, rfl, .ref u, _, _, _, _, rfl, .ty _, .base (.tup hu), (kit_ty (kit_tup (.tuple []))), _, rfl, ?_⟩
      refine ⟨.ref u, rfl, u, _, rfl, .inr (SqT.of hu), .ref g, rfl, g, xs, rfl, .inl (SqL.of hg), rfl, _, rfl, ?_⟩
      rw [List.length_map, w1, lx, decide_eq_true rfl]
      refine iteF ⟨.ref u, rfl, u, rfl, ⟨_, SqT.of hu⟩, fun D hD => lcm_tup (xs := ws.map V.int) (ys := (List.replicate ws.length true).map V.bl) (SqT.of hu) (fun H' s => SqT.of (s _ _ hu)) hD (by simp) (by simp; omega) (fun i y H2 hy s A hA => ?_) (fun H2 s eD => ?_)⟩
      · obtain ⟨x, hx, rfl⟩ := wholes_ok (B := B) (H := H) i y hy
        have hi := (List.getElem?_eq_some_iff.mp hx).1
        refine ⟨rfl, .int x, rfl, B, .int x, .int x, rfl, .int x, hA _ _ ?_ (Same.refl _)⟩
        rw [List.getElem?_map, rep_get hi]
        show some (V.bl true) = some (V.bl (decide (0 ≤ x)))
        rw [decide_eq_true (w2 x (List.mem_of_getElem? hx))]
      · refine ⟨D, _, rfl, SqL.of eD, _, rfl, ?_⟩
        rw [all_rep]
        exact iteF ⟨rfl, s⟩
    rintro σ' H1 ⟨rfl, s1⟩
    have hu1 := s1 _ _ hu
    have hg1 := s1 _ _ hg
    have hA1 := hA.sb (Sb.of s1)
    refine pss_cut (fun σ' H' => σ' = [some (.ref u), some (.ref g), some (.int (wd : Nat)), none, none, none] ∧ Same H1 H') (ps_if (pt_cmpR (op_eqD (un64 hr)) (pe_lc (own := [("_law_x", 5)]) (g := gName 5) rfl scCO.nd (pi_tup (pv 0)) (blkOk_by (N := nCO) (sc := defScope sCO) (by decide +kernel)) (fun _ _ _ _ _ => pg_name (i := 5) scCO.nd rfl (Or.inl rfl)) (fun _ _ _ _ _ => pts_one (pt_cmpR op_gt (pv 5) pe_int (nomark _))) (fun _ _ _ _ _ => pv 5)) (pe_lst pa_nil) (nomark _)) (pss_one (ps_ret pe_bl)) pss_nil) ?_ ?_
    · refine ⟨.ref u, rfl, u, rfl, ⟨_, SqT.of hu1⟩, fun D2 hD2 => lcP (n := ws.length) (fun i acc H' => Same H1 H' ∧ ∃ ms : List Int, acc = ms.map V.int ∧ ∀ z ∈ ws.take i, 0 < z → z ∈ ms) (by omega) ⟨same_upd hD2, [], rfl, by simp⟩ (fun i acc H' hi p => ⟨ws.map V.int, V.int ws[i], SqT.of (p.1 _ _ hu1), by rw [List.getElem?_map, List.getElem?_eq_getElem hi]; rfl⟩) (fun acc H' p => ⟨_, SqT.of (p.1 _ _ hu1), by simp⟩)
              (fun i acc v H' H3 hi eD3 el p y A C hA' hC => ?_) (fun acc H3 eD3 el p => ?_)⟩
      · obtain ⟨s3, ms, rfl, hm⟩ := p
        obtain ⟨rfl, y⟩ := y
        have hx := y _ (SqT.of (s3 _ _ hu1))
        obtain ⟨x, h1, rfl⟩ := wholes_ok (B := B) (H := H) i v hx
        have key : ∀ z ∈ ws.take (i + 1), z ∈ ws.take i ∨ z = x := fun z hz => by
          rw [List.take_add_one, h1] at hz
          rcases List.mem_append.mp hz with h | h
          · exact .inl h
          · exact .inr (by simpa using h)
        refine ⟨rfl, .int x, rfl, x, 0, rfl, rfl, _, rfl, ?_⟩
        by_cases cx : 0 < x
        · rw [decide_eq_true cx]
          refine iteT ⟨.int x, rfl, hA' _ _ eD3 ⟨fun b o e => ?_, ms ++ [x], by simp, fun z hz hp => ?_⟩⟩
          · rw [upd_ne (ne_of_none e hD2)]
            exact s3 _ _ e
          · rcases key z hz with h | h
            · exact List.mem_append.mpr (.inl (hm z h hp))
            · exact List.mem_append.mpr (.inr (by simp [h]))
        · rw [decide_eq_false cx]
          refine iteF (hC _ eD3 ⟨s3, ms, rfl, fun z hz hp => ?_⟩)
          rcases key z hz with h | h
          · exact hm z h hp
          · rw [h] at hp; exact absurd hp cx
      · obtain ⟨s3, ms, rfl, hm⟩ := p
        refine ⟨Nat.zero_le _, fun l hl' => ?_⟩
        have s4 := same_upd (o := .lst []) hl'
        refine ⟨.list (ms.map .int), .list [], .lst (SqL.of (s4 _ _ eD3)) (atInts (B := B) ms).dp, .lst (SqL.of upd_same) .nil, shI _, shI [], _, rfl, ?_⟩
        rw [List.take_length] at hm
        have hne := hm wx wx1 wx2
        cases ms with
        | nil => cases hne
        | cons m ms => exact iteF ⟨rfl, s3.trans s4⟩
    rintro σ' H2 ⟨rfl, s2⟩
    have hu2 := s2 _ _ hu1
    have hg2 := s2 _ _ hg1
    have hA2 := hA1.sb (Sb.of s2)
    refine pss_fin (ps_ret (pe_all T (pe_lc (own := [("_law_k", 3)]) (g := gName 3) (tt := tYes) rfl scCO.nd (pi_range1 (by rfl) T.range (pa_cons (pv 2) pa_nil)) (blkOk_by (N := nCO) (sc := defScope sCO) (by decide +kernel)) (fun _ _ _ _ _ => pg_name (i := 3) scCO.nd rfl (Or.inr rfl)) (fun _ _ _ _ _ => pts_nil)
          (fun _ _ _ _ _ => pe_cmpR op_le (pe_sumK (K := K) rfl T (pe_lc (own := [("_law_one", 4), ("_law_x", 5)]) (g := gTup K 2 (gCons (gName 4) (gCons (gName 5) gNil))) (tt := tYes) rfl scCO.nd (pi_zipLTK (K := K) rfl T (pa_cons (pv 1) (pa_cons (pv 0) pa_nil))) (blkOk_by (N := nCO) (sc := relS scCO1 (defScope sCO)) (by decide +kernel))
            (fun _ _ _ _ _ => pg_tup rfl (pgs_cons (pg_name (i := 4) scCO.nd rfl (.inl rfl) (.inr rfl)) (pgs_cons (pg_name (i := 5) scCO.nd rfl (.inl rfl) (.inr rfl)) pgs_nil))) (fun _ _ _ _ _ => pts_nil)
            (fun _ _ _ _ _ => pe_op op_mulW (pe_ix (show IxR _ (rIxT K) from ix_tup) (pv 4) (pv 3) (fun _ _ => rfl)) (pv 5)))) pe_int (nomark _))))) ?_
    refine ⟨.int (wd : Nat), rfl, (wd : Nat), rfl, by omega, by omega, fun D hD => lcV (n := wd) ((List.replicate wd true).map V.bl) hD (by simp) (by omega) (fun i H' hi _ => hi) (fun H' _ => Nat.le_refl _) (fun i v H' H3 hi s3 y => ?_) (fun H3 s3 eD => ?_)⟩
    · obtain ⟨rfl, rfl⟩ := y
      refine ⟨Same.refl _, fun A hA' => ⟨rfl, .ref g, rfl, .ref u, rfl, ?_⟩⟩
      have hg3 := s3 _ _ hg2
      have hu3 := s3 _ _ hu2
      refine ⟨g, u, xs, ws.map V.int, rfl, SqL.of hg3, SqT.of hu3, fun M hM => ?_⟩
      refine lcV (n := vc.length) ((List.zipWith (fun (v : List Int) x => v.getD i 0 * x) vc ws).map V.int) hM (by simp [w1]) (by omega) (fun j H' hj s => ⟨SqL.of (s _ _ hg3), SqT.of (s _ _ hu3), by omega, by simp; omega⟩) (fun H' s => ⟨SqL.of (s _ _ hg3), SqT.of (s _ _ hu3), by omega, by simp; omega, .inl lx.symm⟩)
        (fun j v H' H9 hj s y => ?_) (fun H9 s9 eM => ?_)
      · obtain ⟨Tp, x, z, rfl, hT, rfl, ex, ez'⟩ := y
        obtain ⟨vv, c, e1, rfl, nc, ec⟩ := vec_get (hA2.sb (Sb.of s3)) ex
        obtain ⟨cx, h1, rfl⟩ := wholes_ok (B := B) (H := H) j z ez'
        have hm := List.mem_of_getElem? e1
        have sT := same_upd (o := .tup [.ref c, .int cx]) hT
        have hi' : i < vv.length := by rw [hv vv hm]; exact hi
        refine ⟨sT, fun A hA' => ⟨Tp, _, rfl, SqT.of upd_same, rfl, _, _, rfl, _, _, rfl, rfl, rfl, ?_⟩⟩
        refine ⟨.ref c, rfl, .int (0 + (i : Nat)), rfl, c, vv.map V.int, (0 + (i : Nat)), _, rfl, rfl, SqT.of (sT _ _ (s _ _ ec)), by rw [Int.zero_add]; exact at_int hi', .int cx, rfl, _, _, rfl, rfl, wide_mul (a := 300) (b := 300) (sm_get (bv vv hm) i hi') (bw cx (List.mem_of_getElem? h1)) (by decide) (by decide) (by decide), hA' _ _ (Same.refl _) ?_⟩
        rw [List.getElem?_map, List.getElem?_zipWith, e1, h1]
        rfl
      · refine ⟨M, _, rfl, SqL.of eM, _, 0, rfl, rfl, hA' _ _ s9 ?_⟩
        rw [List.getElem?_map, rep_get hi]
        exact congrArg (fun b => some (V.bl b)) (decide_eq_true (w3 i hi)).symm
    · refine ⟨D, _, rfl, SqL.of eD, ?_⟩
      rw [all_rep]
      exact q _ ((s1.trans s2).trans s3)
/-! ### _law_told_so -/
abbrev sTS : Stmt := topS 39
abbrev nTS : List Str := ["_law_told", "_law_given", "_law_wide"]
theorem scTS : FnScope nTS ["_law_told", "_law_given", "_law_wide"] (defScope sTS) := ⟨rfl, rfl, rfl, by decide +kernel, rfl, by decide +kernel, by decide +kernel⟩
/-- t holds weigh's answer -/
def ToldAt (H : Hp) (t : Addr) (R : Bool × List Int) : Prop := ∃ u : Addr, H t = some (.tup [.str (wordM R), .ref u]) ∧ H u = some (.tup (R.2.map V.int))
theorem ToldAt.same {H H' : Hp} {t : Addr} {R : Bool × List Int} (s : Same H H') (h : ToldAt H t R) : ToldAt H' t R := by
  obtain ⟨u, a, b⟩ := h
  exact ⟨u, s _ _ a, s _ _ b⟩
def spTS : Sp := fun vs H Q _ => ∃ (B : Addr) (t g : Addr) (xs : List V) (R : Bool × List Int) (vc : List (List Int)) (wd : Nat), vs = [.ref t, .ref g, .int (wd : Nat)] ∧ ToldAt H t R ∧ H g = some (.lst xs) ∧ AtAll B H xs (vc.map dV) ∧ ((R.1 = true ∧ IsW vc wd R.2) ∨ (R.1 = false ∧ IsC vc wd R.2)) ∧
  (∀ v ∈ vc, v.length = wd) ∧ (∀ v ∈ vc, ∀ x ∈ v, Sm x) ∧ (∀ x ∈ R.2, Sm x) ∧ wd ≤ 100 ∧ vc.length ≤ 100 ∧ ∀ H', Same H H' → Q (.bl true) H'
theorem ok_ts {f : Addr} {fd : FuncData} (F : Fun K "_law_told_so" "_law_told_so" sTS f fd) (T : Tx K mg) (D1 : Df P w K mg base 2 "_law_weights_of" ["_law_item", "_law_given", "_law_wide"] spWO) (D2 : Df P w K mg base 2 "_law_counters" ["_law_item", "_law_given", "_law_wide"] spCO) :
    FnOk P w K mg base CX0 3 f fd ["_law_told", "_law_given", "_law_wide"] spTS := by
  refine F.ok scTS (fun vs H Q E h => ?_) (fun cdv A outer s H vs Q E hr h => ?_)
  · obtain ⟨B, t, g, xs, R, vc, wd, rfl, _⟩ := h
    rfl
  · obtain ⟨B, t, g, xs, R, vc, wd, rfl, ⟨u, ht, hu⟩, hg, hA, hR, hv, bv, bw, h1, h2, q⟩ := h
    refine ⟨_, pss_cons (ps_if (PW.pt (pw_or (pt_not (pt_val (pe_isi T (pv 0) (bT T (by rfl))))) (pw_or (pt_cmpR op_ne (pe_len T (pv 0)) pe_int (nomark _)) (pw_or1 (pt_not (pt_val (pe_isi T (pe_ix ix_tup (pv 0) pe_int (fun _ _ => rfl)) (bS T (by rfl))))))))) (pss_one (ps_ret pe_bl)) pss_nil)
      (pss_cons (ps_if (pt_cmpR op_eq (pe_ix ix_tup (pv 0) pe_int (fun _ _ => rfl)) pe_str (nomark _)) (pss_one (ps_ret (pe_d D1 hr (by rfl) (pa_cons (pe_ix ix_tup (pv 0) pe_int (fun _ _ => rfl)) (pa_cons (pv 1) (pa_cons (pv 2) pa_nil)))))) pss_nil)
      (pss_one (ps_ret (pe_and (pe_cmpR op_eq (pe_ix ix_tup (pv 0) pe_int (fun _ _ => rfl)) pe_str (nomark _)) (pe_one (pe_d D2 hr (by rfl) (pa_cons (pe_ix ix_tup (pv 0) pe_int (fun _ _ => rfl)) (pa_cons (pv 1) (pa_cons (pv 2) pa_nil))))))))), ?_⟩
    have g0 : atI [V.str (wordM R), V.ref u] 0 = some (.str (wordM R)) := atI_nat (j := 0) rfl
    have g1 : atI [V.str (wordM R), V.ref u] 1 = some (.ref u) := atI_nat (j := 1) rfl
    refine ⟨.ref t, rfl, .ref t, _, _, _, _, rfl, .ty _, .base (.tup ht), (kit_ty (kit_tup (.tuple []))), _, rfl, ?_⟩
    refine ⟨.ref t, rfl, t, _, rfl, .inr (SqT.of ht), rfl, _, rfl, ?_⟩
    refine iteF ⟨.ref t, rfl, t, _, 0, _, rfl, rfl, SqT.of ht, g0, .str (wordM R), _, _, _, _, rfl, .ty _, .base (.str _), (kit_ty (kit_str (.str (wordM R)))), _, rfl, ?_⟩
    refine iteF ⟨.ref t, rfl, t, _, 0, _, rfl, rfl, SqT.of ht, g0, rfl, _, rfl, ?_⟩
    rcases hR with ⟨e, hW⟩ | ⟨e, hC⟩
    · have ew : wordM R = "weights" := by unfold wordM; rw [if_pos e]
      rw [decide_eq_true (by rw [ew])]
      exact iteT ⟨.ref t, rfl, t, _, 1, _, rfl, rfl, SqT.of ht, g1, .ref g, rfl, .int (wd : Nat), rfl, B, u, g, xs, R.2, vc, wd, rfl, hu, hg, hA, hW, hv, bv, bw, h1, h2, q⟩
    · have ew : wordM R = "counterweight" := by unfold wordM; rw [if_neg (by rw [e]; decide)]
      have e1 : decide (V.str (wordM R) = V.str "weights") = false := by
        rw [ew]
        decide +kernel
      rw [e1]
      refine iteF ⟨.ref t, rfl, t, _, 0, _, rfl, rfl, SqT.of ht, g0, rfl, _, rfl, ?_⟩
      rw [decide_eq_true (by rw [ew])]
      exact iteT ⟨.ref t, rfl, t, _, 1, _, rfl, rfl, SqT.of ht, g1, .ref g, rfl, .int (wd : Nat), rfl, B, u, g, xs, R.2, vc, wd, rfl, hu, hg, hA, hC, hv, bv, bw, h1, h2, q⟩
end
end K69

/-! ## K9 -/
namespace K69
open PySem PySem.Spec PyProof.Rows L2
def flatD : PyData → Bool
  | .none => true
  | .bool _ => true
  | .int _ => true
  | .str _ => true
  | _ => false
def Okd : Nat → PyData → Prop
  | 0, d => flatD d = true
  | n + 1, d => flatD d = true ∨ ∃ ds, (d = .list ds ∨ d = .tuple ds) ∧ ds.length ≤ 1000 ∧ ∀ z ∈ ds, Okd n z
theorem Okd.succ {d : PyData} : ∀ {n : Nat}, Okd n d → flatD d = true ∨ ∃ (m : Nat) (ds : List PyData), n = m + 1 ∧ (d = .list ds ∨ d = .tuple ds) ∧ ds.length ≤ 1000 ∧ ∀ z ∈ ds, Okd m z
  | 0, h => .inl h
  | n + 1, h => h.elim .inl fun ⟨ds, a, b, c⟩ => .inr ⟨n, ds, rfl, a, b, c⟩
section
variable {P : Program} {w : World} {K : PySem.W.Frag} {mg : Str → Option Value} {base : Heap}
abbrev sLike : Stmt := topS 27
abbrev nLike : List Str := ["_law_a", "_law_b", "_law_c", "_law_d"]
theorem scLike : FnScope nLike ["_law_a", "_law_b"] (defScope sLike) := ⟨rfl, rfl, rfl, by decide +kernel, rfl, by decide +kernel, by decide +kernel⟩
def spLike (n : Nat) : Sp := fun vs H Q _ => ∃ (B : Addr) (x y : V) (d : PyData), vs = [x, y] ∧ At B H x d ∧ At B H y d ∧ Okd n d ∧ ∀ H', Same H H' → Q (.bl true) H'
theorem dec_bl_refl (b : Bool) : (!decide (V.bl b = V.bl b)) = false := by simp
theorem ok_like {f : Addr} {fd : FuncData} (F : Fun K "_law_like" "_law_like" sLike f fd) (T : Tx K mg) (m : mg "_law_like" = some (.ref f)) (kp : PySem.W.keepIn K (.ref f) = true) (bi : Binds K fd ["_law_a", "_law_b"] []) :
    ∀ n : Nat, FnOk P w K mg base CX0 (n + 1) f fd ["_law_a", "_law_b"] (spLike n) := by
  intro n
  induction n with
  | zero => exact go 0 (fun _ h => absurd h (by omega)) 
  | succ n ih => exact go (n + 1) (fun k h => by
      have e : k = n := by omega
      subst e
      exact ih)
where
  go (n : Nat) (self : ∀ k, n = k + 1 → FnOk P w K mg base CX0 (k + 1) f fd ["_law_a", "_law_b"] (spLike k)) : FnOk P w K mg base CX0 (n + 1) f fd ["_law_a", "_law_b"] (spLike n) := by
    refine F.ok scLike (fun vs H Q E h => ?_) (fun cdv A outer s H vs Q E hr h => ?_)
    · obtain ⟨B, x, y, d, rfl, _⟩ := h
      rfl
    · obtain ⟨B, x, y, d, rfl, hx, hy, hd, q⟩ := h
      have tx := fun (T : String) => hx.ty (K := K)
      refine ⟨_, pss_cons (ps_if (pt_val (pe_isi T (pv 1) (bD T (by rfl)))) pss_any pss_nil)
        (pss_cons (ps_if (PW.pt (pw_or (pt_val (pe_isi T (pv 1) (bL T (by rfl)))) (pw_or1 (pt_val (pe_isi T (pv 1) (bT T (by rfl))))))) pss_any pss_nil)
        (pss_cons (ps_if (PW.pt (pw_or (pt_cmpR op_isN (pv 0) pe_non (nomark _)) (pw_or1 (pt_cmpR op_isN (pv 1) pe_non (nomark _))))) (pss_one (ps_ret (pe_and (pe_cmpR op_isN (pv 0) pe_non (nomark _)) (pe_one (pe_cmpR op_isN (pv 1) pe_non (nomark _)))))) pss_nil)
        (pss_cons (ps_if (PW.pt (pw_or (pt_cmpR op_ne (pe_isi T (pv 0) (bB T (by rfl))) (pe_isi T (pv 1) (bB T (by rfl))) (nomark _)) (pw_or1 (pt_cmpR op_ne (pe_isi T (pv 0) (bI T (by rfl))) (pe_isi T (pv 1) (bI T (by rfl))) (nomark _))))) (pss_one (ps_ret pe_bl)) pss_nil)
        (pss_one (ps_ret (pe_and (pe_cmpR op_eq (pe_isi T (pv 0) (bS T (by rfl))) (pe_isi T (pv 1) (bS T (by rfl))) (nomark _)) (pe_one (pe_cmpR op_eq (pv 0) (pv 1) (nomark _))))))))), ?_⟩
      have nd : isDct d = false := by cases hx <;> rfl
      refine ⟨y, rfl, y, _, _, _, _, rfl, .ty _, hy.ty, kit_ty (kit_dct d), _, rfl, ?_⟩
      rw [nd]
      refine iteF ?_
      rcases hd.succ with hf | ⟨k, ds, rfl, hds, hz, hk⟩
      · have n1 : isLst d = false := by revert hf; cases d <;> simp [flatD, isLst]
        have n2 : isTup d = false := by revert hf; cases d <;> simp [flatD, isTup]
        refine ⟨y, rfl, y, _, _, _, _, rfl, .ty _, hy.ty, kit_ty (kit_lst d), _, rfl, ?_⟩
        rw [n1]
        refine iteF ⟨y, rfl, y, _, _, _, _, rfl, .ty _, hy.ty, kit_ty (kit_tup d), _, rfl, ?_⟩
        rw [n2]
        refine iteF ⟨x, rfl, rfl, _, rfl, ?_⟩
        cases hx with
        | non =>
          have : y = .non := by cases hy; rfl
          subst this
          refine iteT ⟨.non, rfl, rfl, _, rfl, iteT ⟨.non, rfl, rfl, q _ (Same.refl _)⟩⟩
        | lst => simp [isLst] at n1
        | tup => simp [isTup] at n2
        | bl b =>
          have : y = .bl b := by cases hy; rfl
          subst this
          refine iteF ⟨_, rfl, rfl, _, rfl, iteF ?_⟩
          refine ⟨_, rfl, .bl b, _, _, _, _, rfl, .ty _, .base (.bl b), kit_ty (kit_bool (.bool b)), _, rfl, .bl b, _, _, _, _, rfl, .ty _, .base (.bl b), kit_ty (kit_bool (.bool b)), rfl, _, rfl, ?_⟩
          rw [dec_bl_refl]
          refine iteF ⟨_, rfl, .bl b, _, _, _, _, rfl, .ty _, .base (.bl b), kit_ty (kit_int (.bool b)), _, rfl, .bl b, _, _, _, _, rfl, .ty _, .base (.bl b), kit_ty (kit_int (.bool b)), rfl, _, rfl, ?_⟩
          rw [dec_bl_refl]
          refine iteF ⟨_, rfl, .bl b, _, _, _, _, rfl, .ty _, .base (.bl b), kit_ty (kit_str (.bool b)), _, rfl, .bl b, _, _, _, _, rfl, .ty _, .base (.bl b), kit_ty (kit_str (.bool b)), rfl, _, rfl, ?_⟩
          rw [decide_eq_true rfl]
          refine iteT ⟨_, rfl, _, rfl, rfl, ?_⟩
          rw [decide_eq_true rfl]
          exact q _ (Same.refl _)
        | int b =>
          have : y = .int b := by cases hy; rfl
          subst this
          refine iteF ⟨_, rfl, rfl, _, rfl, iteF ?_⟩
          refine ⟨_, rfl, .int b, _, _, _, _, rfl, .ty _, .base (.int b), kit_ty (kit_bool (.int b)), _, rfl, .int b, _, _, _, _, rfl, .ty _, .base (.int b), kit_ty (kit_bool (.int b)), rfl, _, rfl, ?_⟩
          rw [dec_bl_refl]
          refine iteF ⟨_, rfl, .int b, _, _, _, _, rfl, .ty _, .base (.int b), kit_ty (kit_int (.int b)), _, rfl, .int b, _, _, _, _, rfl, .ty _, .base (.int b), kit_ty (kit_int (.int b)), rfl, _, rfl, ?_⟩
          rw [dec_bl_refl]
          refine iteF ⟨_, rfl, .int b, _, _, _, _, rfl, .ty _, .base (.int b), kit_ty (kit_str (.int b)), _, rfl, .int b, _, _, _, _, rfl, .ty _, .base (.int b), kit_ty (kit_str (.int b)), rfl, _, rfl, ?_⟩
          rw [decide_eq_true rfl]
          refine iteT ⟨_, rfl, _, rfl, rfl, ?_⟩
          rw [decide_eq_true rfl]
          exact q _ (Same.refl _)
        | str b =>
          have : y = .str b := by cases hy; rfl
          subst this
          refine iteF ⟨_, rfl, rfl, _, rfl, iteF ?_⟩
          refine ⟨_, rfl, .str b, _, _, _, _, rfl, .ty _, .base (.str b), kit_ty (kit_bool (.str b)), _, rfl, .str b, _, _, _, _, rfl, .ty _, .base (.str b), kit_ty (kit_bool (.str b)), rfl, _, rfl, ?_⟩
          rw [dec_bl_refl]
          refine iteF ⟨_, rfl, .str b, _, _, _, _, rfl, .ty _, .base (.str b), kit_ty (kit_int (.str b)), _, rfl, .str b, _, _, _, _, rfl, .ty _, .base (.str b), kit_ty (kit_int (.str b)), rfl, _, rfl, ?_⟩
          rw [dec_bl_refl]
          refine iteF ⟨_, rfl, .str b, _, _, _, _, rfl, .ty _, .base (.str b), kit_ty (kit_str (.str b)), _, rfl, .str b, _, _, _, _, rfl, .ty _, .base (.str b), kit_ty (kit_str (.str b)), rfl, _, rfl, ?_⟩
          rw [decide_eq_true rfl]
          refine iteT ⟨_, rfl, _, rfl, rfl, ?_⟩
          rw [decide_eq_true rfl]
          exact q _ (Same.refl _)
      · have D1 : Df P w K mg base (k + 1) "_law_like" ["_law_a", "_law_b"] (spLike k) := ⟨f, fd, self k rfl, m, kp, bi⟩
        rcases hds with rfl | rfl
        · obtain ⟨a, xs, rfl, na, ea, hs⟩ := hx.lstI
          obtain ⟨b, ys, rfl, nb, eb, hs'⟩ := hy.lstI
          have l1 := hs.len
          have l2 := hs'.len
          refine ⟨_, rfl, .ref b, _, _, _, _, rfl, .ty _, hy.ty, kit_ty (kit_lst (.list ds)), _, rfl, ?_⟩
          refine iteT ?_
          refine pss_step (ps_if (PW.pt (pw_or (pt_cmpR op_ne (pe_isi T (pv 0) (bL T (by rfl))) (pe_isi T (pv 1) (bL T (by rfl))) (nomark _)) (pw_or1 (pt_cmpR op_ne (pe_isi T (pv 0) (bT T (by rfl))) (pe_isi T (pv 1) (bT T (by rfl))) (nomark _))))) (pss_one (ps_ret pe_bl)) pss_nil) ?_
          refine ⟨_, rfl, .ref a, _, _, _, _, rfl, .ty _, hx.ty, kit_ty (kit_lst (.list ds)), _, rfl, .ref b, _, _, _, _, rfl, .ty _, hy.ty, kit_ty (kit_lst (.list ds)), rfl, _, rfl, ?_⟩
          rw [dec_bl_refl]
          refine iteF ⟨_, rfl, .ref a, _, _, _, _, rfl, .ty _, hx.ty, kit_ty (kit_tup (.list ds)), _, rfl, .ref b, _, _, _, _, rfl, .ty _, hy.ty, kit_ty (kit_tup (.list ds)), rfl, _, rfl, ?_⟩
          rw [dec_bl_refl]
          refine iteF ?_
          have hx0 : ∀ H', Same H H' → SqL K H' a xs := fun H' s => SqL.of (s _ _ ea)
          have hy0 : ∀ H', Same H H' → SqL K H' b ys := fun H' s => SqL.of (s _ _ eb)
          refine pss_fin (ps_ret (pe_and (pe_cmpR op_eq (pe_len T (pv 0)) (pe_len T (pv 1)) (nomark _)) (pe_one (pe_all T (pe_lc (own := [("_law_c", 2), ("_law_d", 3)]) (g := gTup K 2 (gCons (gName 2) (gCons (gName 3) gNil))) (tt := tYes) rfl scLike.nd (RZ.pi_zipA (by rfl) T.zip (pa_cons (pv 0) (pa_cons (pv 1) pa_nil))) (blkOk_by (N := nLike) (sc := defScope sLike) (by decide +kernel))
              (fun _ _ _ _ _ => pg_tup rfl (pgs_cons (pg_name (i := 2) scLike.nd rfl (.inl rfl) (.inr rfl)) (pgs_cons (pg_name (i := 3) scLike.nd rfl (.inl rfl) (.inr rfl)) pgs_nil))) (fun _ _ _ _ _ => pts_nil)
              (fun _ _ _ _ _ => pe_d (j := k + 1) D1 hr (by rfl) (pa_cons (pv 2) (pa_cons (pv 3) pa_nil)) (Nat.le_refl _))))))) ?_
          refine ⟨_, rfl, a, xs, rfl, .inl (hx0 _ (Same.refl _)), _, rfl, b, ys, rfl, .inl (hy0 _ (Same.refl _)), rfl, _, rfl, ?_⟩
          rw [l1, l2, decide_eq_true rfl]
          refine iteT ⟨_, rfl, _, rfl, a, b, xs, ys, rfl, .inl ⟨hx0 _ (Same.refl _), hy0 _ (Same.refl _), fun D hD => ?_⟩⟩
          refine lcV (n := ds.length) ((List.replicate ds.length true).map V.bl) hD (by simp) hz (fun i H' hi s => itz_go hx0 hy0 i H' (by omega) (by omega) s) (fun H' s => ⟨_, _, hx0 _ s, hy0 _ s, .inl (by omega)⟩)
            (fun i v H' H2 hi s y => ?_) (fun H' s e => ⟨D, _, rfl, SqL.of e, by rw [all_rep]; exact q _ s⟩)
          obtain ⟨Tp, x, z, rfl, hT, rfl, ex, ez⟩ := itz_yld hx0 hy0 s y
          obtain ⟨dz, e1, h1⟩ := hs.getV ex
          obtain ⟨dz', e2, h2⟩ := hs'.getV ez
          rw [e1] at e2
          cases e2
          have sT := same_upd (o := .tup [x, z]) hT
          refine ⟨sT, fun A hA => ⟨Tp, _, rfl, SqT.of upd_same, rfl, _, _, rfl, _, _, rfl, rfl, rfl, ?_⟩⟩
          refine ⟨x, rfl, z, rfl, B, x, z, dz, rfl, (h1.sb (Sb.of s)).sb (Sb.of sT), (h2.sb (Sb.of s)).sb (Sb.of sT), hk dz (List.mem_of_getElem? e1), fun H3 s3 => hA _ _ s3 ?_⟩
          rw [List.getElem?_map, rep_get hi]
          rfl
        · obtain ⟨a, xs, rfl, na, ea, hs⟩ := hx.tupI
          obtain ⟨b, ys, rfl, nb, eb, hs'⟩ := hy.tupI
          have l1 := hs.len
          have l2 := hs'.len
          refine ⟨_, rfl, .ref b, _, _, _, _, rfl, .ty _, hy.ty, kit_ty (kit_lst (.tuple ds)), _, rfl, ?_⟩
          refine iteF ⟨_, rfl, .ref b, _, _, _, _, rfl, .ty _, hy.ty, kit_ty (kit_tup (.tuple ds)), _, rfl, ?_⟩
          refine iteT ?_
          refine pss_step (ps_if (PW.pt (pw_or (pt_cmpR op_ne (pe_isi T (pv 0) (bL T (by rfl))) (pe_isi T (pv 1) (bL T (by rfl))) (nomark _)) (pw_or1 (pt_cmpR op_ne (pe_isi T (pv 0) (bT T (by rfl))) (pe_isi T (pv 1) (bT T (by rfl))) (nomark _))))) (pss_one (ps_ret pe_bl)) pss_nil) ?_
          refine ⟨_, rfl, .ref a, _, _, _, _, rfl, .ty _, hx.ty, kit_ty (kit_lst (.tuple ds)), _, rfl, .ref b, _, _, _, _, rfl, .ty _, hy.ty, kit_ty (kit_lst (.tuple ds)), rfl, _, rfl, ?_⟩
          rw [dec_bl_refl]
          refine iteF ⟨_, rfl, .ref a, _, _, _, _, rfl, .ty _, hx.ty, kit_ty (kit_tup (.tuple ds)), _, rfl, .ref b, _, _, _, _, rfl, .ty _, hy.ty, kit_ty (kit_tup (.tuple ds)), rfl, _, rfl, ?_⟩
          rw [dec_bl_refl]
          refine iteF ?_
          have hx0 : ∀ H', Same H H' → SqT K H' a xs := fun H' s => SqT.of (s _ _ ea)
          have hy0 : ∀ H', Same H H' → SqT K H' b ys := fun H' s => SqT.of (s _ _ eb)
          refine pss_fin (ps_ret (pe_and (pe_cmpR op_eq (pe_len T (pv 0)) (pe_len T (pv 1)) (nomark _)) (pe_one (pe_all T (pe_lc (own := [("_law_c", 2), ("_law_d", 3)]) (g := gTup K 2 (gCons (gName 2) (gCons (gName 3) gNil))) (tt := tYes) rfl scLike.nd (RZ.pi_zipA (by rfl) T.zip (pa_cons (pv 0) (pa_cons (pv 1) pa_nil))) (blkOk_by (N := nLike) (sc := defScope sLike) (by decide +kernel))
              (fun _ _ _ _ _ => pg_tup rfl (pgs_cons (pg_name (i := 2) scLike.nd rfl (.inl rfl) (.inr rfl)) (pgs_cons (pg_name (i := 3) scLike.nd rfl (.inl rfl) (.inr rfl)) pgs_nil))) (fun _ _ _ _ _ => pts_nil)
              (fun _ _ _ _ _ => pe_d (j := k + 1) D1 hr (by rfl) (pa_cons (pv 2) (pa_cons (pv 3) pa_nil)) (Nat.le_refl _))))))) ?_
          refine ⟨_, rfl, a, xs, rfl, .inr (hx0 _ (Same.refl _)), _, rfl, b, ys, rfl, .inr (hy0 _ (Same.refl _)), rfl, _, rfl, ?_⟩
          rw [l1, l2, decide_eq_true rfl]
          refine iteT ⟨_, rfl, _, rfl, a, b, xs, ys, rfl, .inr ⟨hx0 _ (Same.refl _), hy0 _ (Same.refl _), fun D hD => ?_⟩⟩
          refine lcV (n := ds.length) ((List.replicate ds.length true).map V.bl) hD (by simp) hz (fun i H' hi s => itzT_go hx0 hy0 i H' (by omega) (by omega) s) (fun H' s => ⟨_, _, hx0 _ s, hy0 _ s, .inl (by omega)⟩)
            (fun i v H' H2 hi s y => ?_) (fun H' s e => ⟨D, _, rfl, SqL.of e, by rw [all_rep]; exact q _ s⟩)
          obtain ⟨Tp, x, z, rfl, hT, rfl, ex, ez⟩ := itzT_yld hx0 hy0 s y
          obtain ⟨dz, e1, h1⟩ := hs.getV ex
          obtain ⟨dz', e2, h2⟩ := hs'.getV ez
          rw [e1] at e2
          cases e2
          have sT := same_upd (o := .tup [x, z]) hT
          refine ⟨sT, fun A hA => ⟨Tp, _, rfl, SqT.of upd_same, rfl, _, _, rfl, _, _, rfl, rfl, rfl, ?_⟩⟩
          refine ⟨x, rfl, z, rfl, B, x, z, dz, rfl, (h1.sb (Sb.of s)).sb (Sb.of sT), (h2.sb (Sb.of s)).sb (Sb.of sT), hk dz (List.mem_of_getElem? e1), fun H3 s3 => hA _ _ s3 ?_⟩
          rw [List.getElem?_map, rep_get hi]
          rfl
end
end K69

/-! ## K10 -/
namespace K69
open PySem PySem.Spec PyProof.Rows L2
theorem cut_all (xs : List V) (m : Nat) (h : xs.length ≤ m) : cutV xs none (some ((m : Nat) : Int)) = xs := by
  unfold cutV
  rw [HT.sIx_none, show HT.sIx xs.length xs.length (some ((m : Nat) : Int)) = min m xs.length from HT.sIx_nat _ _ m, Nat.min_eq_right h]
  simp
section
variable {P : Program} {w : World} {K : PySem.W.Frag} {mg : Str → Option Value} {base : Heap}
abbrev sDr : Stmt := topS 22
abbrev nDr : List Str := ["_law_script", "_law_seed", "_law_cell"]
theorem scDr : FnScope nDr ["_law_script"] (defScope sDr) := ⟨rfl, rfl, rfl, by decide +kernel, rfl, by decide +kernel, by decide +kernel⟩
def spDr : Sp := fun vs H Q _ => ∃ (a : Addr) (ns : List Int), vs = [.ref a] ∧ SqL K H a (ns.map V.int) ∧ (∀ H', Same H H' → SqL K H' a (ns.map V.int)) ∧ ns.length ≤ 63 ∧ ∀ (B L : Addr) (H' : Hp), Same H H' → H B = none → BagAt B L ns H' → Q (.ref B) H'
theorem ok_dr {f : Addr} {fd : FuncData} {k : Nat} (F : Fun K "_law_draws" "_law_draws" sDr f fd) (T : Tx K mg) : FnOk P w K mg base CX0 (k + 1) f fd ["_law_script"] (spDr (K := K)) := by
  refine F.ok scDr (fun vs H Q E h => ?_) (fun cdv A outer s H vs Q E hr h => ?_)
  · obtain ⟨a, ns, rfl, _⟩ := h
    rfl
  · obtain ⟨a, ns, rfl, ha, hst, h63, q⟩ := h
    refine ⟨_, pss_cons (ps_set (i := 1) scDr.nd rfl (.inl rfl) pe_int)
      (pss_cons (ps_for PassesOwn.never rfl (pi_list (pe_slice sl_list (pv 0) po_none (po_some pe_int))) (pg_name (i := 2) scDr.nd rfl (.inl rfl))
        (pss_one (ps_set (i := 1) scDr.nd rfl (.inl rfl) (pe_op op_mod (pe_intO T (pe_op op_add (pe_op op_add (pe_op op_mul (pv 1) pe_int) (pe_op op_mod (pe_intO T (pv 2)) pe_int)) pe_int)) pe_int))))
      (pss_one (ps_ret (pe_lst (pa_cons (pe_lstO T (pe_slice sl_list (pv 0) po_none (po_some pe_int))) (pa_cons pe_int (pa_cons pe_int (pa_cons (pv 1) (pa_cons pe_int pa_nil))))))))), ?_⟩
    have ec : cutV (ns.map V.int) none (some 63) = ns.map V.int := cut_all _ 63 (by rw [List.length_map]; exact h63)
    refine ⟨.ref a, rfl, 63, rfl, a, _, rfl, ha, fun c hc => ?_⟩
    rw [ec]
    have s1 := same_upd (o := .lst (ns.map V.int)) hc
    have e1 : (upd H c (.lst (ns.map V.int))) c = some (.lst (ns.map V.int)) := upd_same
    generalize upd H c (.lst (ns.map V.int)) = H1 at *
    refine ⟨c, rfl, ⟨_, SqL.of e1⟩, for_list (a := c) (xs := ns.map V.int) (fun i σ H' => ∃ (z : Int) (y2 : Option V), σ = [some (.ref a), some (.int z), y2] ∧ H' = H1 ∧ 0 ≤ z ∧ z < 2147483587) ⟨34127, none, rfl, rfl, by decide, by decide⟩ (fun i σ H' _ p => by obtain ⟨_, _, _, rfl, _⟩ := p; exact SqL.of e1) ?_ ?_⟩
    · intro i x σ H' hx p
      obtain ⟨z, y2, rfl, rfl, z0, z1⟩ := p
      rw [List.getElem?_map] at hx
      obtain ⟨n, h1, rfl⟩ := Option.map_eq_some_iff.mp hx
      obtain ⟨m0, m1⟩ := mod_seed (z * 48619 + n % 2147483489 + 211)
      refine ⟨.int z, rfl, z, 48619, rfl, rfl, .inr ⟨by decide, by decide⟩, .int n, rfl, .inl ⟨n, rfl, n, 2147483489, rfl, rfl, (show (0 : Int) < 2147483489 by decide), _, _, rfl, rfl, _, 211, rfl, rfl, .inl ⟨_, rfl, _, 2147483587, rfl, rfl, (show (0 : Int) < 2147483587 by decide), ?_⟩⟩⟩
      exact ⟨_, _, rfl, rfl, m0, m1⟩
    · intro σ H' p
      obtain ⟨z, y2, rfl, rfl, z0, z1⟩ := p
      refine ⟨.ref a, rfl, 63, rfl, a, _, rfl, hst _ s1, fun c2 hc2 => ?_⟩
      rw [ec]
      have s2 := same_upd (o := .lst (ns.map V.int)) hc2
      have e2 : (upd H' c2 (.lst (ns.map V.int))) c2 = some (.lst (ns.map V.int)) := upd_same
      generalize upd H' c2 (.lst (ns.map V.int)) = H2 at *
      refine ⟨c2, _, rfl, .inl (SqL.of e2), fun L hL => ?_⟩
      have s3 := same_upd (o := .lst (ns.map V.int)) hL
      have e3 : (upd H2 L (.lst (ns.map V.int))) L = some (.lst (ns.map V.int)) := upd_same
      generalize upd H2 L (.lst (ns.map V.int)) = H3 at *
      refine ⟨.int z, rfl, (by show 5 ≤ sizeLine; decide), fun B hB => ?_⟩
      have s4 := same_upd (o := .lst [V.ref L, .int 0, .int 0, .int z, .int 0]) hB
      exact q B L _ (((s1.trans s2).trans s3).trans s4) (((s1.trans s2).trans s3).free hB) ⟨0, 0, z, 0, upd_same, s4 _ _ e3, ne_of_none e3 hB, h63, Int.le_refl _, z0, z1⟩
end
end K69

/-! ## K11 -/
namespace K69
open PySem PySem.Spec PyProof.Rows L2
/-! ### a def called within an except suite: no word of the context -/
abbrev SpP := Addr → Value → Option Addr → List V → Hp → VK → Prop
structure FnP (P : Program) (w : World) (K : PySem.W.Frag) (mg : Str → Option Value) (base : Heap) (k : Nat) (f : Addr) (fd : FuncData) (ps : List Str) (sp : SpP) : Prop where
  len : ∀ a cls d vs H Q, sp a cls d vs H Q → vs.length = ps.length
  run : ∀ (A : Around) (outer : List Env) (s : Shared) (H : Hp) (args : Args) (us : List Value) (vs : List V) (Q : VK) (p : Addr × Obj) (cls : Value) (d : Option Addr), Zc cls d p.2 → (∃ vs, p.2.data = .fields vs) → L2H.RoomH k A → L2H.PinOk outer H s p → Env0 P w K mg base A outer s H → BindsTo s fd args (ps.zip us) → Vals vs us → sp p.1 cls d vs H Q →
    codeAny (model P w) A (.call (.ref f) args) (CR CX0 outer P w H s Q E0) s
theorem fnP_of {P : Program} {w : World} {K : PySem.W.Frag} {mg : Str → Option Value} {base : Heap} {k : Nat} {f : Addr} {name qual : Str} {params : Arguments} {body : List Stmt} {scope : Scope} {dV kV doc pm cdv ct oc : Value} {an od : Option Addr}
    {osl : Array (Option Value)} {N ps : List Str} {sp : SpP} (lk : K.lookup f = some ⟨oc, od, .func (PySem.W.fnOf name qual params body scope dV kV doc pm an cdv ct), osl⟩) (hcd : PySem.W.codeIn K cdv qual = true) (S : FnScope N ps scope)
    (len : ∀ a cls d vs H Q, sp a cls d vs H Q → vs.length = ps.length)
    (hbody : ∀ (A : Around) (outer : List Env) (s : Shared) (H : Hp) (vs : List V) (Q : VK) (p : Addr × Obj) (cls : Value) (d : Option Addr), Zc cls d p.2 → (∃ vs, p.2.data = .fields vs) → L2H.RoomH k (A.deeper (envOfC qual scope s.heap.objs.size f cdv)) → sp p.1 cls d vs H Q →
      ∃ t, PSs (L2H.cxH CX0 P w K mg base N qual scope f cdv A outer s H E0 p) body t ∧ t { nx := fun _ H' => Q .non H', rt := Q } (L2.start N vs) H) :
    FnP P w K mg base (k + 1) f (PySem.W.fnOf name qual params body scope dV kV doc pm an cdv ct) ps sp := by
  refine ⟨len, fun A outer s H args us vs Q p cls d hz hf hr hpin e0 hb r hsp => ?_⟩
  have hl := len _ _ _ _ _ _ hsp
  have KX : K.In s.heap := e0.mod.kin.keeps fun b o e => (e0.bs b o e).1
  have lim : s.heap.NoLimit := e0.mod.nolimit.keeps fun b o e => (e0.bs b o e).1
  have hkind : ∀ y ∈ ps.zip us, scope.names.lookup y.1 = some .local ∨ (scope.names.lookup y.1 = some .cell ∧ ((cellsFrom (s.heap.objs.size + 1) scope.names []).lookup y.1).isSome = true) := fun ⟨n, v⟩ hy => by
    rcases S.par n (List.of_mem_zip hy).1 with q | q
    · exact .inl q
    · exact .inr ⟨q, PySem.W.cellsFrom_some _ _ _ (.inl q)⟩
  refine codeAny_call_function hr.depth (KX _ _ lk) rfl S.co S.gen rfl (PySem.W.codeRec_of KX hcd) (hb _ _ _ _ ?_)
  refine wpAny_newFunctionEnv_cells S.kind hkind fun env he s1 x => ?_
  subst he
  refine ⟨lim.keeps x.toInCall.keep, codeAny_func ?_⟩
  obtain ⟨t, ht, hq⟩ := hbody A outer s H vs Q p cls d hz hf (hr.deeper _) hsp
  have I : L2.Inv (L2H.cxH CX0 P w K mg base N qual scope f cdv A outer s H E0 p) [] (L2.start N vs) H s1 := L2H.inv_startH S hpin e0 hl r x
  refine wpAny_mono (ht.run [] s1 (L2.start N vs) H _ I hq) (fun fl s' hs => ?_) fun e s' hs => hs
  have fin : ∀ {σ' : L2.St} {H' : Hp} {v : V} {u : Value}, L2.Inv (L2H.cxH CX0 P w K mg base N qual scope f cdv A outer s H E0 p) [] σ' H' s' → RelV v u → Q v H' → CE outer P w H s Q u s' :=
    fun {σ' H' v u} J rv q => ⟨v, H', J.os, J.bare, J.base, J.hok, rv, q⟩
  cases fl with
  | ret u =>
    obtain ⟨v, σ', H', J, rv, q⟩ := hs
    exact fin J rv q
  | next =>
    obtain ⟨σ', H', J, q⟩ := hs
    exact fin (v := V.non) (u := Value.none) J rfl q
  | brk =>
    obtain ⟨_, _, _, q⟩ := hs
    exact False.elim q
  | cont =>
    obtain ⟨_, _, _, q⟩ := hs
    exact False.elim q
/-- the reading of err.n -/
def tXfP (K : PySem.W.Frag) (a : Addr) (cls : Value) (d : Option Addr) (n : Str) (te : TE) : TE := fun σ H Q => te σ H fun x H1 => x = .ref a ∧ ∃ (C dd : Addr) (fs : List (Str × V)) (v : V), cls = .ref C ∧ XfC K C ∧ PySem.W.findIn K (.ref C) n = some none ∧ d = some dd ∧ H1 dd = some (.xd fs) ∧ fs.lookup n = some v ∧ Q v H1
section
variable {X : Cx} {k : Nat} {f : Addr} {fd : FuncData} {ps : List Str} {sp : SpP} {x : Str} {q pos : Pos} {e : Expr} {es : List Expr} {t : TA} {a : Addr} {oe : Obj} {cls : Value} {d : Option Addr}
theorem pe_callP (F : FnP X.prog X.w X.K X.mg X.base k f fd ps sp) (hr : L2H.RoomH k X.A) (hp : (a, oe) ∈ X.pn) (hz : Zc cls d oe) (hf : ∃ vs, oe.data = .fields vs) (hg : Gl X x) (hm : X.mg x = some (.ref f)) (hk : PySem.W.keepIn X.K (.ref f) = true) (hb : Binds X.K fd ps [])
    (ha : PA X (e :: es) t) (hdb : (x == ("__debug__" : Str)) = false := by decide) (he : starEach (e :: es) X.env = (false, eval e X.env) :: starEach es X.env := by rfl) (hpl : (backTo pos (starEach es X.env)).any (·.1) = false := by rfl) :
    PE X (.Call (.Name x q) (e :: es) [] pos) (fun σ H Q => t σ H fun vs H1 => sp a cls d vs H1 Q) := by
  refine ⟨fun pins s σ H Q I h => ?_⟩
  refine wpAny_Call_Name_kw (ld_glob I hg hm ?_ hdb)
  refine PySem.W.callWith_K (h₀ := X.base) I.ok.mod.kin hk (thn (ha.run pos pins s σ H _ I h) fun us s1 ⟨vs, H1, I1, r, hsp⟩ => ⟨I1.kIn, ?_⟩) he hpl
  have hl : us.length = ps.length := by rw [← r.length]; exact F.len _ _ _ _ _ _ hsp
  have b := hb s1 us I1.kIn (by rw [List.append_nil]; exact hl)
  rw [List.append_nil] at b
  have P1 := I1.pin (a, oe) (List.mem_append_left _ hp)
  have hpin : L2H.PinOk X.stack H1 s1 (a, oe) := ⟨P1.1, P1.2.1, fun hm => (List.mem_cons.mp (I1.stkSub a hm)).elim P1.2.2.1 P1.2.2.2.1, P1.2.2.2.2⟩
  refine wpAny_call (codeAny_mono (F.run X.A X.stack s1 H1 ⟨us, []⟩ us vs Q (a, oe) cls d hz hf hr hpin I1.env0 b r hsp) fun r s' hq => ?_)
  cases r with
  | error e => exact (show False from hq).elim
  | ok fl =>
    cases fl with
    | ret u => exact I1.after hq
    | next => exact False.elim hq
    | brk => exact False.elim hq
    | cont => exact False.elim hq
/-- err.f of a pinned exception -/
theorem pe_xfP {e : Expr} {te : TE} {pos : Pos} {n : Str} (hp : (a, oe) ∈ X.pn) (hz : Zc cls d oe) (hf : ∃ vs, oe.data = .fields vs) (he : PE X e te) (hb : attributeBase e n X.env (eval e X.env) = eval e X.env := by rfl) :
    PE X (.Attribute e n pos) (tXfP X.K a cls d n te) := by
  refine ⟨fun pins s σ H Q I h => ?_⟩
  refine attr_of hb (thn (he.run pins s σ H _ I h) fun u s1 hh => ?_)
  obtain ⟨x, H1, I1, rx, ex, C, dd, fs, v, ec, T, hno, ed, ea, l, q⟩ := hh
  subst ex
  obtain rfl : u = Value.ref a := rx
  subst ec
  subst ed
  obtain ⟨ha, _⟩ := I1.pin (a, oe) (List.mem_append_left _ hp)
  obtain ⟨vs, hd⟩ := hf
  have hx : ObjOk X.prog X.w H1 s1.heap dd (.xd fs) := I1.hok dd _ ea
  obtain ⟨mA, hns, hr⟩ := hx
  obtain ⟨od, ho, hl⟩ := lookIn_ns hns
  obtain ⟨u, hu, ru⟩ := RelO.some_of (v := v) (o := mA n) (by rw [← l]; exact hr n)
  have J : PySem.W.InstAt s1.heap a oe C (some od) := ⟨ha, hz.1, by unfold PySem.W.notCls; rw [hd] <;> rfl, by rw [hz.2]; exact ho⟩
  exact HandSPX.exc_get I1.kIn J T.ga T.gg T.exC (PySem.W.findObj_own T.hdC hno rfl (by rw [hl, hu])) (handed_of ru) ⟨v, H1, I1.tok _, ru, q⟩
end
/-! ### except (x1, x2, x3) as n -/
def wAs3 (K : PySem.W.Frag) (cs : List Value) (i : Nat) (ts : Addr → Value → Option Addr → TS) (Wout : WX) (D : Ends) : WX := fun cls d σ H =>
  PySem.W.exmAny K cls cs = some true ∧ ∀ a, H a = none → ts a cls d { nx := fun σ' H' => D.nx (σ'.set i none) H', rt := D.rt, bk := fun σ' H' => D.bk (σ'.set i none) H', ct := fun σ' H' => D.ct (σ'.set i none) H' } (σ.set i (some (.ref a))) H
theorem flying_push {B h : Heap} {l : List Env} {e : Addr} {Z : Obj → Prop} (o : Obj) (f : HandSPX.FlyingZ B l e Z h) : HandSPX.FlyingZ B l e Z (h.push o) := by
  obtain ⟨f1, f2, f3, oe, vs, T, oT, ts, a1, a2, a3, a4, a5, a6, a7, a8, a9⟩ := f
  have kp : ∀ b o', h.get? b = some o' → (h.push o).get? b = some o' := fun _ _ z => Heap.get?_push_of_some _ z
  exact ⟨fun b o' e => kp _ _ (f1 b o' e), f2, f3.of_keeps fun b o' e _ => ⟨o', kp _ _ e, rfl⟩, oe, vs, T, oT, ts, kp _ _ a1, a2, a3, a4, a5, a6, kp _ _ a7, a8, a9⟩
section
variable {X : Cx} {x1 x2 x3 n : Str} {c1 c2 c3 : Value} {i kk : Nat} {body suite : List Stmt} {b₀ : Stmt} {np1 np2 np3 tp pos pos' : Pos} {tb : WX → TS} {ts : Addr → Value → Option Addr → TS} {Wout : WX}
theorem ps_try_as3 (hs : X.stack = X.env :: X.outer) (hf : X.env.frame = some X.env.locals) (hN : X.N.Nodup) (hi : X.N[i]? = some n) (hln : X.env.kindOf n = some .local) (hc1 : Names X x1 c1) (hc2 : Names X x2 c2) (hc3 : Names X x3 c3)
    (hb : ∀ (W : WX) (pn : List (Addr × Obj)) (xe : Value → Shared → Prop), L2.Takes (X.tr pn xe) W → PassesOwn (model X.prog X.w) X.A X.env xe → PSs (X.tr pn xe) body (tb W))
    (hsu : ∀ (a : Addr) (oe : Obj) (cls : Value) (d : Option Addr) (pn : List (Addr × Obj)), Zc cls d oe → (∃ vs, oe.data = .fields vs) → PSs (X.suite a ((a, oe) :: pn)) (b₀ :: suite) (ts a cls d)) :
    PS X (.Try body [.ExceptHandler (some (.Tuple [.Name x1 np1, .Name x2 np2, .Name x3 np3] kk tp)) (some n) (b₀ :: suite) pos'] [] [] pos) (fun D σ H => tb (wAs3 X.K [c1, c2, c3] i ts Wout D) D σ H) := by
  refine ⟨fun pins s σ H D I h => ?_⟩
  have ok := I.ok
  have hfr : X.A.frames = some (X.env :: X.outer) := by rw [ok.frames, hs]
  have hloc : Loc X.env.scope n := .inl hln
  refine wpAny_Try_except ?_
  refine wpAny_mono ((hb (wAs3 X.K [c1, c2, c3] i ts Wout D) (X.pn ++ pins) (fun e s₁ => wpAny (model X.prog X.w) X.A (noteFrame e X.env) (fun _ s₂ => wpAny (model X.prog X.w) X.A (setFlight e none) (fun _ s₃ =>
    wpAny (model X.prog X.w) X.A (handleBy e X.env [.ExceptHandler (some (.Tuple [.Name x1 np1, .Name x2 np2, .Name x3 np3] kk tp)) (some n) (b₀ :: suite) pos']) (SP X pins D) X.xe s₃) X.xe s₂) X.xe s₁) (fun u s' xx => ?_) PassesOwn.looking).run [] s σ H D (I.toTry _) h) (fun f s1 hsp => ?_) (fun e s1 he => he)
  · -- the catch
    obtain ⟨a, B, sI, pins', σ', H', cls, d, rfl, J', nb, up, sky, na, os, ag, hb1, hyes⟩ := xx
    have J : L2.Inv X pins σ' H' sI := J'.ofTry ok
    have sky' : Sky B (X.env :: X.outer) a (Zc cls d) X.env.locals s'.heap := by rw [← hs]; exact sky
    show wpAny (model X.prog X.w) X.A (noteFrame (.ref a) X.env) _ _ _
    refine Sky.land Zc.steady hfr hf sky' fun h3 fl3 up3 => ?_
    have J3 : L2.Inv X pins σ' H' { s' with heap := h3 } := J.landed nb fl3.1 (up.trans up3) os ag
    obtain ⟨oe3, vs3, he3, hz3, hd3⟩ := fl3.there
    have notFr : ∀ {h : Heap} {o : Obj} {vs : Array Value}, h.FunFrames B (X.env :: X.outer) → h.get? a = some o → o.data = .fields vs → a ∉ frs (X.env :: X.outer) := fun {h o vs} ff e dd hm => by
      obtain ⟨_, o', e', hnf⟩ := ff.mem hm
      rw [e] at e'; cases e'
      exact hnf _ dd
    have nfr := notFr fl3.2.2.1 he3 hd3
    have nL : a ≠ X.env.locals := fun z => nfr (List.mem_filterMap.mpr ⟨X.env, List.mem_cons_self, by rw [hf, z]⟩)
    have nF : a ∉ X.fs := fun hm => by
      obtain ⟨e, he, q⟩ := List.mem_filterMap.mp hm
      exact nfr (List.mem_filterMap.mpr ⟨e, List.mem_cons_of_mem _ he, q⟩)
    have S3 := J3.suite he3 hd3 na nL nF
    refine wpAny_handleBy_cons (codeAny_handlers_test ?_) (by intro q; cases q)
    have test : ∀ {x : Str} {c : Value} {np : Pos} {Q : Value → Shared → Prop} {E : Value → Shared → Prop}, Names X x c → Q c { s' with heap := h3 } → wpAny (model X.prog X.w) (X.A.mark (some (.ref a))) (eval (.Name x np) X.env) Q E { s' with heap := h3 } := fun {x c np Q E} hc q => by
      obtain ⟨hg, hdbg, hm | ⟨hm, hv, hnn⟩⟩ := hc
      · exact ld_glob (X := X.suite a ((a, oe3) :: (X.pn ++ pins))) S3 hg hm q hdbg
      · exact ld_blt (X := X.suite a ((a, oe3) :: (X.pn ++ pins))) S3 hg hm hv q hnn hdbg
    refine wpAny_Tuple ?_
    refine wpAny_items_cons (test hc1 ?_)
    refine wpAny_items_cons (test hc2 ?_)
    refine wpAny_items_cons (test hc3 ?_)
    refine wpAny_items_nil ⟨by size_fits, ?_⟩
    have kp : ∀ q o, h3.get? q = some o → (h3.push { cls := .type "tuple", data := .seq [c1, c2, c3].toArray }).get? q = some o := fun _ _ z => Heap.get?_push_of_some _ z
    have LT : PySem.W.Looks (model X.prog X.w) h3 (typeOf (.ref a)) cls := fun A Q E s k q => wpAny_typeOf_ref (k _ _ he3) (by rw [hz3.1]; exact q)
    have LM := PySem.W.exm_tup3 (M := model X.prog X.w) ((J3.kIn).keeps kp) (LT.keeps kp) (Heap.get?_push_size h3 rfl) hb1
    refine LM.here ?_
    have fl3' := flying_push { cls := .type "tuple", data := .seq [c1, c2, c3].toArray } fl3
    have up3' := up3.trans (Heap.UpToSlots.of_keeps kp)
    refine codeAny_handlers_suite_as ?_
    refine HandSPX.lands_againZ fl3' fun h4 fl4 up4 => ?_
    have J4 : L2.Inv X pins σ' H' { s' with heap := h4 } := J.landed nb fl4.1 ((up.trans up3').trans up4) os ag
    obtain ⟨oe4, vs4, he4, hz4, hd4⟩ := fl4.there
    have S4 := J4.suite he4 hd4 na nL nF
    refine store_ok (X := X.suite a ((a, oe4) :: (X.pn ++ pins))) (v := .ref a) S4 hN hi hloc rfl (fun s5 S5 => ?_) (.inr hln)
    refine wpAny_mono ((hsu a oe4 cls d (X.pn ++ pins) hz4 ⟨_, hd4⟩).run [] s5 _ H' _ S5 (hyes a na)) (fun f s6 hsp => ?_) (fun _ _ z => False.elim z)
    have end_ : ∀ {σ6 : L2.St} {H6 : Hp} {Q : Shared → Prop}, L2.Inv (X.suite a ((a, oe4) :: (X.pn ++ pins))) [] σ6 H6 s6 → (∀ s7, L2.Inv X pins (σ6.set i none) H6 s7 → Q s7) →
        wpAny (model X.prog X.w) X.A (do bindName X.env n .none; unbindBehindTheSuite X.env n pos') (fun _ s7 => Q s7) X.xe s6 := fun {σ6 H6 Q} S6 hq => gone_ok (S6.unsuite ok) hN hi hln hq
    cases f with
    | next =>
      obtain ⟨σ6, H6, S6, q6⟩ := hsp
      exact end_ S6 fun s7 J7 => ⟨_, _, J7, q6⟩
    | brk =>
      obtain ⟨σ6, H6, S6, q6⟩ := hsp
      exact end_ S6 fun s7 J7 => ⟨_, _, J7, q6⟩
    | cont =>
      obtain ⟨σ6, H6, S6, q6⟩ := hsp
      exact end_ S6 fun s7 J7 => ⟨_, _, J7, q6⟩
    | ret u =>
      obtain ⟨v6, σ6, H6, S6, r6, q6⟩ := hsp
      exact end_ S6 fun s7 J7 => ⟨_, _, _, J7, r6, q6⟩
  · cases f with
    | next =>
      obtain ⟨σ', H', J', q⟩ := hsp
      exact wpAny_execs_nil ⟨σ', H', J'.ofTry ok, q⟩
    | brk =>
      obtain ⟨σ', H', J', q⟩ := hsp
      exact ⟨σ', H', J'.ofTry ok, q⟩
    | cont =>
      obtain ⟨σ', H', J', q⟩ := hsp
      exact ⟨σ', H', J'.ofTry ok, q⟩
    | ret u =>
      obtain ⟨v, σ', H', J', r, q⟩ := hsp
      exact ⟨v, σ', H', J'.ofTry ok, r, q⟩
end
end K69

/-! ## K12 -/
namespace K69
open PySem PySem.Spec PyProof.Rows L2
/-- the errors' classes: their fields are read, they are caught -/
structure FldT (K : PySem.W.Frag) (c : ClsA) (cs : List Value) : Prop where
  xf : ∀ f : Fault, XfC K (f.cls c)
  code : ∀ f : Fault, PySem.W.findIn K (.ref (f.cls c)) "code" = some none
  fld : ∀ f : Fault, PySem.W.findIn K (.ref (f.cls c)) f.fld = some none
  exm : ∀ f : Fault, PySem.W.exmAny K (.ref (f.cls c)) cs = some true
section
variable {P : Program} {w : World} {K : PySem.W.Frag} {mg : Str → Option Value} {base : Heap}
/-! ### _law_field -/
abbrev sFld : Stmt := topS 28
theorem scFld : FnScope ["_law_e"] ["_law_e"] (defScope sFld) := ⟨rfl, rfl, rfl, by decide +kernel, rfl, by decide +kernel, by decide +kernel⟩
def spFld (c : ClsA) : SpP := fun a cls d vs H Q => ∃ (f : Fault) (dd : Addr) (v : V), vs = [.ref a] ∧ cls = .ref (f.cls c) ∧ d = some dd ∧ H dd = some (.xd [(f.fld, v), ("code", .str f.code)]) ∧ ∀ t H', Same H H' → H t = none → H' t = some (.tup [v]) → Q (.ref t) H'
theorem fld_code (f : Fault) (v : V) : List.lookup ("code" : Str) [(f.fld, v), (("code" : Str), V.str f.code)] = some (V.str f.code) := by
  cases f <;> rfl
theorem fld_fld (f : Fault) (v : V) : List.lookup f.fld [(f.fld, v), (("code" : Str), V.str f.code)] = some v := by
  cases f <;> rfl
theorem ok_fld {c : ClsA} {cs : List Value} {f : Addr} {fd : FuncData} {k : Nat} (F : Fun K "_law_field" "_law_field" sFld f fd) (FT : FldT K c cs) : FnP P w K mg base (k + 1) f fd ["_law_e"] (spFld c) := by
  obtain ⟨oc, od, kV, doc, pm, an, cdv, ct, osl, rfl, lk, hcd⟩ := F.ex
  refine fnP_of lk hcd scFld (fun a cls d vs H Q h => ?_) fun A outer s H vs Q p cls d hz hf hr h => ?_
  · obtain ⟨f, dd, v, rfl, _⟩ := h
    rfl
  · obtain ⟨a, oe⟩ := p
    obtain ⟨ft, dd, v, rfl, rfl, rfl, hd, q⟩ := h
    have xc := FT.xf ft
    have nc := FT.code ft
    have nf := FT.fld ft
    cases ft with
    | num e =>
      have hd0 : H dd = some (.xd [((Fault.fld (.num e)), v), ("code", .str "InvalidNumber")]) := hd
      have s0 : Same H H := Same.refl _
      refine pss_step (ps_if (pt_cmpR op_in_seq (pe_xfP (oe := oe) (cls := .ref c.N) (d := some dd) (by exact List.mem_singleton.mpr rfl) hz hf (pv 0)) (pe_tup ((pa_cons pe_str (pa_cons pe_str (pa_cons pe_str pa_nil))))) rfl) (pss_one (ps_ret (pe_tup (pa_cons (pe_xfP (oe := oe) (cls := .ref c.N) (d := some dd) (by exact List.mem_singleton.mpr rfl) hz hf (pv 0)) pa_nil)))) pss_nil) ?_
      refine ⟨.ref a, rfl, rfl, c.N, dd, _, .str "InvalidNumber", rfl, xc, nc, rfl, hd0, rfl, (by show 3 ≤ sizeLine; decide), fun t0 ht0 => ?_⟩
      have s1 := s0.trans (same_upd (o := .tup [V.str "InvalidName", V.str "InvalidNumber", V.str "InvalidGroup"]) ht0)
      have hd1 := s1 _ _ hd
      refine ⟨t0, [V.str "InvalidName", V.str "InvalidNumber", V.str "InvalidGroup"], rfl, .inr (SqT.of upd_same), rfl, rfl, _, rfl, ?_⟩
      rw [show inV (V.str "InvalidNumber") [V.str "InvalidName", V.str "InvalidNumber", V.str "InvalidGroup"] = true from by decide +kernel]
      refine iteT ⟨.ref a, rfl, rfl, c.N, dd, _, v, rfl, xc, nf, rfl, hd1, rfl, (by show 1 ≤ sizeLine; decide), fun t ht => q t _ (s1.trans (same_upd ht)) (s1.free ht) upd_same⟩
    | vec i =>
      have hd0 : H dd = some (.xd [((Fault.fld (.vec i)), v), ("code", .str "InvalidVector")]) := hd
      have s0 : Same H H := Same.refl _
      refine pss_step (ps_if (pt_cmpR op_in_seq (pe_xfP (oe := oe) (cls := .ref c.V) (d := some dd) (by exact List.mem_singleton.mpr rfl) hz hf (pv 0)) (pe_tup ((pa_cons pe_str (pa_cons pe_str (pa_cons pe_str pa_nil))))) rfl) pss_any pss_nil) ?_
      refine ⟨.ref a, rfl, rfl, c.V, dd, _, .str "InvalidVector", rfl, xc, nc, rfl, hd0, rfl, (by show 3 ≤ sizeLine; decide), fun t0 ht0 => ?_⟩
      have s1 := s0.trans (same_upd (o := .tup [V.str "InvalidName", V.str "InvalidNumber", V.str "InvalidGroup"]) ht0)
      have hd1 := s1 _ _ hd
      refine ⟨t0, [V.str "InvalidName", V.str "InvalidNumber", V.str "InvalidGroup"], rfl, .inr (SqT.of upd_same), rfl, rfl, _, rfl, ?_⟩
      rw [show inV (V.str "InvalidVector") [V.str "InvalidName", V.str "InvalidNumber", V.str "InvalidGroup"] = false from by decide +kernel]
      refine iteF ?_
      refine pss_step (ps_if (pt_cmpR op_in_seq (pe_xfP (oe := oe) (cls := .ref c.V) (d := some dd) (by exact List.mem_singleton.mpr rfl) hz hf (pv 0)) (pe_tup ((pa_cons pe_str (pa_cons pe_str (pa_cons pe_str (pa_cons pe_str (pa_cons pe_str pa_nil))))))) rfl) (pss_one (ps_ret (pe_tup (pa_cons (pe_xfP (oe := oe) (cls := .ref c.V) (d := some dd) (by exact List.mem_singleton.mpr rfl) hz hf (pv 0)) pa_nil)))) pss_nil) ?_
      refine ⟨.ref a, rfl, rfl, c.V, dd, _, .str "InvalidVector", rfl, xc, nc, rfl, hd1, rfl, (by show 5 ≤ sizeLine; decide), fun t1 ht1 => ?_⟩
      have s2 := s1.trans (same_upd (o := .tup [V.str "InvalidRecord", V.str "InvalidSheet", V.str "InvalidWeights", V.str "InvalidVector", V.str "InvalidDeed"]) ht1)
      have hd2 := s2 _ _ hd
      refine ⟨t1, [V.str "InvalidRecord", V.str "InvalidSheet", V.str "InvalidWeights", V.str "InvalidVector", V.str "InvalidDeed"], rfl, .inr (SqT.of upd_same), rfl, rfl, _, rfl, ?_⟩
      rw [show inV (V.str "InvalidVector") [V.str "InvalidRecord", V.str "InvalidSheet", V.str "InvalidWeights", V.str "InvalidVector", V.str "InvalidDeed"] = true from by decide +kernel]
      refine iteT ⟨.ref a, rfl, rfl, c.V, dd, _, v, rfl, xc, nf, rfl, hd2, rfl, (by show 1 ≤ sizeLine; decide), fun t ht => q t _ (s2.trans (same_upd ht)) (s2.free ht) upd_same⟩
    | many =>
      have hd0 : H dd = some (.xd [((Fault.fld (.many)), v), ("code", .str "TooMany")]) := hd
      have s0 : Same H H := Same.refl _
      refine pss_step (ps_if (pt_cmpR op_in_seq (pe_xfP (oe := oe) (cls := .ref c.M) (d := some dd) (by exact List.mem_singleton.mpr rfl) hz hf (pv 0)) (pe_tup ((pa_cons pe_str (pa_cons pe_str (pa_cons pe_str pa_nil))))) rfl) pss_any pss_nil) ?_
      refine ⟨.ref a, rfl, rfl, c.M, dd, _, .str "TooMany", rfl, xc, nc, rfl, hd0, rfl, (by show 3 ≤ sizeLine; decide), fun t0 ht0 => ?_⟩
      have s1 := s0.trans (same_upd (o := .tup [V.str "InvalidName", V.str "InvalidNumber", V.str "InvalidGroup"]) ht0)
      have hd1 := s1 _ _ hd
      refine ⟨t0, [V.str "InvalidName", V.str "InvalidNumber", V.str "InvalidGroup"], rfl, .inr (SqT.of upd_same), rfl, rfl, _, rfl, ?_⟩
      rw [show inV (V.str "TooMany") [V.str "InvalidName", V.str "InvalidNumber", V.str "InvalidGroup"] = false from by decide +kernel]
      refine iteF ?_
      refine pss_step (ps_if (pt_cmpR op_in_seq (pe_xfP (oe := oe) (cls := .ref c.M) (d := some dd) (by exact List.mem_singleton.mpr rfl) hz hf (pv 0)) (pe_tup ((pa_cons pe_str (pa_cons pe_str (pa_cons pe_str (pa_cons pe_str (pa_cons pe_str pa_nil))))))) rfl) pss_any pss_nil) ?_
      refine ⟨.ref a, rfl, rfl, c.M, dd, _, .str "TooMany", rfl, xc, nc, rfl, hd1, rfl, (by show 5 ≤ sizeLine; decide), fun t1 ht1 => ?_⟩
      have s2 := s1.trans (same_upd (o := .tup [V.str "InvalidRecord", V.str "InvalidSheet", V.str "InvalidWeights", V.str "InvalidVector", V.str "InvalidDeed"]) ht1)
      have hd2 := s2 _ _ hd
      refine ⟨t1, [V.str "InvalidRecord", V.str "InvalidSheet", V.str "InvalidWeights", V.str "InvalidVector", V.str "InvalidDeed"], rfl, .inr (SqT.of upd_same), rfl, rfl, _, rfl, ?_⟩
      rw [show inV (V.str "TooMany") [V.str "InvalidRecord", V.str "InvalidSheet", V.str "InvalidWeights", V.str "InvalidVector", V.str "InvalidDeed"] = false from by decide +kernel]
      refine iteF ?_
      refine pss_step (ps_if (pt_cmpR op_in_seq (pe_xfP (oe := oe) (cls := .ref c.M) (d := some dd) (by exact List.mem_singleton.mpr rfl) hz hf (pv 0)) (pe_tup ((pa_cons pe_str (pa_cons pe_str (pa_cons pe_str pa_nil))))) rfl) pss_any pss_nil) ?_
      refine ⟨.ref a, rfl, rfl, c.M, dd, _, .str "TooMany", rfl, xc, nc, rfl, hd2, rfl, (by show 3 ≤ sizeLine; decide), fun t2 ht2 => ?_⟩
      have s3 := s2.trans (same_upd (o := .tup [V.str "DuplicateName", V.str "InUse", V.str "UnknownName"]) ht2)
      have hd3 := s3 _ _ hd
      refine ⟨t2, [V.str "DuplicateName", V.str "InUse", V.str "UnknownName"], rfl, .inr (SqT.of upd_same), rfl, rfl, _, rfl, ?_⟩
      rw [show inV (V.str "TooMany") [V.str "DuplicateName", V.str "InUse", V.str "UnknownName"] = false from by decide +kernel]
      refine iteF ?_
      refine pss_step (ps_if (pt_cmpR op_in_seq (pe_xfP (oe := oe) (cls := .ref c.M) (d := some dd) (by exact List.mem_singleton.mpr rfl) hz hf (pv 0)) (pe_tup ((pa_cons pe_str (pa_cons pe_str pa_nil)))) rfl) pss_any pss_nil) ?_
      refine ⟨.ref a, rfl, rfl, c.M, dd, _, .str "TooMany", rfl, xc, nc, rfl, hd3, rfl, (by show 2 ≤ sizeLine; decide), fun t3 ht3 => ?_⟩
      have s4 := s3.trans (same_upd (o := .tup [V.str "UnknownMark", V.str "Hopeless"]) ht3)
      have hd4 := s4 _ _ hd
      refine ⟨t3, [V.str "UnknownMark", V.str "Hopeless"], rfl, .inr (SqT.of upd_same), rfl, rfl, _, rfl, ?_⟩
      rw [show inV (V.str "TooMany") [V.str "UnknownMark", V.str "Hopeless"] = false from by decide +kernel]
      refine iteF ?_
      refine pss_step (ps_if (pt_cmpR op_in_seq (pe_xfP (oe := oe) (cls := .ref c.M) (d := some dd) (by exact List.mem_singleton.mpr rfl) hz hf (pv 0)) (pe_tup ((pa_cons pe_str pa_nil))) rfl) pss_any pss_nil) ?_
      refine ⟨.ref a, rfl, rfl, c.M, dd, _, .str "TooMany", rfl, xc, nc, rfl, hd4, rfl, (by show 1 ≤ sizeLine; decide), fun t4 ht4 => ?_⟩
      have s5 := s4.trans (same_upd (o := .tup [V.str "UnknownReason"]) ht4)
      have hd5 := s5 _ _ hd
      refine ⟨t4, [V.str "UnknownReason"], rfl, .inr (SqT.of upd_same), rfl, rfl, _, rfl, ?_⟩
      rw [show inV (V.str "TooMany") [V.str "UnknownReason"] = false from by decide +kernel]
      refine iteF ?_
      refine pss_step (ps_if (pt_cmpR op_eq (pe_xfP (oe := oe) (cls := .ref c.M) (d := some dd) (by exact List.mem_singleton.mpr rfl) hz hf (pv 0)) pe_str (nomark _)) (pss_one (ps_ret (pe_tup (pa_cons (pe_xfP (oe := oe) (cls := .ref c.M) (d := some dd) (by exact List.mem_singleton.mpr rfl) hz hf (pv 0)) pa_nil)))) pss_nil) ?_
      refine ⟨.ref a, rfl, rfl, c.M, dd, _, .str "TooMany", rfl, xc, nc, rfl, hd5, rfl, rfl, _, rfl, ?_⟩
      rw [decide_eq_true rfl]
      refine iteT ⟨.ref a, rfl, rfl, c.M, dd, _, v, rfl, xc, nf, rfl, hd5, rfl, (by show 1 ≤ sizeLine; decide), fun t ht => q t _ (s5.trans (same_upd ht)) (s5.free ht) upd_same⟩
/-! ### _law_try -/
abbrev sTry : Stmt := topS 29
abbrev nTry : List Str := ["_law_ask", "_law_e"]
theorem scTry : FnScope nTry ["_law_ask"] (defScope sTry) := ⟨rfl, rfl, rfl, by decide +kernel, rfl, by decide +kernel, by decide +kernel⟩
/-- what the asked may let out -/
def EchT (c : ClsA) (Q : VK) : XK := fun cls d H => ∃ (f : Fault) (dd : Addr) (v : V), cls = .ref (f.cls c) ∧ d = some dd ∧ H dd = some (.xd [(f.fld, v), ("code", .str f.code)]) ∧ ∀ t H', Same H H' → H t = none → H' t = some (.tup [.str f.code, v]) → Q (.ref t) H'
def TTry (c : ClsA) : (XK → Hp → VK → Prop) → Hp → VK → Prop := fun tl H Q => tl (EchT c Q) H fun v H' => 2 ≤ sizeLine ∧ ∀ t, H' t = none → Q (.ref t) (upd H' t (.tup [.str "", v]))
theorem try_gives {X : Cx} {c : ClsA} {c1 c2 c3 : Value} {g ff : Addr} {fdf : FuncData} {cdg : Value} {q : Str} (FT : FldT X.K c [c1, c2, c3]) (m1 : X.mg "ChoiceError" = some c1) (m2 : X.mg "Missing" = some c2) (m3 : X.mg "NothingLeft" = some c3)
    (GF : FnP X.prog X.w X.K X.mg X.base 1 ff fdf ["_law_e"] (spFld c)) (mf : X.mg "_law_field" = some (.ref ff)) (kf : PySem.W.keepIn X.K (.ref ff) = true) (bf : Binds X.K fdf ["_law_e"] []) (hr : ∀ s : Shared, L2H.RoomH 1 (X.A.deeper (envOfC "_law_try" (defScope sTry) s.heap.objs.size g cdg))) :
    LamX.GivesTo X nTry "_law_try" (defScope sTry) g cdg (defBody sTry) "_law_ask" q (TTry c) := by
  intro f c' s H Q tl act hc h
  refine ⟨_, pss_one (ps_try_as3 (X := (cxOf C8.CX0 X.prog X.w X.K X.mg X.base nTry "_law_try" (defScope sTry) g cdg X.A X.stack s H C8.E0).nox) (n := "_law_e") (i := 1) (c1 := c1) (c2 := c2) (c3 := c3)
      (tb := fun W D σ H => ∃ Ech : XK, (∀ cls d σ' H', Ech cls d H' → W cls d σ' H') ∧ σ[0]? = some (some (.ref f)) ∧ H c' = some (LamX.CodeO c' q) ∧ tl Ech H fun v H' => 2 ≤ sizeLine ∧ ∀ t, H' t = none → D.rt (.ref t) (upd H' t (.tup [.str "", v]))) (Wout := fun _ _ _ _ => False)
      (ts := fun a cls d D σ H => ∃ (ft : Fault) (dd : Addr) (v : V), cls = .ref (ft.cls c) ∧ d = some dd ∧ (1 < σ.length → σ[1]? = some (some (.ref a))) ∧ H dd = some (.xd [(ft.fld, v), ("code", .str ft.code)]) ∧ ∀ t H', Same H H' → H t = none → H' t = some (.tup [.str ft.code, v]) → D.rt (.ref t) H')
      rfl rfl scTry.nd rfl rfl ⟨rfl, by decide +kernel, .inl m1⟩ ⟨rfl, by decide +kernel, .inl m2⟩ ⟨rfl, by decide +kernel, .inl m3⟩ (fun W pn xe tk _ => ?_) (fun a oe cls d pn hz hf => ?_)), ?_⟩
  · refine ⟨fun pins s' σ H' D I h' => ?_⟩
    obtain ⟨Ech, hW, h1, h2, h3⟩ := h'
    have hp := act W pn xe Ech
    exact PSs.run (pss_one (ps_ret (pe_tup (pa_cons pe_str (pa_cons (hp _ _ tk hW) pa_nil))))) pins s' σ H' D I ⟨h1, h2, h3⟩
  · refine ⟨fun pins s' σ H' D I h' => ?_⟩
    obtain ⟨ft, dd, v, rfl, rfl, h1', h2, h3⟩ := h'
    have h1 := h1' (by have e : σ.length = nTry.length := I.len; rw [e]; decide)
    refine PSs.run (pss_one (ps_ret (pe_op op_catA (pe_tup (pa_cons (pe_xfP (X := (cxOf C8.CX0 X.prog X.w X.K X.mg X.base nTry "_law_try" (defScope sTry) g cdg X.A X.stack s H C8.E0).nox.suite a ((a, oe) :: pn)) (n := "code") List.mem_cons_self hz hf (pe_var (i := 1) rfl (.inl rfl) (by decide +kernel) (by decide +kernel))) pa_nil)) (pe_callP (X := (cxOf C8.CX0 X.prog X.w X.K X.mg X.base nTry "_law_try" (defScope sTry) g cdg X.A X.stack s H C8.E0).nox.suite a ((a, oe) :: pn)) (sp := spFld c) GF ⟨(hr s).dp, (hr s).un⟩ List.mem_cons_self hz hf (by rfl) mf kf bf (pa_cons (pe_var (i := 1) rfl (.inl rfl) (by decide +kernel) (by decide +kernel)) pa_nil))))) pins s' σ H' D I ?_
    refine ⟨.ref a, h1, rfl, ft.cls c, dd, _, .str ft.code, rfl, FT.xf ft, FT.code ft, rfl, h2, fld_code ft v, (by show 1 ≤ sizeLine; decide), fun p hp => ?_⟩
    have s1 := same_upd (o := .tup [.str ft.code]) hp
    refine ⟨.ref a, h1, ft, dd, v, rfl, rfl, rfl, s1 _ _ h2, fun t H2 s2 ht et => ?_⟩
    refine ⟨p, t, [.str ft.code], [v], rfl, rfl, SqT.of (s2 _ _ upd_same), SqT.of et, (by show 2 ≤ sizeLine; decide), fun z => by simp at z, fun _ z => by simp at z, fun _ _ r hr => h3 r _ ((s1.trans s2).trans (same_upd hr)) ((s1.trans s2).free hr) upd_same⟩
  · refine ⟨EchT c Q, fun cls d σ' H' hE => ?_, rfl, hc, h⟩
    obtain ⟨ft, dd, v, rfl, rfl, h2, h3⟩ := hE
    exact ⟨FT.exm ft, fun a na => ⟨ft, dd, v, rfl, rfl, fun hl => List.getElem?_set_self (by simpa using hl), h2, h3⟩⟩
end
end K69

/-! ## K13 -/
namespace K69
open PySem PySem.Spec PyProof.Rows L2
/-! ### weigh, called on what is in order -/
def WOk (wd : Nat) (vc : List (List Int)) : Prop := 0 < wd ∧ wd ≤ 7 ∧ vc.length ≤ 12 ∧ ∀ v ∈ vc, v.length = wd ∧ (∀ x ∈ v, x.natAbs ≤ BIG) ∧ NZ v
theorem vecOk_w {wd : Nat} {v : List Int} (h : VecOk wd v) : v.length = wd ∧ (∀ x ∈ v, x.natAbs ≤ BIG) ∧ NZ v := ⟨h.1, fun x hx => Nat.le_trans (h.2.1 x hx) (by decide), h.2.2⟩
theorem vecD_ok {wd : Nat} {v : List Int} (hl : v.length = wd) (hn : NZ v) : vecD (dV v) (wd : Nat) = true := by
  obtain ⟨x, hx, nx⟩ := hn
  have h1 : (v.map PyData.int).all wholeD = true := by
    rw [List.all_map, List.all_eq_true]
    intro z _
    rfl
  have h2 : (v.map PyData.int).any neZ = true := by
    rw [List.any_map, List.any_eq_true]
    exact ⟨x, hx, by simp [neZ, nx]⟩
  simp [vecD, hl]
  refine ⟨?_, x, hx, by simp [neZ, nx]⟩
  intro z _
  rfl
theorem fault_ok {wd : Nat} {vc : List (List Int)} {d : PyData} (hd : itemsD d = some (vc.map dV)) (h : WOk wd vc) : faultD d (.int (wd : Nat)) = none := by
  obtain ⟨h1, h2, h3, h4⟩ := h
  have c1 : numIn (.int (wd : Nat)) 1 7 = true := by
    simp only [numIn, Bool.and_eq_true, decide_eq_true_eq]
    omega
  unfold faultD
  rw [if_neg (by rw [c1]; decide), hd]
  show (if 12 < (vc.map dV).length then _ else _) = _
  rw [if_neg (by rw [List.length_map]; omega)]
  show (firstBad ((wd : Nat) : Int) (vc.map dV) 0).map _ = none
  rw [firstBad_none fun y hy => ?_]
  · rfl
  · obtain ⟨v, hv, rfl⟩ := List.mem_map.mp hy
    obtain ⟨a, _, b⟩ := h4 v hv
    exact vecD_ok a b
theorem weigh_call {c : ClsA} {B : Addr} {H : Hp} {x : V} {d : PyData} {wd : Nat} {vc : List (List Int)} {Q : VK} {E : XK} (hx : At B H x d) (hd : itemsD d = some (vc.map dV)) (ok : WOk wd vc) (q : ∀ H' t, Same H H' → H t = none → ToldAt H' t (weighM vc wd) → Q (.ref t) H') :
    spWeigh c [x, .int (wd : Nat)] H Q E := by
  have e := fault_ok hd ok
  obtain ⟨h1, h2, h3, h4⟩ := ok
  refine ⟨B, x, .int (wd : Nat), d, .int (wd : Nat), rfl, hx, .int _, fun f hf => ?_, fun _ => ⟨vc, wd, hd, rfl, h2, h3, fun v hv => (h4 v hv).1, fun v hv => (h4 v hv).2.1, fun H' t u s ht hu e1 e2 => q H' t s ht ⟨u, e1, e2⟩⟩⟩
  rw [e] at hf
  cases hf
theorem w_small {wd : Nat} {vc : List (List Int)} (ok : WOk wd vc) : (∀ v ∈ vc, v.length = wd) ∧ (∀ v ∈ vc, ∀ x ∈ v, Sm x) ∧ ∀ x ∈ (weighM vc wd).2, Sm x :=
  ⟨fun v hv => (ok.2.2.2 v hv).1, fun v hv x hx => Nat.lt_of_le_of_lt ((ok.2.2.2 v hv).2.1 x hx) (by decide +kernel), weigh_small (fun v hv => (ok.2.2.2 v hv).1) (fun v hv => (ok.2.2.2 v hv).2.1) ok.2.1⟩
/-- the law's def of what was told, at the answer -/
theorem told_call {K : PySem.W.Frag} {B t g : Addr} {H : Hp} {xs : List V} {wd : Nat} {vc : List (List Int)} {Q : VK} {E : XK} (ht : ToldAt H t (weighM vc wd)) (hg : H g = some (.lst xs)) (hA : AtAll B H xs (vc.map dV)) (ok : WOk wd vc) (q : ∀ H', Same H H' → Q (.bl true) H') :
    spTS [.ref t, .ref g, .int (wd : Nat)] H Q E := by
  obtain ⟨a1, a2, a3⟩ := w_small ok
  exact ⟨B, t, g, xs, weighM vc wd, vc, wd, rfl, ht, hg, hA, weigh_told a1, a1, a2, a3, by have := ok.2.1; omega, by have := ok.2.2.1; omega, q⟩
/-! ### the answer's word -/
theorem word_iff {wd : Nat} {vc vd : List (List Int)} (h1 : ∀ v ∈ vc, v.length = wd) (h2 : ∀ v ∈ vd, v.length = wd) (h : HasW vd wd ↔ HasW vc wd) : wordM (weighM vd wd) = wordM (weighM vc wd) := by
  have e : (weighM vd wd).1 = (weighM vc wd).1 := by
    have a := weigh_iff h1
    have b := weigh_iff h2
    cases x : (weighM vd wd).1 <;> cases y : (weighM vc wd).1
    · rfl
    · rw [x] at b; rw [y] at a
      exact absurd (b.mpr (h.mpr (a.mp rfl))) (by decide)
    · rw [x] at b; rw [y] at a
      exact absurd (a.mpr (h.mp (b.mp rfl))) (by decide)
    · rfl
  unfold wordM
  rw [e]
theorem hasW_sub {wd : Nat} {vc vd : List (List Int)} (h : ∀ v ∈ vd, v ∈ vc) (hw : HasW vc wd) : HasW vd wd := by
  obtain ⟨ws, a, b, c⟩ := hw
  exact ⟨ws, a, b, fun v hv => c v (h v hv)⟩
theorem dot_scale {m : Int} : ∀ {v ws : List Int}, dotM (v.map fun x => m * x) ws = m * dotM v ws
  | [], _ => by simp [dotM]
  | _ :: _, [] => by simp [dotM]
  | x :: v, y :: ws => by
    have := dot_scale (m := m) (v := v) (ws := ws)
    unfold dotM at this ⊢
    simp only [List.map_cons, List.zipWith_cons_cons, List.sum_cons]
    rw [this, Int.mul_add, Int.mul_assoc]
theorem hasW_scale {wd : Nat} {m : Int} {vc vd : List (List Int)} (hm : 0 < m) (h1 : ∀ u ∈ vd, ∃ v ∈ vc, u = v ∨ u = v.map fun x => m * x) (h2 : ∀ v ∈ vc, ∃ u ∈ vd, u = v ∨ u = v.map fun x => m * x) : HasW vd wd ↔ HasW vc wd := by
  constructor
  · rintro ⟨ws, a, b, c⟩
    refine ⟨ws, a, b, fun v hv => ?_⟩
    obtain ⟨u, hu, e | e⟩ := h2 v hv
    · rw [← e]; exact c u hu
    · have := c u hu
      rw [e, dot_scale] at this
      exact Int.lt_of_mul_lt_mul_left (a := m) (by rw [Int.mul_zero]; exact this) (Int.le_of_lt hm)
  · rintro ⟨ws, a, b, c⟩
    refine ⟨ws, a, b, fun u hu => ?_⟩
    obtain ⟨v, hv, e | e⟩ := h1 u hu
    · rw [e]; exact c v hv
    · rw [e, dot_scale]
      exact Int.mul_pos hm (c v hv)
theorem ints_inj : ∀ {a b : List Int}, a.map V.int = b.map V.int → a = b
  | [], [], _ => rfl
  | [], _ :: _, h => by cases h
  | _ :: _, [], h => by cases h
  | x :: a, y :: b, h => by
    simp only [List.map_cons, List.cons.injEq, V.int.injEq] at h
    rw [h.1, ints_inj h.2]
/-- lists of the same places hold the same vectors -/
theorem vecs_same {B : Addr} {H : Hp} {xs ys : List V} {vc vd : List (List Int)} (hA : AtAll B H xs (vc.map dV)) (hB : AtAll B H ys (vd.map dV)) (hm : ∀ x ∈ xs, x ∈ ys) : ∀ v ∈ vc, v ∈ vd := by
  intro v hv
  obtain ⟨i, hi, e⟩ := List.mem_iff_getElem.mp hv
  obtain ⟨x, h1, h2⟩ := hA.get (i := i) (d := dV v) (by rw [List.getElem?_map, List.getElem?_eq_getElem hi, e]; rfl)
  obtain ⟨c, rfl, nc, ec⟩ := h2.vec
  obtain ⟨j, hj, e'⟩ := List.mem_iff_getElem.mp (hm _ (List.mem_of_getElem? h1))
  obtain ⟨u, c', e1, e2, n', ec'⟩ := vec_get hB (show ys[j]? = some (V.ref c) by rw [List.getElem?_eq_getElem hj, e'])
  cases e2
  rw [ec] at ec'
  have := ints_inj (HO.tup.inj (Option.some.inj ec'))
  rw [this]
  exact List.mem_of_getElem? e1
theorem cut_take (xs : List V) (m : Nat) : cutV xs none (some ((m : Nat) : Int)) = xs.take m := by
  by_cases h : m ≤ xs.length
  · exact cut_to xs m h
  · rw [cut_all xs m (by omega), List.take_of_length_le (by omega)]
structure WgF (P : Program) (w : World) (K : PySem.W.Frag) (mg : Str → Option Value) (base : Heap) (c : ClsA) : Prop where
  ex : ∃ f fd, FnOk P w K mg base (L2.CX P w) 4 f fd ["vectors", "width"] (spWeigh c) ∧ mg "weigh" = some (.ref f) ∧ PySem.W.keepIn K (.ref f) = true ∧ KBn K fd ["vectors", "width"] 1 ["width"] (fun us ws => us ++ ws) (fun vs zs => vs ++ zs) ∧
    KBn K fd ["vectors", "width"] 0 ["vectors", "width"] (fun us ws => us ++ ws) (fun vs zs => vs ++ zs)
section
variable {P : Program} {w : World} {K : PySem.W.Frag} {mg : Str → Option Value} {base : Heap}
abbrev sAl : Stmt := topS 41
abbrev nAl : List Str := ["_law_bag", "_law_told", "_law_given", "_law_wide", "_law_many", "_law_late", "_law_mixed_here", "_law_part", "_law_one", "_law_x"]
theorem scAl : FnScope nAl ["_law_bag", "_law_told", "_law_given", "_law_wide"] (defScope sAl) := ⟨rfl, rfl, rfl, by decide +kernel, rfl, by decide +kernel, by decide +kernel⟩
abbrev scAl1 : Scope := lcScope (asgV ((defBody sAl).getD 1 (.Pass ⟨0, 0, 0, 0⟩)))
def spAl : Sp := fun vs H Q _ => ∃ (B L : Addr) (ns : List Int) (t g : Addr) (xs : List V) (vc : List (List Int)) (wd : Nat), vs = [.ref B, .ref t, .ref g, .int (wd : Nat)] ∧ BagAt B L ns H ∧ t ≠ B ∧ g ≠ B ∧ ToldAt H t (weighM vc wd) ∧ (∀ u, H t = some (.tup [.str (wordM (weighM vc wd)), .ref u]) → u ≠ B) ∧ H g = some (.lst xs) ∧ AtAll B H xs (vc.map dV) ∧
  GoodL wd vc ∧ 0 < wd ∧ wd ≤ 7 ∧ vc.length ≤ 7 ∧ ∀ H', Sb B H H' → BagAt B L ns H' → Q (.bl true) H'
theorem ok_al {c : ClsA} {f : Addr} {fd : FuncData} (F : Fun K "_law_alike_so" "_law_alike_so" sAl f fd) (T : Tx K mg) (W : WgF P w K mg base c) (D1 : Df P w K mg base 1 "_law_pull" ["_law_bag", "_law_sides"] spPull) (D2 : Df P w K mg base 2 "_law_mixed" ["_law_bag", "_law_items"] spMix) (D3 : Df P w K mg base 2 "_law_some" ["_law_bag", "_law_items", "_law_sides"] spSome) :
    FnOk P w K mg base CX0 5 f fd ["_law_bag", "_law_told", "_law_given", "_law_wide"] spAl := by
  refine F.ok scAl (fun vs H Q E h => ?_) (fun cdv A outer s H vs Q E hr h => ?_)
  · obtain ⟨B, L, ns, t, g, xs, vc, wd, rfl, _⟩ := h
    rfl
  · obtain ⟨B, L, ns, t, g, xs, vc, wd, rfl, hB, nt, ng, ⟨u, ht, hu⟩, _, hg, hA, hG, h0, h7, hl, q⟩ := h
    obtain ⟨fw, fdw, GW, mW, kW, bW, _⟩ := W.ex
    have lx : xs.length = vc.length := by rw [hA.len, List.length_map]
    refine pss_cut (fun σ' H' => ∃ m : Int, σ' = [some (.ref B), some (.ref t), some (.ref g), some (.int (wd : Nat)), some (.int m), none, none, none, none, none] ∧ 0 < m ∧ m ≤ 9 ∧ Sb B H H' ∧ BagAt B L ns H')
      (ps_set (i := 4) scAl.nd rfl (.inr rfl) (pe_op op_add pe_int (pe_d D1 hr (by rfl) (pa_cons (pv 0) (pa_cons pe_int pa_nil))))) ⟨.ref B, rfl, B, L, ns, 9, rfl, hB, by decide, by decide, fun r H1 r0 r1 s1 hB1 => ⟨1, r, rfl, rfl, 1 + r, rfl, by omega, by omega, s1, hB1⟩⟩ ?_
    rintro σ' H1 ⟨m, rfl, m0, m9, s1, hB1⟩
    have hg1 := s1 _ _ ng hg
    have hA1 := hA.sb s1
    refine pss_cut (fun σ' H' => ∃ (D : Addr) (ys : List V) (vd : List (List Int)), σ' = [some (.ref B), some (.ref t), some (.ref g), some (.int (wd : Nat)), some (.int m), some (.ref D), none, none, none, none] ∧ Same H1 H' ∧ D ≠ B ∧ H' D = some (.lst ys) ∧ AtAll B H' ys (vd.map dV) ∧ WOk wd vd ∧ (HasW vd wd ↔ HasW vc wd))
      (ps_setLc (i := 5) (own := [("_law_one", 8)]) (g := gName 8) (tt := tYes) rfl scAl.nd rfl rfl (sw_true rfl rfl rfl (by decide +kernel)) (pi_list (pv 2)) (blkOk_by (N := nAl) (sc := defScope sAl) (by decide +kernel)) (fun _ _ _ _ _ => pg_name (i := 8) scAl.nd rfl (Or.inl rfl)) (fun _ _ _ _ _ => pts_nil)
        (fun _ _ _ _ _ => pe_ifExp (PW.pt (pw_and (pt_cmpR op_lt (pe_callB (show CallR _ _ (rBest K) from (cr_best rfl).1) (by rfl) T.max (by decide +kernel) (pa_cons (pv 8) pa_nil)) (pe_op op_pow pe_int pe_int) (nomark _))
              (pw_and1 (pt_cmpR op_gt (pe_callB (show CallR _ _ (rBest K) from (cr_best rfl).2) (by rfl) T.min (by decide +kernel) (pa_cons (pv 8) pa_nil)) (pe_un un_neg (pe_op op_pow pe_int pe_int)) (nomark _)))))
          (pe_tupOK (K := K) rfl T (pe_lc (own := [("_law_x", 9)]) (g := gName 9) (tt := tYes) rfl scAl.nd (pi_tupK (K := K) rfl (pv 8)) (blkOk_by (N := nAl) (sc := relS scAl1 (defScope sAl)) (by decide +kernel)) (fun _ _ _ _ _ => pg_name (i := 9) scAl.nd rfl (Or.inl rfl)) (fun _ _ _ _ _ => pts_nil)
            (fun _ _ _ _ _ => pe_op op_mulW (pv 4) (pv 9)))) (pv 8))) ?_ ?_
    · refine ⟨.ref g, rfl, g, rfl, ⟨xs, SqL.of hg1⟩, fun D hD => ?_⟩
      have nD : D ≠ B := (hB1.ne hD).symm
      refine lcY (n := xs.length) (VecY B D fun j v => ∃ v0, vc[j]? = some v0 ∧ (v = v0 ∨ v = v0.map fun x => m * x)) (fun i y H' H'' s h => h.mono _ _ _ _ fun b o _ n e => s b o n e) hD (by omega) (fun i H' hi s => ⟨xs, xs[i], SqL.of (s _ _ hg1), List.getElem?_eq_getElem hi⟩) (fun H' s => ⟨xs, SqL.of (s _ _ hg1), Nat.le_refl _⟩)
        (fun i v H' H2 hi s ac y => ?_) (fun H2 acc s2 eD el hY => ?_)
      · obtain ⟨rfl, y⟩ := y
        have hx := y _ (SqL.of (s _ _ hg1))
        obtain ⟨vv, c, e1, rfl, nc, ec⟩ := vec_get hA1 hx
        have ok := good_get hG e1
        have ec5 := s _ _ ec
        obtain ⟨acc, eac⟩ := ac
        have hpos : 0 < vv.length := by rw [ok.1]; exact h0
        have ncD : c ≠ D := fun z => by rw [z, eac] at ec5; cases ec5
        refine ⟨Same.refl _, fun A hA' => ⟨rfl, .ref c, rfl, c, vv, rfl, SqT.of ec5, hpos, fun m1 => ⟨10, 8, rfl, rfl, ⟨by decide, by decide, by decide⟩, m1, _, rfl, rfl, _, rfl, ?_⟩⟩⟩
        have other : A (.ref c) H2 := hA' _ _ (Same.refl _) ⟨c, vv, rfl, nc, ncD, ec5, vv, e1, .inl rfl⟩
        by_cases c1 : m1 < (10 : Int) ^ (8 : Int).toNat
        · rw [decide_eq_true c1]
          refine iteT ⟨.ref c, rfl, c, vv, rfl, SqT.of ec5, hpos, fun m2 => ⟨10, 8, rfl, rfl, ⟨by decide, by decide, by decide⟩, _, rfl, m2, _, rfl, rfl, _, rfl, ?_⟩⟩
          by_cases c2 : -((10 : Int) ^ (8 : Int).toNat) < m2
          · rw [decide_eq_true c2]
            refine iteT ⟨.ref c, rfl, c, rfl, ⟨_, SqT.of ec5⟩, fun D3 hD3 => lcm_tup (xs := vv.map V.int) (ys := (vv.map fun x => m * x).map V.int) (SqT.of ec5) (fun H' s => SqT.of (s _ _ ec5)) hD3 (by simp) (by simp [ok.1]; omega) (fun i y H2 hy s A hA => ?_) (fun H6 s6 eD6 => ?_)⟩
            · rw [List.getElem?_map] at hy
              obtain ⟨x, h1, rfl⟩ := Option.map_eq_some_iff.mp hy
              have bx := ok.2.1 x (List.mem_of_getElem? h1)
              refine ⟨rfl, .int m, rfl, .int x, rfl, m, x, rfl, rfl, wide_mul (a := 64) (b := 64) (by omega) (by omega) (by decide) (by decide) (by decide), hA _ _ ?_ (Same.refl _)⟩
              rw [List.getElem?_map, List.getElem?_map, h1]
              rfl
            · refine ⟨D3, _, rfl, .inl ⟨SqL.of eD6, fun t ht => hA' _ _ (s6.trans (same_upd ht)) ⟨t, _, rfl, ((hB1.same (s.trans s6)).ne ht).symm, fun z => ?_, upd_same, vv, e1, .inr rfl⟩⟩⟩
              rw [z, s6 _ _ eac] at ht
              cases ht
          · rw [decide_eq_false c2]
            exact iteF ⟨.ref c, rfl, other⟩
        · rw [decide_eq_false c1]
          exact iteF ⟨.ref c, rfl, other⟩
      · obtain ⟨vd, hA2, ld, hd⟩ := vecs_mk (B := B) (H := H2) (R := fun j v => ∃ v0, vc[j]? = some v0 ∧ (v = v0 ∨ v = v0.map fun x => m * x)) el fun j y hy => (hY j y hy).at
        refine ⟨D, acc, vd, rfl, s2, nD, eD, hA2, ⟨h0, h7, by omega, fun v hv => ?_⟩, hasW_scale m0 (fun u hu => ?_) (fun v hv => ?_)⟩
        · obtain ⟨j, hj, e⟩ := List.mem_iff_getElem.mp hv
          obtain ⟨v0, e0, e1⟩ := hd j v (by rw [List.getElem?_eq_getElem hj, e])
          obtain ⟨a1, a2, x, hx, nx⟩ := good_get hG e0
          rcases e1 with rfl | rfl
          · exact vecOk_w ⟨a1, a2, x, hx, nx⟩
          · refine ⟨by simpa using a1, fun y hy => ?_, m * x, List.mem_map_of_mem hx, fun z => ?_⟩
            · obtain ⟨z, hz, rfl⟩ := List.mem_map.mp hy
              have := a2 z hz
              rw [Int.natAbs_mul]
              exact Nat.le_trans (Nat.mul_le_mul (show m.natAbs ≤ 9 by omega) this) (by decide)
            · rcases Int.mul_eq_zero.mp z with z | z
              · omega
              · exact nx z
        · obtain ⟨j, hj, e⟩ := List.mem_iff_getElem.mp hu
          obtain ⟨v0, e0, e1⟩ := hd j u (by rw [List.getElem?_eq_getElem hj, e])
          exact ⟨v0, List.mem_of_getElem? e0, e1⟩
        · obtain ⟨j, hj, e⟩ := List.mem_iff_getElem.mp hv
          have hj' : j < vd.length := by omega
          obtain ⟨v0, e0, e1⟩ := hd j vd[j] (List.getElem?_eq_getElem hj')
          rw [List.getElem?_eq_getElem hj, e] at e0
          cases e0
          exact ⟨vd[j], List.getElem_mem hj', e1⟩
    rintro σ' H2 ⟨D, ys, vd, rfl, s2, nD, eD, hAd, okd, iffd⟩
    have s12 := s1.trans (Sb.of s2)
    have hB2 := hB1.same s2
    have hg2 := s2 _ _ hg1
    have hA2 := hA1.sb (Sb.of s2)
    have hwl : ∀ v ∈ vc, v.length = wd := fun v hv => (hG v hv).1
    -- mixed
    refine pss_cut (fun σ' H' => ∃ (M : Addr) (zs : List V) (ve : List (List Int)), σ' = [some (.ref B), some (.ref t), some (.ref g), some (.int (wd : Nat)), some (.int m), some (.ref D), some (.ref M), none, none, none] ∧ Sb B H2 H' ∧ BagAt B L ns H' ∧ M ≠ B ∧ H' M = some (.lst zs) ∧ AtAll B H' zs (ve.map dV) ∧ WOk wd ve ∧ (HasW ve wd ↔ HasW vc wd))
      (ps_set (i := 6) scAl.nd rfl (.inl rfl) (pe_d (j := 4) D2 hr (by rfl) (pa_cons (pv 0) (pa_cons (pe_op op_cat (pv 2) (pe_slice sl_list (pv 2) po_none (po_some pe_int))) pa_nil)))) ?_ ?_
    · refine ⟨.ref B, rfl, .ref g, rfl, .ref g, rfl, 1, rfl, g, xs, rfl, SqL.of hg2, fun p hp => ?_⟩
      rw [show cutV xs none (some 1) = xs.take 1 from cut_take xs 1]
      have s3 := same_upd (o := .lst (xs.take 1)) hp
      refine ⟨g, p, xs, xs.take 1, rfl, rfl, s3 _ _ hg2, upd_same, Nat.le_of_lt (small1000 (by rw [List.length_take]; omega)), fun r hr' => ?_⟩
      have s4 := s3.trans (same_upd (o := .lst (xs ++ xs.take 1)) hr')
      have er : (upd (upd H2 p (.lst (xs.take 1))) r (.lst (xs ++ xs.take 1))) r = some (.lst (xs ++ xs.take 1)) := upd_same
      generalize upd (upd H2 p (.lst (xs.take 1))) r (.lst (xs ++ xs.take 1)) = H3 at *
      have hB3 := hB2.same s4
      have memx : ∀ y, y ∈ xs ++ xs.take 1 ↔ y ∈ xs := fun y => by
        rw [List.mem_append]
        exact ⟨fun h => h.elim id List.mem_of_mem_take, .inl⟩
      refine ⟨B, L, ns, r, xs ++ xs.take 1, rfl, hB3, (hB2.ne (s3.free hr')).symm, er, by rw [List.length_append, List.length_take]; omega, fun zs H4 M hm hlz s5 hB4 nM hM eM => ?_⟩
      have hA4 := ((hA2.sb (Sb.of s4)).sb s5)
      obtain ⟨ve, hAe, le, he⟩ := vecs_sub (B := B) (H := H4) (ys := zs) hA4 (fun y hy => (memx y).mp ((hm y).mp hy)) rfl hG
      have back := vecs_same hA4 hAe (fun x hx => (hm x).mpr ((memx x).mpr hx))
      refine ⟨M, zs, ve, rfl, (Sb.of s4).trans s5, hB4, nM, eM, hAe, ⟨h0, h7, ?_, fun v hv => vecOk_w (he v hv).1⟩, hasW_sub back, hasW_sub fun v hv => (he v hv).2⟩
      have e1 : (xs ++ xs.take 1).length ≤ 8 := by rw [List.length_append, List.length_take]; omega
      rw [le, hlz]
      omega
    rintro σ' H3 ⟨M, zs, ve, rfl, s3, hB3, nM, eM, hAe, oke, iffe⟩
    have t3 := (s12.trans s3) _ _ nt ht
    have eD3 := s3 _ _ nD eD
    have hAd3 := hAd.sb s3
    have g0 : ∀ (R : Bool × List Int) (u : Addr), atI [V.str (wordM R), V.ref u] 0 = some (.str (wordM R)) := fun R u => atI_nat (j := 0) rfl
    -- the first test
    refine pss_cut (fun σ' H' => σ' = [some (.ref B), some (.ref t), some (.ref g), some (.int (wd : Nat)), some (.int m), some (.ref D), some (.ref M), none, none, none] ∧ Same H3 H')
      (ps_if (PW.pt (pw_or (pt_cmpR op_ne (pe_ix ix_tup (pe_callN GW hr (by rfl) mW kW bW passL (pa_cons (pv 5) pa_nil) (pk_cons (pv 3) pk_nil)) pe_int (fun _ _ => rfl)) (pe_ix ix_tup (pv 1) pe_int (fun _ _ => rfl)) (nomark _))
          (pw_or1 (pt_cmpR op_ne (pe_ix ix_tup (pe_callN GW hr (by rfl) mW kW bW passL (pa_cons (pv 6) pa_nil) (pk_cons (pv 3) pk_nil)) pe_int (fun _ _ => rfl)) (pe_ix ix_tup (pv 1) pe_int (fun _ _ => rfl)) (nomark _)))))
        (pss_one (ps_ret pe_bl)) pss_nil) ?_ ?_
    · refine ⟨.ref D, rfl, .int (wd : Nat), rfl, rfl, rfl, weigh_call (.lst nD eD3 hAd3) rfl okd fun H4 r1 s4 hr1 ⟨u1, e1, e2⟩ => ?_⟩
      refine ⟨r1, _, 0, _, rfl, rfl, SqT.of e1, g0 _ _, .ref t, rfl, t, _, 0, _, rfl, rfl, SqT.of (s4 _ _ t3), g0 _ _, rfl, _, rfl, ?_⟩
      rw [word_iff hwl (fun v hv => (okd.2.2.2 v hv).1) iffd, decide_eq_true rfl]
      refine iteF ⟨.ref M, rfl, .int (wd : Nat), rfl, rfl, rfl, weigh_call (.lst nM (s4 _ _ eM) (hAe.sb (Sb.of s4))) rfl oke fun H5 r2 s5 hr2 ⟨u2, e3, e4⟩ => ?_⟩
      refine ⟨r2, _, 0, _, rfl, rfl, SqT.of e3, g0 _ _, .ref t, rfl, t, _, 0, _, rfl, rfl, SqT.of (s5 _ _ (s4 _ _ t3)), g0 _ _, rfl, _, rfl, ?_⟩
      rw [word_iff hwl (fun v hv => (oke.2.2.2 v hv).1) iffe, decide_eq_true rfl]
      exact iteF ⟨rfl, s4.trans s5⟩
    rintro σ' H4 ⟨rfl, s4⟩
    have hB4 := hB3.same s4
    have s14 := (s12.trans s3).trans (Sb.of s4)
    have hg4 := s4 _ _ (s3 _ _ ng hg2)
    have hA4 := (hA2.sb s3).sb (Sb.of s4)
    refine pss_cut (fun σ' H' => ∃ (S : Addr) (zs : List V) (vf : List (List Int)), σ' = [some (.ref B), some (.ref t), some (.ref g), some (.int (wd : Nat)), some (.int m), some (.ref D), some (.ref M), some (.ref S), none, none] ∧ Sb B H4 H' ∧ BagAt B L ns H' ∧ S ≠ B ∧ H' S = some (.lst zs) ∧ AtAll B H' zs (vf.map dV) ∧ WOk wd vf ∧ ∀ v ∈ vf, v ∈ vc)
      (ps_set (i := 7) scAl.nd rfl (.inl rfl) (pe_d (j := 4) D3 hr (by rfl) (pa_cons (pv 0) (pa_cons (pv 2) (pa_cons pe_int pa_nil))))) ?_ ?_
    · refine ⟨.ref B, rfl, .ref g, rfl, B, L, ns, g, xs, 3, rfl, hB4, ng, hg4, by omega, by decide, by decide, fun zs H5 S hm hlz s5 hB5 nS hS eS => ?_⟩
      obtain ⟨vf, hAf, lf, hf⟩ := vecs_sub (B := B) (H := H5) (ys := zs) (hA4.sb s5) hm rfl hG
      exact ⟨S, zs, vf, rfl, s5, hB5, nS, eS, hAf, ⟨h0, h7, by omega, fun v hv => vecOk_w (hf v hv).1⟩, fun v hv => (hf v hv).2⟩
    rintro σ' H5 ⟨S, zs', vf, rfl, s5, hB5, nS, eS, hAf, okf, subf⟩
    have t5 := (s14.trans s5) _ _ nt ht
    refine pss_fin (ps_ret (pe_or (pe_cmpR op_ne (pe_ix ix_tup (pv 1) pe_int (fun _ _ => rfl)) pe_str (nomark _)) (pe_one (pe_cmpR op_eq (pe_ix ix_tup (pe_callN GW hr (by rfl) mW kW bW passL (pa_cons (pv 7) pa_nil) (pk_cons (pv 3) pk_nil)) pe_int (fun _ _ => rfl)) pe_str (nomark _))))) ?_
    refine ⟨.ref t, rfl, t, _, 0, _, rfl, rfl, SqT.of t5, g0 _ _, rfl, _, rfl, ?_⟩
    cases hfl : (weighM vc wd).1 with
    | false =>
      have ew : wordM (weighM vc wd) = "counterweight" := by unfold wordM; rw [hfl]; rfl
      have e1 : (!decide (V.str (wordM (weighM vc wd)) = V.str "weights")) = true := by
        rw [ew]
        decide +kernel
      rw [e1]
      exact iteT (q _ (s14.trans s5) hB5)
    | true =>
      have ew : wordM (weighM vc wd) = "weights" := by unfold wordM; rw [hfl]; rfl
      have e1 : (!decide (V.str (wordM (weighM vc wd)) = V.str "weights")) = false := by
        rw [ew]
        decide +kernel
      rw [e1]
      refine iteF ⟨.ref S, rfl, .int (wd : Nat), rfl, rfl, rfl, weigh_call (.lst nS eS hAf) rfl okf fun H6 r3 s6 hr3 ⟨u3, e3, e4⟩ => ?_⟩
      have ew2 : wordM (weighM vf wd) = "weights" := by
        have := (weigh_iff (fun v hv => (okf.2.2.2 v hv).1)).mpr (hasW_sub subf ((weigh_iff hwl).mp hfl))
        unfold wordM
        rw [if_pos this]
      refine ⟨r3, _, 0, _, rfl, rfl, SqT.of e3, g0 _ _, rfl, ?_⟩
      rw [decide_eq_true (by rw [ew2])]
      exact q _ ((s14.trans s5).trans (Sb.of s6)) (hB5.same s6)
end
end K69

/-! ## K14 -/
namespace K69
open PySem PySem.Spec PyProof.Rows L2
/-! ### data that repr shows -/
def LeafOk : PyData → Prop
  | .none => True
  | .bool _ => True
  | .int i => i.natAbs ≤ BIG
  | .str x => x.cps.size ≤ 20 ∧ (x.cps.toList.all fun c => decide (c < 16 ^ 8)) = true
  | _ => False
def ShwN : Nat → PyData → Prop
  | 0, d => LeafOk d
  | n + 1, d => LeafOk d ∨ ∃ ds, (d = .list ds ∨ d = .tuple ds) ∧ ds.length ≤ 20 ∧ ∀ z ∈ ds, ShwN n z
def wgt : Nat → Nat
  | 0 => 64
  | n + 1 => 64 + 20 * (wgt n + 1)
structure ShowOk (n : Nat) (d : PyData) : Prop where
  s : d.showable = true
  h : d.hasDict = false
  dp : d.depth ≤ n
  l : d.leavesShort 13 = true
  w : d.weight ≤ wgt n
theorem leaf_ok {n : Nat} {d : PyData} (h : LeafOk d) : ShowOk n d := by
  have hw : 64 ≤ wgt n := by cases n <;> simp [wgt]
  cases d with
  | none => exact ⟨rfl, rfl, Nat.zero_le _, rfl, Nat.zero_le _⟩
  | bool b => exact ⟨rfl, rfl, Nat.zero_le _, rfl, Nat.zero_le _⟩
  | int i =>
    have hi : i.natAbs ≤ BIG := h
    have hb : i.natAbs < 2 ^ 40 := Nat.lt_of_le_of_lt hi (by decide)
    have hl : i.natAbs.log2 < 40 := PySem.Flt.log2_lt_of (by decide) hb
    refine ⟨decide_eq_true (by omega), rfl, Nat.zero_le _, decide_eq_true (PyData.shown_int_le (Nat.lt_of_le_of_lt hi (by decide))), ?_⟩
    show (if i == 0 then 0 else i.natAbs.log2 + 1) ≤ _
    split <;> omega
  | str x => exact ⟨rfl, rfl, Nat.zero_le _, h.2, Nat.le_trans h.1 (Nat.le_trans (by decide) hw)⟩
  | _ => exact h.elim
theorem all_ok {n : Nat} : ∀ {ds : List PyData}, (∀ z ∈ ds, ShowOk n z) → PyData.showableAll ds = true ∧ PyData.hasDictAll ds = false ∧ PyData.depthAll ds ≤ n ∧ PyData.leavesShortAll 13 ds = true ∧ PyData.weightAll ds ≤ ds.length * (wgt n + 1)
  | [], _ => ⟨rfl, rfl, Nat.zero_le _, rfl, Nat.zero_le _⟩
  | d :: ds, h => by
    obtain ⟨a1, a2, a3, a4, a5⟩ := h d (by simp)
    obtain ⟨b1, b2, b3, b4, b5⟩ := all_ok (ds := ds) fun z hz => h z (by simp [hz])
    refine ⟨?_, ?_, ?_, ?_, ?_⟩
    · show (d.showable && PyData.showableAll ds) = true
      rw [a1, b1]; rfl
    · show (d.hasDict || PyData.hasDictAll ds) = false
      rw [a2, b2]; rfl
    · exact Nat.max_le.mpr ⟨a3, b3⟩
    · show (d.leavesShort 13 && PyData.leavesShortAll 13 ds) = true
      rw [a4, b4]; rfl
    · show d.weight + 1 + PyData.weightAll ds ≤ _
      rw [List.length_cons, Nat.succ_mul]
      omega
theorem shw_ok : ∀ {n : Nat} {d : PyData}, ShwN n d → ShowOk n d
  | 0, _, h => leaf_ok h
  | n + 1, d, h => by
    rcases h with h | ⟨ds, e, hl, hz⟩
    · exact leaf_ok h
    · obtain ⟨b1, b2, b3, b4, b5⟩ := all_ok (n := n) fun z hz' => shw_ok (hz z hz')
      have hw : PyData.weightAll ds ≤ wgt (n + 1) := Nat.le_trans b5 (Nat.le_trans (Nat.mul_le_mul_right _ hl) (by show _ ≤ 64 + _; omega))
      rcases e with rfl | rfl
      · exact ⟨b1, b2, Nat.succ_le_succ b3, b4, hw⟩
      · exact ⟨b1, b2, Nat.succ_le_succ b3, b4, hw⟩
theorem shw_fits {d : PyData} (h : ShwN 2 d) : d.showable = true ∧ d.hasDict = false ∧ d.depth ≤ 60 ∧ d.shown.length ≤ sizeLine := by
  obtain ⟨a, b, c, e, f⟩ := shw_ok h
  exact ⟨a, b, by omega, PyData.shown_fits (by decide) (by decide) e (Nat.le_trans f (by decide))⟩
theorem ShwN.up {n : Nat} {d : PyData} (h : ShwN n d) : ShwN (n + 1) d := by
  induction n generalizing d with
  | zero => exact .inl h
  | succ n ih =>
    rcases h with h | ⟨ds, e, hl, hz⟩
    · exact .inl h
    · exact .inr ⟨ds, e, hl, fun z hz' => ih (hz z hz')⟩
theorem shw_okd : ∀ {n : Nat} {d : PyData}, ShwN n d → Okd n d
  | 0, d, h => by
    have h : LeafOk d := h
    show flatD d = true
    cases d <;> first | rfl | exact h.elim
  | n + 1, d, h => by
    rcases h with h | ⟨ds, e, hl, hz⟩
    · refine .inl ?_
      cases d <;> first | rfl | exact h.elim
    · exact .inr ⟨ds, e, by omega, fun z hz' => shw_okd (hz z hz')⟩
theorem shw_small {d : PyData} (h : ShwN 2 d) : SmallL d := by
  intro ds hd z hz xs e i hi
  subst e
  rcases h with h | ⟨ds', e, _, hz'⟩
  · cases d <;> simp [itemsD] at hd <;> exact h.elim
  · have : ds' = ds := by
      rcases e with rfl | rfl <;> (simp [itemsD] at hd; exact hd)
    subst this
    rcases hz' _ hz with h | ⟨es, e2, _, hs⟩
    · exact h.elim
    · have : es = xs := by
        rcases e2 with e2 | e2
        · cases e2
        · exact (PyData.tuple.inj e2).symm
      subst this
      have hl : LeafOk (.int i) := hs _ hi
      have hl : i.natAbs ≤ BIG := hl
      exact Nat.le_trans hl (by decide)
theorem shw_vec {wd : Nat} {v : List Int} (h7 : wd ≤ 7) (h : VecOk wd v) : ShwN 1 (dV v) := by
  refine .inr ⟨_, .inr rfl, by rw [List.length_map, h.1]; omega, fun z hz => ?_⟩
  obtain ⟨x, hx, rfl⟩ := List.mem_map.mp hz
  exact Nat.le_trans (h.2.1 x hx) (by decide)
theorem shw_list {wd : Nat} {vc : List (List Int)} (h7 : wd ≤ 7) (hl : vc.length ≤ 20) (h : GoodL wd vc) : ShwN 2 (.list (vc.map dV)) := by
  refine .inr ⟨_, .inl rfl, by rw [List.length_map]; exact hl, fun z hz => ?_⟩
  obtain ⟨v, hv, rfl⟩ := List.mem_map.mp hz
  exact shw_vec h7 (h v hv)
/-! ### what a reading makes: known data -/
def EvD (B : Addr) (te : TE) (σ : L2.St) (d : PyData) : Prop := ∀ (H : Hp) (Q : VK), H B ≠ none → (∀ v H', Same H H' → At B H' v d → Q v H') → te σ H Q
def EvA (B : Addr) (ta : TA) (σ : L2.St) (ds : List PyData) : Prop := ∀ (H : Hp) (Q : List V → Hp → Prop), H B ≠ none → (∀ vs H', Same H H' → AtAll B H' vs ds → Q vs H') → ta σ H Q
section
variable {B : Addr} {σ : L2.St} {K : PySem.W.Frag}
theorem ev_c {v : V} {d : PyData} (h : ∀ H, At B H v d) : EvD B (tC v) σ d := fun H Q _ k => k v H (Same.refl _) (h H)
theorem ev_non : EvD B (tC .non) σ .none := ev_c fun _ => .non
theorem ev_int {i : Int} : EvD B (tC (.int i)) σ (.int i) := ev_c fun _ => .int i
theorem ev_str {x : Str} : EvD B (tC (.str x)) σ (.str x) := ev_c fun _ => .str x
theorem ev_bl {b : Bool} : EvD B (tC (.bl b)) σ (.bool b) := ev_c fun _ => .bl b
theorem ev_var {i : Nat} {v : V} {d : PyData} (e : σ[i]? = some (some v)) (h : ∀ H, At B H v d) : EvD B (tVar i) σ d := fun H Q _ k => ⟨v, e, k v H (Same.refl _) (h H)⟩
theorem ev_neg {i : Int} : EvD B (tUn (rU fun i => .int (-i)) (tC (.int i))) σ (.int (-i)) := fun H Q _ k => ⟨i, rfl, k _ H (Same.refl _) (.int _)⟩
theorem ev_nil : EvA B tNil σ [] := fun H Q _ k => k [] H (Same.refl _) .nil
theorem ev_cons {te : TE} {ta : TA} {d : PyData} {ds : List PyData} (h : EvD B te σ d) (r : EvA B ta σ ds) : EvA B (tCons te ta) σ (d :: ds) := fun H Q nb k =>
  h H _ nb fun v H' s hv => r H' _ (same_ne s nb) fun vs H'' s' hvs => k _ _ (s.trans s') (.cons (hv.sb (Sb.of s')) hvs)
theorem ev_tup {ta : TA} {ds : List PyData} (h : EvA B ta σ ds) (hl : ds.length ≤ 100) : EvD B (tTup ta) σ (.tuple ds) := fun H Q nb k =>
  h H _ nb fun vs H' s hvs => ⟨Nat.le_of_lt (small1000 (by rw [hvs.len]; omega)), fun p hp => k _ _ (s.trans (same_upd hp)) (.tup (neB (same_ne s nb) hp) upd_same (hvs.sb (Sb.of (same_upd hp))))⟩
theorem ev_lst {ta : TA} {ds : List PyData} (h : EvA B ta σ ds) (hl : ds.length ≤ 100) : EvD B (tLst ta) σ (.list ds) := fun H Q nb k =>
  h H _ nb fun vs H' s hvs => ⟨Nat.le_of_lt (small1000 (by rw [hvs.len]; omega)), fun p hp => k _ _ (s.trans (same_upd hp)) (.lst (neB (same_ne s nb) hp) upd_same (hvs.sb (Sb.of (same_upd hp))))⟩
theorem at_rep {H : Hp} {v : V} {d : PyData} (h : At B H v d) : ∀ n, AtAll B H (List.replicate n v) (List.replicate n d)
  | 0 => .nil
  | n + 1 => .cons h (at_rep h n)
/-- (e,) * k -/
theorem ev_rep {te tk : TE} {d : PyData} {n : Nat} (h : EvD B te σ d) (hk : ∀ (H : Hp) (Q : VK), Q (.int (n : Nat)) H → tk σ H Q) (hn : n ≤ 1000) : EvD B (tOp (rRepA K) (tTup (tCons te tNil)) tk) σ (.tuple (List.replicate n d)) := fun H Q nb k =>
  h H _ nb fun v H' s hv => ⟨(by show 1 ≤ sizeLine; decide), fun p hp => hk _ _ (by
    have s1 := s.trans (same_upd (o := .tup [v]) hp)
    have nb1 := same_ne s1 nb
    have hv1 := hv.sb (Sb.of (same_upd (o := .tup [v]) hp))
    refine ⟨p, n, [v], rfl, rfl, SqT.of upd_same, by simp, hn, by simp, fun e1 => ?_, fun _ r hr => ?_⟩
    · subst e1
      exact k _ _ s1 (.tup (neB (same_ne s nb) hp) upd_same (.cons hv1 .nil))
    · refine k _ _ (s1.trans (same_upd hr)) (.tup (neB nb1 hr) (by rw [upd_same]) ?_)
      rw [rep_flat]
      exact at_rep (hv1.sb (Sb.of (same_upd hr))) n)⟩
/-- [e] * k -/
theorem ev_repL {te tk : TE} {d : PyData} {n : Nat} (h : EvD B te σ d) (hk : ∀ (H : Hp) (Q : VK), Q (.int (n : Nat)) H → tk σ H Q) (hn : n ≤ 1000) : EvD B (tOp rRep (tLst (tCons te tNil)) tk) σ (.list (List.replicate n d)) := fun H Q nb k =>
  h H _ nb fun v H' s hv => ⟨(by show 1 ≤ sizeLine; decide), fun p hp => hk _ _ (by
    have s1 := s.trans (same_upd (o := .lst [v]) hp)
    have nb1 := same_ne s1 nb
    have hv1 := hv.sb (Sb.of (same_upd (o := .lst [v]) hp))
    refine ⟨p, (n : Nat), [v], rfl, rfl, upd_same, by omega, by omega, ?_, fun r hr => ?_⟩
    · show 1 * ((n : Nat) : Int).toNat ≤ sizeLine
      exact Nat.le_trans (show _ ≤ 1000 by omega) (by decide)
    · refine k _ _ (s1.trans (same_upd hr)) (.lst (neB nb1 hr) (by rw [upd_same]) ?_)
      rw [Int.toNat_natCast, rep_flat]
      exact at_rep (hv1.sb (Sb.of (same_upd hr))) n)⟩
/-- t + u -/
theorem ev_cat {ta tb : TE} {d : PyData} {ds es : List PyData} (h : EvD B ta σ (.tuple (d :: ds))) (h2 : EvD B tb σ (.tuple es)) (hl : ds.length + es.length ≤ 100) : EvD B (tOp (rCatA K) ta tb) σ (.tuple (d :: ds ++ es)) := fun H Q nb k =>
  h H _ nb fun v H' s hv => h2 H' _ (same_ne s nb) fun u H2 s2 hu => by
    obtain ⟨a, xs, rfl, na, ea, hxs⟩ := (hv.sb (Sb.of s2)).tupI
    obtain ⟨b, ys, rfl, nb', eb, hys⟩ := hu.tupI
    have l1 := hxs.len
    have l2 := hys.len
    have nb2 := same_ne (s.trans s2) nb
    refine ⟨a, b, xs, ys, rfl, rfl, SqT.of ea, SqT.of eb, Nat.le_of_lt (small1000 (by simp at l1; omega)), fun z => ?_, fun _ z => ?_, fun _ _ p hp => ?_⟩
    · rw [z] at l1; cases l1
    · subst z
      have : es = [] := List.eq_nil_of_length_eq_zero (by simpa using l2.symm)
      subst this
      rw [show d :: ds ++ [] = d :: ds from List.append_nil _] at k
      exact k _ _ (s.trans s2) (.tup na ea hxs)
    · exact k _ _ ((s.trans s2).trans (same_upd hp)) (.tup (neB nb2 hp) upd_same ((hxs.append hys).sb (Sb.of (same_upd hp))))
end
/-- any(bag, [..]), the items known -/
theorem any_call {B L l : Addr} {ns : List Int} {H : Hp} {vs : List V} {ds : List PyData} {P : PyData → Prop} {Q : VK} {E : XK} (hB : BagAt B L ns H) (nl : l ≠ B) (el : H l = some (.lst vs)) (hA : AtAll B H vs ds) (h0 : 0 < ds.length) (h1 : ds.length ≤ 100) (hP : ∀ d ∈ ds, P d)
    (q : ∀ x d H', Sb B H H' → BagAt B L ns H' → At B H' x d → P d → Q x H') : spAny [.ref B, .ref l] H Q E := by
  have e := hA.len
  refine ⟨B, L, ns, l, vs, rfl, hB, nl, el, by omega, by omega, fun j x H' hj s hB' => ?_⟩
  obtain ⟨d, h2, h3⟩ := hA.getV hj
  exact q x d H' s hB' (h3.sb s) (hP d (List.mem_of_getElem? h2))
/-! ### a def that is told the guards -/
structure FnG (P : Program) (w : World) (K : PySem.W.Frag) (mg : Str → Option Value) (base : Heap) (k : Nat) (f : Addr) (fd : FuncData) (ps : List Str) (sp : Sp) : Prop where
  len : ∀ vs H Q E, sp vs H Q E → vs.length = ps.length
  run : ∀ (A : Around) (outer : List Env) (s : Shared) (H : Hp) (args : Args) (us : List Value) (vs : List V) (Q : VK), Room k A → A.guards = some [] → Env0 P w K mg base A outer s H → BindsTo s fd args (ps.zip us) → Vals vs us → sp vs H Q E0 →
    codeAny (model P w) A (.call (.ref f) args) (CR CX0 outer P w H s Q E0) s
section
variable {P : Program} {w : World} {K : PySem.W.Frag} {mg : Str → Option Value} {base : Heap}
theorem fnG_of {x qual : Str} {st : Stmt} {f : Addr} {N ps : List Str} {k : Nat} {sp : Sp} {oc : Value} {od an : Option Addr} {osl : Array (Option Value)} {kV doc pm cdv ct : Value}
    (lk : K.lookup f = some ⟨oc, od, .func (PySem.W.fnOf x qual (defArgs st) (defBody st) (defScope st) .none kV doc pm an cdv ct), osl⟩) (hcd : PySem.W.codeIn K cdv qual = true) (S : FnScope N ps (defScope st)) (len : ∀ vs H Q E, sp vs H Q E → vs.length = ps.length)
    (hbody : ∀ (A : Around) (outer : List Env) (s : Shared) (H : Hp) (vs : List V) (Q : VK), A.guards = some [] → Room k (A.deeper (envOfC qual (defScope st) s.heap.objs.size f cdv)) → sp vs H Q E0 →
      ∃ t, PSs (cxOf CX0 P w K mg base N qual (defScope st) f cdv A outer s H E0).nox (defBody st) t ∧ t { nx := fun _ H' => Q .non H', rt := Q } (L2.start N vs) H) : FnG P w K mg base (k + 1) f (PySem.W.fnOf x qual (defArgs st) (defBody st) (defScope st) .none kV doc pm an cdv ct) ps sp := by
  refine ⟨len, fun A outer s H args us vs Q hr hg e0 hb r h => ?_⟩
  refine LamX.run_ofS (N := N) (ps := ps) lk hcd S hr e0 hb r (len _ _ _ _ h) fun hr' => ?_
  obtain ⟨t, h1, h2⟩ := hbody A outer s H vs Q hg hr' h
  exact ⟨t, h1.nox, h2⟩
structure DfG (P : Program) (w : World) (K : PySem.W.Frag) (mg : Str → Option Value) (base : Heap) (k : Nat) (x : Str) (ps : List Str) (sp : Sp) : Prop where
  ex : ∃ (f : Addr) (fd : FuncData), FnG P w K mg base k f fd ps sp ∧ mg x = some (.ref f) ∧ PySem.W.keepIn K (.ref f) = true ∧ L2.Binds K fd ps []
end
theorem pe_dG {X : Cx} {k j : Nat} {x : Str} {ps : List Str} {sp : Sp} {p pos : Pos} {e : Expr} {es : List Expr} {t : TA} (F : DfG X.prog X.w X.K X.mg X.base k x ps sp) (hG : X.A.guards = some []) (hr : Room j X.A) (hg : Gl X x) (ha : PA X (e :: es) t) (hk : k ≤ j := by decide)
    (hdb : (x == ("__debug__" : Str)) = false := by decide) (he : starEach (e :: es) X.env = (false, eval e X.env) :: starEach es X.env := by rfl) (hpl : (backTo pos (starEach es X.env)).any (·.1) = false := by rfl) :
    PE X (.Call (.Name x p) (e :: es) [] pos) (tCall sp [] E0 t) := by
  obtain ⟨f, fd, G, hm, kp, hb⟩ := F.ex
  refine ⟨fun pins s σ H Q I h => ?_⟩
  refine wpAny_Call_Name_kw (ld_glob I hg hm ?_ hdb)
  refine PySem.W.callWith_K (h₀ := X.base) I.ok.mod.kin kp (thn (ha.run pos pins s σ H _ I h) fun us s1 ⟨vs, H1, I1, r, hsp⟩ => ⟨I1.kIn, ?_⟩) he hpl
  have hsp : sp vs H1 Q E0 := by
    have z : sp (vs ++ []) H1 Q E0 := hsp
    rw [List.append_nil] at z
    exact z
  have hl : us.length = ps.length := by rw [← r.length]; exact G.len _ _ _ _ hsp
  have b := hb s1 us I1.kIn (by rw [List.append_nil]; exact hl)
  rw [List.append_nil] at b
  refine wpAny_call (codeAny_mono (G.run X.A X.stack s1 H1 ⟨us, []⟩ us vs Q (hr.mono hk) hG I1.env0 b r hsp) fun r s' hq => ?_)
  cases r with
  | error e => exact (show False from hq).elim
  | ok fl =>
    cases fl with
    | ret u => exact I1.after hq
    | next => exact False.elim hq
    | brk => exact False.elim hq
    | cont => exact False.elim hq
/-- repr of such data -/
theorem pe_repr {X : Cx} {a : Expr} {ta : TE} {p1 pos : Pos} (hG : X.A.guards = some []) (hu : X.A.units + 64 < cLine) (T : Tx X.K X.mg) (ha : PE X a ta) (hg : Gl X "repr" := by rfl) (he : starEach [a] X.env = (false, eval a X.env) :: starEach [] X.env := by rfl) :
    PE X (.Call (.Name "repr" p1) [a] [] pos) (tCB (fun xs H Q => ∃ (B : Addr) (v : V) (d : PyData), xs = [v] ∧ At B H v d ∧ ShwN 2 d ∧ Q (.str d.shown) H) (tCons ta tNil)) := by
  have hc : CallR X (.builtin "repr") (fun xs H Q => ∃ (B : Addr) (v : V) (d : PyData), xs = [v] ∧ At B H v d ∧ ShwN 2 d ∧ Q (.str d.shown) H) := by
    intro pins s σ H xs us Q I r h
    obtain ⟨B, v, d, rfl, h1, h2, q⟩ := h
    obtain ⟨a1, a2, a3, a4⟩ := shw_fits h2
    exact call_repr hG hu pins s σ H [v] us Q I r ⟨v, d, rfl, h1.dp, a1, a2, a3, a4, q⟩
  exact pe_callB hc hg T.repr (by decide +kernel) (pa_cons ha pa_nil he) (by decide) (by decide) he rfl
end K69

/-! ## K15 -/
namespace K69
open PySem PySem.Spec PyProof.Rows L2
/-! ### what a lambda's making leaves -/
def ExtB (B : Addr) (H H' : Hp) : Prop := ∀ b o, b ≠ B → H b = some o → (∀ ps, o ≠ .tbl ps) → H' b = some o
theorem ExtB.of {B : Addr} {H H' : Hp} (s : Sb B H H') : ExtB B H H' := fun b o n e _ => s b o n e
theorem ExtB.ofN {B : Addr} {H H' : Hp} (s : LamX.ExtN H H') : ExtB B H H' := fun b o _ e t => s b o e t
theorem ExtB.trans {B : Addr} {H H1 H2 : Hp} (a : ExtB B H H1) (b : ExtB B H1 H2) : ExtB B H H2 := fun c o n e t => b c o n (a c o n e t) t
mutual
theorem At.ext {B : Addr} {H H' : Hp} (s : ExtB B H H') : ∀ {v : V} {d : PyData}, At B H v d → At B H' v d
  | _, _, .non => .non
  | _, _, .bl b => .bl b
  | _, _, .int i => .int i
  | _, _, .str x => .str x
  | _, _, .lst n e a => .lst n (s _ _ n e (fun _ z => by cases z)) (AtAll.ext s a)
  | _, _, .tup n e a => .tup n (s _ _ n e (fun _ z => by cases z)) (AtAll.ext s a)
theorem AtAll.ext {B : Addr} {H H' : Hp} (s : ExtB B H H') : ∀ {vs : List V} {ds : List PyData}, AtAll B H vs ds → AtAll B H' vs ds
  | _, _, .nil => .nil
  | _, _, .cons a r => .cons (At.ext s a) (AtAll.ext s r)
end
theorem BagAt.extN {B L : Addr} {ns : List Int} {H H' : Hp} (b : BagAt B L ns H) (s : LamX.ExtN H H') : BagAt B L ns H' := by
  obtain ⟨i, c, z, k, e, e2, r⟩ := b
  exact ⟨i, c, z, k, s _ _ e (fun _ z => by cases z), s _ _ e2 (fun _ z => by cases z), r⟩
theorem BagAt.nn {B L : Addr} {ns : List Int} {H : Hp} (b : BagAt B L ns H) : H B ≠ none := by
  obtain ⟨i, c, z, k, e, _⟩ := b
  rw [e]
  simp
/-- tables stay where the bag alone is written -/
theorem tabs_sb {B L : Addr} {ns : List Int} {T : List (Addr × Str)} {H H' : Hp} (t : LamX.Tabs T H) (b : BagAt B L ns H) (s : Sb B H H') : LamX.Tabs T H' := fun p hp => by
  obtain ⟨i, c, z, k, eB, _⟩ := b
  obtain ⟨ps, h1, h2, h3⟩ := t p hp
  refine ⟨ps, s _ _ (fun z => ?_) h1, h2, fun pos cv hc => ?_⟩
  · rw [z, eB] at h1
    cases h1
  · obtain ⟨c, e1, e2⟩ := h3 pos cv hc
    refine ⟨c, e1, s _ _ (fun z => ?_) e2⟩
    rw [z, eB] at e2
    unfold LamX.CodeO at e2
    cases e2
/-! ### no fault: what it was -/
def NotTup (d : PyData) : Prop := ∀ ds, d = .tuple ds → ds = [.str "a"]
theorem vecs_of_all {P : List Int → Prop} : ∀ {ds : List PyData}, (∀ z ∈ ds, ∃ v, z = dV v ∧ P v) → ∃ vc : List (List Int), ds = vc.map dV ∧ ∀ v ∈ vc, P v
  | [], _ => ⟨[], rfl, by simp⟩
  | d :: ds, h => by
    obtain ⟨v, rfl, hv⟩ := h d (by simp)
    obtain ⟨vc, rfl, hvc⟩ := vecs_of_all (ds := ds) fun z hz => h z (by simp [hz])
    refine ⟨v :: vc, rfl, fun u hu => ?_⟩
    rcases List.mem_cons.mp hu with e | e
    · rw [e]; exact hv
    · exact hvc u e
theorem firstBad_all {wd : Int} : ∀ {ds : List PyData} {i : Nat}, firstBad wd ds i = none → ∀ z ∈ ds, vecD z wd = true
  | [], _, _, z, h => by cases h
  | d :: ds, i, e, z, h => by
    unfold firstBad at e
    split at e
    · rename_i hv
      rcases List.mem_cons.mp h with h | h
      · rw [h]; exact hv
      · exact firstBad_all e z h
    · cases e
theorem nofault {d e : PyData} (h : faultD d e = none) (hs : ShwN 2 d) (hn : NotTup d) : ∃ (vc : List (List Int)) (wd : Nat), d = .list (vc.map dV) ∧ e = .int (wd : Nat) ∧ WOk wd vc := by
  unfold faultD at h
  split at h
  · cases h
  · rename_i c1
    have c1 : numIn e 1 7 = true := by
      cases hq : numIn e 1 7 with
      | true => rfl
      | false => exact absurd hq c1
    obtain ⟨w, rfl⟩ : ∃ w, e = .int w := by revert c1; cases e <;> simp [numIn]
    have hw : 1 ≤ w ∧ w ≤ 7 := by simpa [numIn] using c1
    split at h
    · cases h
    · rename_i ds hds
      split at h
      · cases h
      · rename_i hl
        have hb : firstBad w ds 0 = none := by
          have : (firstBad (wOf (.int w)) ds 0).map (fun (i : Nat) => Fault.vec (i : Int)) = none := h
          rw [Option.map_eq_none_iff] at this
          exact this
        have all := firstBad_all hb
        obtain ⟨wd, rfl⟩ : ∃ wd : Nat, w = (wd : Nat) := ⟨w.toNat, by omega⟩
        have dl : d = .list ds := by
          cases d with
          | list xs => simp [itemsD] at hds; rw [hds]
          | tuple xs =>
            simp [itemsD] at hds
            subst hds
            have e1 := hn xs rfl
            have := all (.str "a") (by rw [e1]; simp)
            simp [vecD] at this
          | _ => simp [itemsD] at hds
        subst dl
        have hz : ∀ z ∈ ds, ShwN 1 z := by
          rcases hs with hs | ⟨es, e1, _, hz⟩
          · exact hs.elim
          · have : es = ds := by
              rcases e1 with e1 | e1
              · exact (PyData.list.inj e1).symm
              · cases e1
            subst this
            exact hz
        obtain ⟨vc, rfl, hv⟩ := vecs_of_all (P := fun v => v.length = wd ∧ (∀ x ∈ v, x.natAbs ≤ BIG) ∧ NZ v) (ds := ds) fun z hz' => by
          have a1 := all z hz'
          have a2 := hz z hz'
          cases z with
          | tuple xs =>
            simp only [vecD, Bool.and_eq_true, decide_eq_true_eq] at a1
            obtain ⟨b1, b2, b3⟩ := a1
            obtain ⟨v, rfl⟩ := wholes_ints b2
            refine ⟨v, rfl, by rw [List.length_map] at b1; omega, fun x hx => ?_, ?_⟩
            · rcases a2 with a2 | ⟨es, e1, _, he⟩
              · exact a2.elim
              · have : es = v.map .int := by
                  rcases e1 with e1 | e1
                  · cases e1
                  · exact (PyData.tuple.inj e1).symm
                subst this
                exact he (.int x) (List.mem_map_of_mem hx)
            · obtain ⟨y, hy, hy2⟩ := List.any_eq_true.mp b3
              obtain ⟨x, hx, rfl⟩ := List.mem_map.mp hy
              exact ⟨x, hx, by simpa [neZ] using hy2⟩
          | _ => simp [vecD] at a1
        refine ⟨vc, wd, rfl, rfl, by omega, by omega, ?_, hv⟩
        rw [List.length_map] at hl
        omega
theorem pay_ok {d e : PyData} {f : Fault} (h : faultD d e = some f) (he : ShwN 1 e) : Okd 2 (.tuple [.str f.code, f.pay]) := by
  have hp : Okd 1 f.pay := by
    cases f with
    | num z =>
      have : z = e := by
        unfold faultD at h
        split at h
        · cases h; rfl
        · split at h
          · cases h
          · split at h
            · cases h
            · cases hb : firstBad (wOf e) _ 0 with
              | none => rw [hb] at h; cases h
              | some j => rw [hb] at h; cases h
      rw [this]
      exact shw_okd he
    | vec i => exact .inl rfl
    | many => exact .inl rfl
  refine .inr ⟨_, .inr rfl, by show 2 ≤ 1000; decide, fun z hz => ?_⟩
  rcases List.mem_cons.mp hz with e | e
  · rw [e]; exact .inl rfl
  · rw [List.mem_singleton.mp e]; exact hp
theorem at_reps {B : Addr} {H : Hp} {vs : List V} {ds : List PyData} (h : AtAll B H vs ds) : ∀ n, AtAll B H (List.replicate n vs).flatten (List.replicate n ds).flatten
  | 0 => .nil
  | n + 1 => by
    rw [List.replicate_succ, List.replicate_succ, List.flatten_cons, List.flatten_cons]
    exact h.append (at_reps h n)
theorem mem_reps {α : Type} {ds : List α} {z : α} : ∀ n, z ∈ (List.replicate n ds).flatten → z ∈ ds
  | 0, h => by simp at h
  | n + 1, h => by
    rw [List.replicate_succ, List.flatten_cons, List.mem_append] at h
    exact h.elim id (mem_reps n)
/-! ### no list in it -/
mutual
def noL : PyData → Bool
  | .list _ => false
  | .tuple xs => noLAll xs
  | _ => true
def noLAll : List PyData → Bool
  | [] => true
  | x :: xs => noL x && noLAll xs
end
mutual
theorem at_upd {B l : Addr} {H : Hp} {o : HO} {ys : List V} (e : H l = some (.lst ys)) : ∀ {v : V} {d : PyData}, At B H v d → noL d = true → At B (upd H l o) v d
  | _, _, .non, _ => .non
  | _, _, .bl b, _ => .bl b
  | _, _, .int i, _ => .int i
  | _, _, .str x, _ => .str x
  | _, _, .lst _ _ _, h => by simp [noL] at h
  | _, _, .tup n ea a, h => .tup n (by rw [upd_ne (fun z => by rw [z, e] at ea; cases ea)]; exact ea) (at_updA e a (by simpa [noL] using h))
theorem at_updA {B l : Addr} {H : Hp} {o : HO} {ys : List V} (e : H l = some (.lst ys)) : ∀ {vs : List V} {ds : List PyData}, AtAll B H vs ds → noLAll ds = true → AtAll B (upd H l o) vs ds
  | _, _, .nil, _ => .nil
  | _, _, .cons a r, h => by
    simp only [noLAll, Bool.and_eq_true] at h
    exact .cons (at_upd e a h.1) (at_updA e r h.2)
end
theorem noL_all : ∀ {ds : List PyData}, (∀ z ∈ ds, noL z = true) → noLAll ds = true
  | [], _ => rfl
  | d :: ds, h => by
    show (noL d && noLAll ds) = true
    rw [h d (by simp), noL_all fun z hz => h z (by simp [hz])]
    rfl
theorem noL_rep {n : Nat} {d : PyData} (h : noL d = true) : noL (.tuple (List.replicate n d)) = true := noL_all fun z hz => by rw [List.eq_of_mem_replicate hz]; exact h
theorem noL_vec (v : List Int) : noL (dV v) = true := noL_all fun z hz => by
  obtain ⟨x, _, rfl⟩ := List.mem_map.mp hz
  rfl
end K69

/-! ## K16 -/
namespace K69
open PySem PySem.Spec PyProof.Rows L2
section
variable {P : Program} {w : World} {K : PySem.W.Frag} {mg : Str → Option Value} {base : Heap}
abbrev sRf : Stmt := topS 42
abbrev nRf : List Str := ["_law_bag", "_law_given", "_law_wide", "_law_road", "_law_late", "_law_broad", "_law_kept", "_law_fault", "_law_told"]
theorem scRf : FnScope nRf ["_law_bag", "_law_given", "_law_wide"] (defScope sRf) := ⟨rfl, rfl, rfl, by decide +kernel, rfl, by decide +kernel, by decide +kernel⟩
def lamQ : Str := (envOfC "_law_refused_so" (defScope sRf) 0 0 .none).qual ++ "<lambda>"
abbrev TT (Pt : Addr) : List (Addr × Str) := [(Pt, lamQ)]
def spRf (Pt : Addr) : Sp := fun vs H Q _ => ∃ (B L : Addr) (ns : List Int) (g : Addr) (xs : List V) (vc : List (List Int)) (wd : Nat), vs = [.ref B, .ref g, .int (wd : Nat)] ∧ BagAt B L ns H ∧ g ≠ B ∧ H g = some (.lst xs) ∧ AtAll B H xs (vc.map dV) ∧ GoodL wd vc ∧ vc.length ≤ 7 ∧ 0 < wd ∧ wd ≤ 7 ∧
  LamX.Tabs (TT Pt) H ∧ ∀ H', ExtB B H H' → BagAt B L ns H' → LamX.Tabs (TT Pt) H' → Q (.bl true) H'
/-- what refused_so calls -/
structure RfD (P : Program) (w : World) (K : PySem.W.Frag) (mg : Str → Option Value) (base : Heap) (c : ClsA) : Prop where
  pull : Df P w K mg base 1 "_law_pull" ["_law_bag", "_law_sides"] spPull
  any : Df P w K mg base 2 "_law_any" ["_law_bag", "_law_items"] spAny
  vf : Df P w K mg base 3 "_law_vectors_fault" ["_law_given", "_law_wide"] spVF
  like : Df P w K mg base 3 "_law_like" ["_law_a", "_law_b"] (spLike 2)
  ts : Df P w K mg base 3 "_law_told_so" ["_law_told", "_law_given", "_law_wide"] spTS
  wg : WgF P w K mg base c
  fld : ∃ f fd, FnP P w K mg base 1 f fd ["_law_e"] (spFld c) ∧ mg "_law_field" = some (.ref f) ∧ PySem.W.keepIn K (.ref f) = true ∧ L2.Binds K fd ["_law_e"] []
  tr : ∃ f fd, Fun K "_law_try" "_law_try" sTry f fd ∧ mg "_law_try" = some (.ref f) ∧ PySem.W.keepIn K (.ref f) = true ∧ L2.Binds K fd ["_law_ask"] []
  cls : ∃ c1 c2 c3, FldT K c [c1, c2, c3] ∧ mg "ChoiceError" = some c1 ∧ mg "Missing" = some c2 ∧ mg "NothingLeft" = some c3
theorem in2 {r : Int} (h0 : 0 ≤ r) (h6 : r < 6) : inV (V.int r) [V.int 0, V.int 1] = decide (r = 0 ∨ r = 1) := by
  have : r = 0 ∨ r = 1 ∨ r = 2 ∨ r = 3 ∨ r = 4 ∨ r = 5 := by omega
  rcases this with rfl | rfl | rfl | rfl | rfl | rfl <;> decide +kernel
theorem shw_rep {n : Nat} {d : PyData} (hn : n ≤ 20) (h : LeafOk d) : ShwN 1 (.tuple (List.replicate n d)) :=
  .inr ⟨_, .inr rfl, by rw [List.length_replicate]; exact hn, fun z hz => by rw [List.eq_of_mem_replicate hz]; exact h⟩
theorem shw_repL {n : Nat} {d : PyData} (hn : n ≤ 20) (h : LeafOk d) : ShwN 1 (.list (List.replicate n d)) :=
  .inr ⟨_, .inl rfl, by rw [List.length_replicate]; exact hn, fun z hz => by rw [List.eq_of_mem_replicate hz]; exact h⟩
theorem shw_one {d : PyData} (h : ShwN 1 d) : ShwN 2 (.list [d]) := .inr ⟨_, .inl rfl, by simp, fun z hz => by rw [List.mem_singleton.mp hz]; exact h⟩
theorem notTup_l {ds : List PyData} : NotTup (.list ds) := fun _ z => by cases z
abbrev lateDs (wd : Nat) : List PyData := [.none, .str "", .int 5, .tuple [.str "a"], .list [.tuple (List.replicate wd (.int 0))], .list [.tuple (List.replicate wd (.int 1)), .none], .list [.list (List.replicate wd (.int 1))], .list [.tuple (List.replicate 8 (.int 1))], .bool true]
theorem late_ok {wd : Nat} (h7 : wd ≤ 7) : ∀ d ∈ lateDs wd, ShwN 2 d ∧ NotTup d := by
  intro d hd
  have l0 : LeafOk (.int 0) := by show Int.natAbs 0 ≤ BIG; decide
  have l1 : LeafOk (.int 1) := by show Int.natAbs 1 ≤ BIG; decide
  simp only [lateDs, List.mem_cons, List.not_mem_nil, or_false] at hd
  rcases hd with rfl | rfl | rfl | rfl | rfl | rfl | rfl | rfl | rfl
  · exact ⟨.inl trivial, fun _ z => by cases z⟩
  · exact ⟨.inl (by show _ ∧ _; decide +kernel), fun _ z => by cases z⟩
  · exact ⟨.inl (by show Int.natAbs 5 ≤ BIG; decide), fun _ z => by cases z⟩
  · refine ⟨.inr ⟨_, .inr rfl, by simp, fun z hz => ?_⟩, fun ds z => (PyData.tuple.inj z).symm⟩
    rw [List.mem_singleton.mp hz]
    exact .inl (by show _ ∧ _; decide +kernel)
  · exact ⟨shw_one (shw_rep (by omega) l0), notTup_l⟩
  · refine ⟨.inr ⟨_, .inl rfl, by simp, fun z hz => ?_⟩, notTup_l⟩
    rcases List.mem_cons.mp hz with e | e
    · rw [e]; exact shw_rep (by omega) l1
    · rw [List.mem_singleton.mp e]; exact .inl trivial
  · exact ⟨shw_one (shw_repL (by omega) l1), notTup_l⟩
  · exact ⟨shw_one (shw_rep (by decide) l1), notTup_l⟩
  · exact ⟨.inl trivial, fun _ z => by cases z⟩
abbrev insDs (wd : Nat) : List PyData := [.tuple (.bool true :: [] ++ List.replicate (wd - 1) (.int 1)), .tuple (List.replicate wd (.int 0)), .tuple (List.replicate (wd + 1) (.int 1)), .str "a", .none]
theorem ins_ok {wd : Nat} (h7 : wd ≤ 7) : ∀ d ∈ insDs wd, ShwN 1 d ∧ noL d = true := by
  intro d hd
  have l0 : LeafOk (.int 0) := by show Int.natAbs 0 ≤ BIG; decide
  have l1 : LeafOk (.int 1) := by show Int.natAbs 1 ≤ BIG; decide
  simp only [insDs, List.mem_cons, List.not_mem_nil, or_false] at hd
  rcases hd with rfl | rfl | rfl | rfl | rfl
  · refine ⟨.inr ⟨_, .inr rfl, by simp; omega, fun z hz => ?_⟩, noL_all fun z hz => ?_⟩
    · rcases List.mem_append.mp hz with e | e
      · rw [List.mem_singleton.mp e]; exact trivial
      · rw [List.eq_of_mem_replicate e]; exact l1
    · rcases List.mem_append.mp hz with e | e
      · rw [List.mem_singleton.mp e]; rfl
      · rw [List.eq_of_mem_replicate e]; rfl
  · exact ⟨shw_rep (by omega) l0, noL_rep rfl⟩
  · exact ⟨shw_rep (by omega) l1, noL_rep rfl⟩
  · exact ⟨.inl (by show _ ∧ _; decide +kernel), rfl⟩
  · exact ⟨.inl trivial, rfl⟩
abbrev stR (B g : Addr) (wd : Nat) (r : Int) (x y : V) (a b c : Option V) : L2.St := [some (.ref B), some (.ref g), some (.int (wd : Nat)), some (.int r), some x, some y, a, b, c]
theorem ok_rf {c : ClsA} {f cd Pt : Addr} {oc : Value} {od an : Option Addr} {osl : Array (Option Value)} {kV doc pm ct : Value}
    (lk : K.lookup f = some ⟨oc, od, .func (PySem.W.fnOf "_law_refused_so" "_law_refused_so" (defArgs sRf) (defBody sRf) (defScope sRf) .none kV doc pm an (.ref cd) ct), osl⟩) (hcd : PySem.W.codeIn K (.ref cd) "_law_refused_so" = true)
    (T : Tx K mg) (R : RfD P w K mg base c) (TB : LamX.TabB base mg cd Pt) :
    FnG P w K mg base 7 f (PySem.W.fnOf "_law_refused_so" "_law_refused_so" (defArgs sRf) (defBody sRf) (defScope sRf) .none kV doc pm an (.ref cd) ct) ["_law_bag", "_law_given", "_law_wide"] (spRf Pt) := by
  refine fnG_of lk hcd scRf (fun vs H Q E h => ?_) (fun A outer s H vs Q hG hr h => ?_)
  · obtain ⟨B, L, ns, g, xs, vc, wd, rfl, _⟩ := h
    rfl
  · obtain ⟨B, L, ns, g, xs, vc, wd, rfl, hB, ng, hg, hA, hGL, hl7, h0, h7, hT, q⟩ := h
    obtain ⟨fw, fdw, GW, mW, kW, _, bW0⟩ := R.wg.ex
    obtain ⟨ff, fdf, GF, mf, kf, bf⟩ := R.fld
    obtain ⟨ft, fdt, FT, mt, kt, bt⟩ := R.tr
    obtain ⟨c1, c2, c3, hFT, m1, m2, m3⟩ := R.cls
    obtain ⟨oct, odt, kVt, doct, pmt, ant, cdvt, ctt, oslt, rfl, lkt, hcdt⟩ := FT.ex
    have lx : xs.length = vc.length := by rw [hA.len, List.length_map]
    -- road, late, broad
    refine pss_cut (fun σ' H' => ∃ (r : Int) (l : Addr), σ' = stR B g wd r (.ref l) (.int (wd : Nat)) none none none ∧ 0 ≤ r ∧ r < 6 ∧ Sb B H H' ∧ BagAt B L ns H' ∧ l ≠ B ∧ H l = none ∧ L ≠ l ∧ H' l = some (.lst xs))
      (ps_asg (pe_tup (pa_cons (pe_d R.pull hr (by rfl) (pa_cons (pv 0) (pa_cons pe_int pa_nil))) (pa_cons (pe_lstO T (pv 1)) (pa_cons (pv 2) pa_nil)))) (pg_tup rfl (pgs_cons (pg_name (i := 3) scRf.nd rfl (.inl rfl)) (pgs_cons (pg_name (i := 4) scRf.nd rfl (.inr rfl)) (pgs_cons (pg_name (i := 5) scRf.nd rfl (.inr rfl)) pgs_nil))))) ?_ ?_
    · refine ⟨.ref B, rfl, B, L, ns, 6, rfl, hB, by decide, by decide, fun r H1 r0 r1 s1 hB1 => ?_⟩
      refine ⟨.ref g, rfl, g, xs, rfl, .inl (SqL.of (s1 _ _ ng hg)), fun l hl => ?_⟩
      have s2 := same_upd (o := .lst xs) hl
      refine ⟨.int (wd : Nat), rfl, (by show 3 ≤ sizeLine; decide), fun tp htp => ?_⟩
      have s3 := s2.trans (same_upd (o := .tup [.int r, .ref l, .int (wd : Nat)]) htp)
      refine ⟨tp, _, rfl, SqT.of upd_same, rfl, _, _, rfl, _, _, rfl, _, _, rfl, rfl, r, l, rfl, r0, r1, s1.trans (Sb.of s3), hB1.same s3, (hB1.ne hl).symm, fresh_back s1 (hB1.ne hl).symm hl, ne_of_none hB1.lst.2 hl, ?_⟩
      exact same_upd htp _ _ upd_same
    rintro σ' H1 ⟨r, l, rfl, r0, r6, s1, hB1, nl, hl0, nLl, el⟩
    -- broad
    refine pss_cut (fun σ' H' => ∃ (y : V) (e : PyData), σ' = stR B g wd r (.ref l) y none none none ∧ Sb B H1 H' ∧ BagAt B L ns H' ∧ At B H' y e ∧ ShwN 1 e ∧ noL e = true)
      (ps_if (pt_cmpR op_eq (pv 3) pe_int (nomark _)) (pss_one (ps_set (i := 5) scRf.nd rfl (.inr rfl) (pe_d R.any hr (by rfl) (pa_cons (pv 0) (pa_cons (pe_lst (pa_cons pe_int (pa_cons pe_int (pa_cons pe_non (pa_cons pe_bl (pa_cons pe_str (pa_cons (pe_un un_neg pe_int) (pa_cons (pe_tup (pa_cons (pv 2) pa_nil)) (pa_cons pe_int pa_nil))))))))) pa_nil))))) pss_nil) ?_ ?_
    · refine ⟨.int r, rfl, rfl, _, rfl, ?_⟩
      by_cases c0 : r = 0
      · rw [decide_eq_true (show V.int r = V.int 0 by rw [c0])]
        refine iteT ⟨.ref B, rfl, ?_⟩
        refine ev_lst (B := B) (ds := [.int 0, .int 8, .none, .bool true, .str "1", .int (-1), .tuple [.int (wd : Nat)], .int 999999999]) (ev_cons ev_int (ev_cons ev_int (ev_cons ev_non (ev_cons ev_bl (ev_cons ev_str (ev_cons ev_neg (ev_cons (ev_tup (ev_cons (ev_var rfl fun _ => .int _) ev_nil) (by simp)) (ev_cons ev_int ev_nil)))))))) (by simp) H1 _ hB1.nn fun v H2 s2 hv => ?_
        obtain ⟨m, vs, rfl, nm, em, hm⟩ := hv.lstI
        refine any_call (E := E0) (P := fun d => ShwN 1 d ∧ noL d = true) (hB1.same s2) nm em hm (by simp) (by simp) (fun d hd => ?_) fun x d H3 s3 hB3 hx hp => ⟨x, d, rfl, (Sb.of s2).trans s3, hB3, hx, hp⟩
        simp only [List.mem_cons, List.not_mem_nil, or_false] at hd
        rcases hd with rfl | rfl | rfl | rfl | rfl | rfl | rfl | rfl
        · exact ⟨.inl (by show Int.natAbs 0 ≤ BIG; decide), rfl⟩
        · exact ⟨.inl (by show Int.natAbs 8 ≤ BIG; decide), rfl⟩
        · exact ⟨.inl trivial, rfl⟩
        · exact ⟨.inl trivial, rfl⟩
        · exact ⟨.inl (by show _ ∧ _; decide +kernel), rfl⟩
        · exact ⟨.inl (by show Int.natAbs (-1) ≤ BIG; decide), rfl⟩
        · refine ⟨.inr ⟨_, .inr rfl, by simp, fun z hz => ?_⟩, rfl⟩
          rw [List.mem_singleton.mp hz]
          show Int.natAbs (wd : Nat) ≤ BIG
          have : BIG = 10000000000 := rfl
          omega
        · exact ⟨.inl (by show Int.natAbs 999999999 ≤ BIG; decide), rfl⟩
      · rw [decide_eq_false (fun z => c0 (by cases z; rfl))]
        refine iteF ⟨.int (wd : Nat), .int (wd : Nat), rfl, Sb.refl, hB1, .int _, .inl ?_, rfl⟩
        show Int.natAbs (wd : Nat) ≤ BIG
        have : BIG = 10000000000 := rfl
        omega
    rintro σ' H2 ⟨y, e, rfl, s2, hB2, hy2, he2, hnl⟩
    have s12 := s1.trans s2
    have el2 := s2 _ _ nl el
    have hA2 := hA.sb s12
    have wv : ∀ (H : Hp) (Q : VK) (x y : V) (a b c : Option V), Q (.int (wd : Nat)) H → tVar 2 (stR B g wd r x y a b c) H Q := fun H Q x y a b c k => ⟨.int (wd : Nat), rfl, k⟩
    -- late
    refine pss_cut (fun σ' H' => ∃ (x : V) (d : PyData), σ' = stR B g wd r x y none none none ∧ Sb B H2 H' ∧ BagAt B L ns H' ∧ At B H' x d ∧ ShwN 2 d ∧ NotTup d ∧ (¬ (r = 0 ∨ r = 1) → x = .ref l ∧ d = .list (vc.map dV)))
      (ps_if (pt_cmpR op_in_seq (pv 3) (pe_tup (pa_cons pe_int (pa_cons pe_int pa_nil))) rfl) (pss_one (ps_set (i := 4) scRf.nd rfl (.inr rfl) (pe_d R.any hr (by rfl) (pa_cons (pv 0) (pa_cons (pe_lst
          (pa_cons pe_non (pa_cons pe_str (pa_cons pe_int (pa_cons (pe_tup (pa_cons pe_str pa_nil)) (pa_cons (pe_lst (pa_cons (pe_op op_repA (pe_tup (pa_cons pe_int pa_nil)) (pv 2)) pa_nil)) (pa_cons (pe_lst (pa_cons (pe_op op_repA (pe_tup (pa_cons pe_int pa_nil)) (pv 2)) (pa_cons pe_non pa_nil)))
          (pa_cons (pe_lst (pa_cons (pe_op op_rep (pe_lst (pa_cons pe_int pa_nil)) (pv 2)) pa_nil)) (pa_cons (pe_lst (pa_cons (pe_op op_repA (pe_tup (pa_cons pe_int pa_nil)) pe_int) pa_nil)) (pa_cons pe_bl pa_nil)))))))))) pa_nil))))) pss_nil) ?_ ?_
    · refine ⟨.int r, rfl, (by show 2 ≤ sizeLine; decide), fun tp htp => ⟨tp, [.int 0, .int 1], rfl, .inr (SqT.of upd_same), rfl, rfl, _, rfl, ?_⟩⟩
      have s3 := same_upd (o := .tup [V.int 0, V.int 1]) htp
      rw [show (if false = true then !inV (V.int r) [V.int 0, V.int 1] else inV (V.int r) [V.int 0, V.int 1]) = decide (r = 0 ∨ r = 1) from in2 r0 r6]
      generalize upd H2 tp (.tup [V.int 0, V.int 1]) = H3 at *
      have hB3 := hB2.same s3
      by_cases c0 : r = 0 ∨ r = 1
      · rw [decide_eq_true c0]
        refine iteT ⟨.ref B, rfl, ?_⟩
        refine ev_lst (B := B) (ds := lateDs wd) (ev_cons ev_non (ev_cons ev_str (ev_cons ev_int (ev_cons (ev_tup (ev_cons ev_str ev_nil) (by simp)) (ev_cons (ev_lst (ev_cons (ev_rep (n := wd) ev_int (fun H Q k => wv H Q _ _ _ _ _ k) (by omega)) ev_nil) (by simp))
          (ev_cons (ev_lst (ev_cons (ev_rep (n := wd) ev_int (fun H Q k => wv H Q _ _ _ _ _ k) (by omega)) (ev_cons ev_non ev_nil)) (by simp)) (ev_cons (ev_lst (ev_cons (ev_repL (n := wd) ev_int (fun H Q k => wv H Q _ _ _ _ _ k) (by omega)) ev_nil) (by simp))
          (ev_cons (ev_lst (ev_cons (ev_rep (n := 8) ev_int (fun H Q k => k) (by omega)) ev_nil) (by simp)) (ev_cons ev_bl ev_nil))))))))) (by simp) H3 _ hB3.nn fun v H4 s4 hv => ?_
        obtain ⟨m, vs, rfl, nm, em, hm⟩ := hv.lstI
        exact any_call (E := E0) (P := fun d => ShwN 2 d ∧ NotTup d) (hB3.same s4) nm em hm (by simp) (by simp) (late_ok h7) fun x d H5 s5 hB5 hx hp => ⟨x, d, rfl, (Sb.of (s3.trans s4)).trans s5, hB5, hx, hp.1, hp.2, fun z => absurd c0 z⟩
      · rw [decide_eq_false c0]
        exact iteF ⟨.ref l, .list (vc.map dV), rfl, Sb.of s3, hB3, (At.lst nl el2 hA2).sb (Sb.of s3), shw_list h7 (by omega) hGL, notTup_l, fun _ => ⟨rfl, rfl⟩⟩
    rintro σ' H3 ⟨x, d, rfl, s3, hB3, hx3, hd3, hn3, hrel⟩
    have s13 := s12.trans s3
    have hy3 := hy2.sb s3
    -- road 2
    refine pss_cut (fun σ' H' => ∃ (x : V) (d : PyData), σ' = stR B g wd r x y none none none ∧ Sb B H3 H' ∧ BagAt B L ns H' ∧ At B H' x d ∧ ShwN 2 d ∧ NotTup d ∧ (r = 3 → x = .ref l ∧ d = .list (vc.map dV)))
      (ps_if (pt_cmpR op_eq (pv 3) pe_int (nomark _))
        (pss_cons (ps_set (i := 4) scRf.nd rfl (.inr rfl) (pe_op op_rep (pe_op op_cat (pv 4) (pe_lst (pa_cons (pe_op op_repA (pe_tup (pa_cons pe_int pa_nil)) (pv 2)) (pa_cons (pe_op op_repA (pe_tup (pa_cons pe_bl pa_nil)) (pv 2)) pa_nil)))) pe_int))
        (pss_one (ps_set (i := 4) scRf.nd rfl (.inr rfl) (pe_slice sl_list (pv 4) po_none (po_some pe_int))))) pss_nil) ?_ ?_
    · refine ⟨.int r, rfl, rfl, _, rfl, ?_⟩
      by_cases c2 : r = 2
      · rw [decide_eq_true (show V.int r = V.int 2 by rw [c2])]
        obtain ⟨rfl, rfl⟩ := hrel (by omega)
        refine iteT ⟨.ref l, rfl, ?_⟩
        refine ev_lst (B := B) (ds := [.tuple (List.replicate wd (.int 1)), .tuple (List.replicate wd (.bool true))]) (ev_cons (ev_rep (n := wd) ev_int (fun H Q k => wv H Q _ _ _ _ _ k) (by omega)) (ev_cons (ev_rep (n := wd) ev_bl (fun H Q k => wv H Q _ _ _ _ _ k) (by omega)) ev_nil)) (by simp) H3 _ hB3.nn fun v H4 s4 hv => ?_
        obtain ⟨m, vs, rfl, nm, em, hm⟩ := hv.lstI
        obtain ⟨l', xs', el', _, elx, hxs⟩ := (hx3.sb (Sb.of s4)).lstI
        cases el'
        have lxs := hxs.len
        rw [List.length_map] at lxs
        have lvs := hm.len
        have lvs2 : vs.length = 2 := by rw [lvs]; rfl
        refine ⟨l, m, xs', vs, rfl, rfl, elx, em, Nat.le_of_lt (small1000 (by omega)), fun p hp => ?_⟩
        have s5 := s4.trans (same_upd (o := .lst (xs' ++ vs)) hp)
        have hall : AtAll B (upd H4 p (.lst (xs' ++ vs))) (xs' ++ vs) (vc.map dV ++ [.tuple (List.replicate wd (.int 1)), .tuple (List.replicate wd (.bool true))]) := (hxs.append hm).sb (Sb.of (same_upd hp))
        refine ⟨p, 13, xs' ++ vs, rfl, rfl, upd_same, by decide, by decide, ?_, fun z hz => ?_⟩
        · show (xs' ++ vs).length * 13 ≤ sizeLine
          exact Nat.le_trans (show _ ≤ 1000 by rw [List.length_append]; omega) (by decide)
        generalize upd H4 p (.lst (xs' ++ vs)) = H5 at *
        have s6 := s5.trans (same_upd (o := .lst (List.replicate (13 : Int).toNat (xs' ++ vs)).flatten) hz)
        have ez : (upd H5 z (.lst (List.replicate (13 : Int).toNat (xs' ++ vs)).flatten)) z = some (.lst (List.replicate (13 : Int).toNat (xs' ++ vs)).flatten) := upd_same
        have hall6 := (hall.sb (Sb.of (same_upd (o := .lst (List.replicate (13 : Int).toNat (xs' ++ vs)).flatten) hz)))
        generalize upd H5 z (.lst (List.replicate (13 : Int).toNat (xs' ++ vs)).flatten) = H6 at *
        refine ⟨.ref z, rfl, 13, rfl, z, _, rfl, SqL.of ez, fun u hu => ?_⟩
        rw [show cutV (List.replicate (13 : Int).toNat (xs' ++ vs)).flatten none (some 13) = (List.replicate (13 : Int).toNat (xs' ++ vs)).flatten.take 13 from cut_take _ 13]
        have s7 := s6.trans (same_upd (o := .lst ((List.replicate (13 : Int).toNat (xs' ++ vs)).flatten.take 13)) hu)
        refine ⟨.ref u, .list ((List.replicate (13 : Int).toNat (vc.map dV ++ [.tuple (List.replicate wd (.int 1)), .tuple (List.replicate wd (.bool true))])).flatten.take 13), rfl, Sb.of s7, hB3.same s7, .lst ((hB3.same s6).ne hu).symm upd_same (((at_reps hall6 _).take 13).sb (Sb.of (same_upd hu))), ?_, notTup_l, fun z => by omega⟩
        refine .inr ⟨_, .inl rfl, by rw [List.length_take]; omega, fun w hw => ?_⟩
        have hw := mem_reps _ (List.mem_of_mem_take hw)
        rcases List.mem_append.mp hw with hw | hw
        · obtain ⟨v, hv, rfl⟩ := List.mem_map.mp hw
          exact shw_vec h7 (hGL v hv)
        · rcases List.mem_cons.mp hw with hw | hw
          · rw [hw]; exact shw_rep (by omega) (by show Int.natAbs 1 ≤ BIG; decide)
          · rw [List.mem_singleton.mp hw]; exact shw_rep (by omega) trivial
      · rw [decide_eq_false (fun z => c2 (by cases z; rfl))]
        exact iteF ⟨x, d, rfl, Sb.refl, hB3, hx3, hd3, hn3, fun z => hrel (by omega)⟩
    rintro σ' H4 ⟨x', d', rfl, s4, hB4, hx4, hd4, hn4, hrel4⟩
    have s14 := s13.trans s4
    have hy4 := hy3.sb s4
    -- road 3
    refine pss_cut (fun σ' H' => ∃ (x : V) (d : PyData), σ' = stR B g wd r x y none none none ∧ Sb B H H' ∧ BagAt B L ns H' ∧ At B H' x d ∧ At B H' y e ∧ ShwN 2 d ∧ NotTup d ∧ LamX.Tabs (TT Pt) H')
      (ps_if (pt_cmpR op_eq (pv 3) pe_int (nomark _))
        (pss_one (ps_expr (pe_bm PySem.F.plainAttrs_list PySem.F.slot_list_insert PySem.F.type_list_insert mt_insert (pv 4) (pa_cons (pe_d R.pull hr (by rfl) (pa_cons (pv 0) (pa_cons (pe_op op_add (pe_len T (pv 4)) pe_int) pa_nil))) (pa_cons (pe_d R.any hr (by rfl) (pa_cons (pv 0) (pa_cons (pe_lst
          (pa_cons (pe_op op_catA (pe_tup (pa_cons pe_bl pa_nil)) (pe_op op_repA (pe_tup (pa_cons pe_int pa_nil)) (pe_op op_sub (pv 2) pe_int))) (pa_cons (pe_op op_repA (pe_tup (pa_cons pe_int pa_nil)) (pv 2)) (pa_cons (pe_op op_repA (pe_tup (pa_cons pe_int pa_nil)) (pe_op op_add (pv 2) pe_int)) (pa_cons pe_str (pa_cons pe_non pa_nil)))))) pa_nil))) pa_nil))))) pss_nil) ?_ ?_
    · refine ⟨.int r, rfl, rfl, _, rfl, ?_⟩
      by_cases c3 : r = 3
      · rw [decide_eq_true (show V.int r = V.int 3 by rw [c3])]
        obtain ⟨rfl, rfl⟩ := hrel4 c3
        obtain ⟨l', xs', el', _, elx, hxs⟩ := hx4.lstI
        cases el'
        have lxs := hxs.len
        rw [List.length_map] at lxs
        refine iteT ⟨.ref l, rfl, .inl ⟨rfl, _, SqL.of elx⟩, .ref B, rfl, .ref l, rfl, l, xs', rfl, .inl (SqL.of elx), _, 1, rfl, rfl, B, L, ns, _, rfl, hB4, by omega, by omega, fun k H5 k0 k1 s5 hB5 => ⟨.ref B, rfl, ?_⟩⟩
        refine ev_lst (B := B) (ds := insDs wd) (ev_cons (ev_cat (ev_tup (ev_cons ev_bl ev_nil) (by simp)) (ev_rep (n := wd - 1) ev_int (fun H Q k => ⟨.int (wd : Nat), rfl, (wd : Nat), 1, rfl, rfl, (show Q (.int (((wd : Nat) : Int) - 1)) H from by rw [show ((wd : Nat) : Int) - 1 = ((wd - 1 : Nat) : Int) by omega]; exact k)⟩) (by omega)) (by simp; omega)) (ev_cons (ev_rep (n := wd) ev_int (fun H Q k => wv H Q _ _ _ _ _ k) (by omega))
          (ev_cons (ev_rep (n := wd + 1) ev_int (fun H Q k => ⟨.int (wd : Nat), rfl, (wd : Nat), 1, rfl, rfl, k⟩) (by omega)) (ev_cons ev_str (ev_cons ev_non ev_nil))))) (by simp) H5 _ hB5.nn fun v H6 s6 hv => ?_
        obtain ⟨m, vs, rfl, nm, em, hm⟩ := hv.lstI
        refine any_call (E := E0) (P := fun d => ShwN 1 d ∧ noL d = true) (hB5.same s6) nm em hm (by simp) (by simp) (ins_ok h7) fun z dz H7 s7 hB7 hz hp => ?_
        have s47 := (s5.trans (Sb.of s6)).trans s7
        refine ⟨l, xs', k, z, rfl, rfl, s47 _ _ nl elx, small1000 (by omega), k0, by omega, ?_⟩
        have hxs7 := hxs.sb s47
        have s17 := s14.trans s47
        have sU : Sb B H (upd H7 l (.lst (xs'.take k.toNat ++ [z] ++ xs'.drop k.toNat))) := fun b o nb e => by
          rw [upd_ne (ne_of_none e hl0)]
          exact s17 _ _ nb e
        have hdz : ∀ z ∈ vc.map dV, ShwN 1 z := fun z hz => by
          obtain ⟨v, hv, rfl⟩ := List.mem_map.mp hz
          exact shw_vec h7 (hGL v hv)
        refine ⟨.ref l, .list ((vc.map dV).take k.toNat ++ [dz] ++ (vc.map dV).drop k.toNat), rfl, sU, hB7.upd nl.symm nLl, .lst nl upd_same ?_, ?_, ?_, notTup_l, ?_⟩
        · refine at_updA (s47 _ _ nl elx) (((hxs7.take _).append (.cons hz .nil)).append (hxs7.drop _)) (noL_all fun w hw => ?_)
          have nv : ∀ z ∈ vc.map dV, noL z = true := fun z hz => by
            obtain ⟨v, hv, rfl⟩ := List.mem_map.mp hz
            exact noL_vec v
          rcases List.mem_append.mp hw with hw | hw
          · rcases List.mem_append.mp hw with hw | hw
            · exact nv w (List.mem_of_mem_take hw)
            · rw [List.mem_singleton.mp hw]; exact hp.2
          · exact nv w (List.mem_of_mem_drop hw)
        · exact at_upd (s47 _ _ nl elx) (hy4.sb s47) hnl
        · refine .inr ⟨_, .inl rfl, ?_, fun w hw => ?_⟩
          · simp only [List.length_append, List.length_take, List.length_drop, List.length_map, List.length_singleton]
            omega
          · rcases List.mem_append.mp hw with hw | hw
            · rcases List.mem_append.mp hw with hw | hw
              · exact hdz w (List.mem_of_mem_take hw)
              · rw [List.mem_singleton.mp hw]; exact hp.1
            · exact hdz w (List.mem_of_mem_drop hw)
        · exact tabs_sb hT hB sU
      · rw [decide_eq_false (fun z => c3 (by cases z; rfl))]
        exact iteF ⟨x', d', rfl, s14, hB4, hx4, hy4, hd4, hn4, tabs_sb hT hB s14⟩
    rintro σ' H5 ⟨x5, d5, rfl, s5, hB5, hx5, hy5, hd5, hn5, hT5⟩
    -- kept, fault
    refine pss_cut (fun σ' H' => ∃ z : V, σ' = stR B g wd r x5 y (some (.str d5.shown)) (some z) none ∧ Same H5 H' ∧ ((faultD d5 e = none ∧ z = .non) ∨ ∃ f, faultD d5 e = some f ∧ At B H' z (.tuple [.str f.code, f.pay])))
      (ps_par (i := 6) (j := 7) rfl scRf.nd rfl rfl (by decide) rfl rfl (pa_cons (pe_repr hG (un64 hr) T (pv 4)) (pa_cons (pe_d R.vf hr (by rfl) (pa_cons (pv 4) (pa_cons (pv 5) pa_nil))) pa_nil)) rfl)
      ⟨x5, rfl, B, x5, d5, rfl, hx5, hd5, x5, rfl, y, rfl, B, x5, y, d5, e, rfl, hx5, hy5, shw_small hd5, hB5.nn, fun hf H' s' => ⟨_, _, rfl, .non, rfl, s', .inl ⟨hf, rfl⟩⟩, fun f hf H' t s' ht => ⟨_, _, rfl, t, rfl, s', .inr ⟨f, hf, ht⟩⟩⟩ ?_
    rintro σ' H6 ⟨z, rfl, s6, hz⟩
    have sE6 : ExtB B H H6 := ExtB.of (s5.trans (Sb.of s6))
    have hB6 := hB5.same s6
    have hT6 : LamX.Tabs (TT Pt) H6 := hT5.ext s6
    have hx6 := hx5.sb (Sb.of s6)
    have hy6 := hy5.sb (Sb.of s6)
    -- told
    refine pss_cut (fun σ' H' => ∃ tv : V, σ' = stR B g wd r x5 y (some (.str d5.shown)) (some z) (some tv) ∧ ExtB B H H' ∧ BagAt B L ns H' ∧ LamX.Tabs (TT Pt) H' ∧ At B H' x5 d5 ∧ At B H' y e ∧
        ((z = .non ∧ ∃ (t u : Addr) (vk : List (List Int)) (wk : Nat), tv = .ref t ∧ H' t = some (.tup [.str "", .ref u]) ∧ d5 = .list (vk.map dV) ∧ e = .int (wk : Nat) ∧ WOk wk vk ∧ ToldAt H' u (weighM vk wk)) ∨
          ∃ f, faultD d5 e = some f ∧ At B H' z (.tuple [.str f.code, f.pay]) ∧ At B H' tv (.tuple [.str f.code, f.pay])))
      (ps_set (i := 8) scRf.nd rfl (.inl rfl) (LamX.pe_lamcall (T := TT Pt) (TT := TTry c) (x := "_law_try") (a := "_law_ask") (g := ft) (c := cd) (P := Pt) (k := 4) (Ng := nTry) (by rfl) mt kt lkt hcdt bt scTry rfl (.inl rfl)
        (try_gives hFT m1 m2 m3 GF mf kf bf (fun s => L2H.roomH_of ((hr.mono (show 2 ≤ 6 by decide)).deeper _))) TB rfl (List.mem_singleton.mpr rfl) (fun p hp _ => by rw [List.mem_singleton.mp hp]; rfl) hr (LamX.lamS_by (sc := defScope sRf) (by decide +kernel)) rfl (fun _ _ _ _ _ => rfl)
        (fun A outer s H E f c' hr2 => pe_callN0 GW hr2 (by rfl) mW kW bW0 (passes_call (takes_of rfl rfl rfl rfl) (fun _ _ _ _ h => h)) (pk_cons (pv 4) (pk_cons (pv 5) pk_nil))))) ?_ ?_
    · refine ⟨hT6, fun H7 s7 hT7 => ?_⟩
      have sE7 := sE6.trans (ExtB.ofN s7)
      have e7 : ExtB B H6 H7 := ExtB.ofN s7
      have hx7 := hx6.ext e7
      have hy7 := hy6.ext e7
      have hB7 := hB6.extN s7
      refine ⟨x5, rfl, y, rfl, rfl, B, x5, y, d5, e, rfl, hx7, hy7, fun f hf => ?_, fun hf => ?_⟩
      · -- the error
        have hzf : At B H6 z (.tuple [.str f.code, f.pay]) := by
          rcases hz with ⟨h1, _⟩ | ⟨f', h1, h2⟩
          · rw [hf] at h1; cases h1
          · rw [hf] at h1
            cases h1
            exact h2
        refine fun H8 dd v s8 ndd hv e8 => ⟨f, dd, v, rfl, rfl, e8, fun t H9 s9 ht et => ?_⟩
        have s79 := s8.trans s9
        have eB9 : ExtB B H7 H9 := ExtB.of (Sb.of s79)
        exact ⟨.ref t, rfl, sE7.trans eB9, hB7.same s79, hT7.ext s79, hx7.ext eB9, hy7.ext eB9, .inr ⟨f, hf, (hzf.ext e7).ext eB9, pairAt ((hB7.same s8).ne ht).symm et (hv.sb (Sb.of s9))⟩⟩
      · obtain ⟨vk, wk, rfl, rfl, ok⟩ := nofault hf hd5 hn5
        refine ⟨vk, wk, rfl, rfl, ok.2.1, ok.2.2.1, fun v hv => (ok.2.2.2 v hv).1, fun v hv => (ok.2.2.2 v hv).2.1, fun H8 t u s8 ht hu et eu => ?_⟩
        refine ⟨(by show 2 ≤ sizeLine; decide), fun p hp => ?_⟩
        have s9 := s8.trans (same_upd (o := .tup [.str "", .ref t]) hp)
        have eB9 : ExtB B H7 _ := ExtB.of (Sb.of s9)
        have hzn : z = .non := by
          rcases hz with ⟨_, h1⟩ | ⟨f', h1, _⟩
          · exact h1
          · rw [hf] at h1; cases h1
        exact ⟨.ref p, rfl, sE7.trans eB9, hB7.same s9, hT7.ext s9, hx7.ext eB9, hy7.ext eB9, .inl ⟨hzn, p, t, vk, wk, rfl, upd_same, rfl, rfl, ok, u, same_upd hp _ _ et, same_upd hp _ _ eu⟩⟩
    rintro σ' H7 ⟨tv, rfl, sE7, hB7, hT7, hx7, hy7, hw⟩
    refine ⟨_, pss_cons (ps_if (pt_cmpR op_notN (pv 7) pe_non (nomark _)) (pss_one (ps_ret (pe_and (pe_d R.like hr (by rfl) (pa_cons (pv 8) (pa_cons (pv 7) pa_nil))) (pe_one (pe_cmpR op_eq (pe_repr hG (un64 hr) T (pv 4)) (pv 6) (nomark _)))))) pss_nil)
      (pss_one (ps_ret (pe_and (pe_cmpR op_eq (pe_ix ix_tup (pv 8) pe_int (fun _ _ => rfl)) pe_str (nomark _)) (pe_and (pe_d R.ts hr (by rfl) (pa_cons (pe_ix ix_tup (pv 8) pe_int (fun _ _ => rfl)) (pa_cons (pv 4) (pa_cons (pv 5) pa_nil)))) (pe_one (pe_cmpR op_eq (pe_repr hG (un64 hr) T (pv 4)) (pv 6) (nomark _))))))), ?_⟩
    rcases hw with ⟨rfl, t, u, vk, wk, rfl, et, rfl, rfl, ok, hTold⟩ | ⟨f, hf, hz7, ht7⟩
    · refine ⟨.non, rfl, rfl, _, rfl, ?_⟩
      refine iteF ⟨.ref t, rfl, t, _, 0, _, rfl, rfl, SqT.of et, atI_nat (j := 0) rfl, rfl, _, rfl, ?_⟩
      rw [decide_eq_true rfl]
      obtain ⟨gl, xs7, rfl, ngl, egl, hA7⟩ := hx7.lstI
      have ey := hy7.intI
      subst ey
      refine iteT ⟨.ref t, rfl, t, _, 1, _, rfl, rfl, SqT.of et, atI_nat (j := 1) rfl, .ref gl, rfl, .int (wk : Nat), rfl, ?_⟩
      dsimp only [tNil, List.append_nil]
      refine told_call (K := K) hTold egl hA7 ok fun H8 s8 => ⟨_, rfl, iteT ⟨.ref gl, rfl, B, .ref gl, _, rfl, hx7.sb (Sb.of s8), hd5, _, rfl, rfl, ?_⟩⟩
      rw [decide_eq_true rfl]
      exact q _ (sE7.trans (ExtB.of (Sb.of s8))) (hB7.same s8) (hT7.ext s8)
    · have zn : z ≠ .non := fun e => by rw [e] at hz7; cases hz7
      refine ⟨z, rfl, rfl, _, rfl, ?_⟩
      rw [decide_eq_false zn]
      refine iteT ⟨tv, rfl, z, rfl, B, tv, z, _, rfl, ht7, hz7, pay_ok hf he2, fun H8 s8 => ⟨_, rfl, iteT ⟨x5, rfl, B, x5, d5, rfl, hx7.sb (Sb.of s8), hd5, _, rfl, rfl, ?_⟩⟩⟩
      rw [decide_eq_true rfl]
      exact q _ (sE7.trans (ExtB.of (Sb.of s8))) (hB7.same s8) (hT7.ext s8)
end
end K69

/-! ## K17 -/
namespace K69
open PySem PySem.Spec PyProof.Rows L2
/-- weigh's answer as data -/
theorem told_at {B t : Addr} {H : Hp} {R : Bool × List Int} {L : Addr} {ns : List Int} (b : BagAt B L ns H) (h : ToldAt H t R) : At B H (.ref t) (.tuple [.str (wordM R), dV R.2]) := by
  obtain ⟨u, e1, e2⟩ := h
  obtain ⟨i, c, z, k, eB, _⟩ := b
  have n1 : t ≠ B := fun z => by rw [z, eB] at e1; cases e1
  have n2 : u ≠ B := fun z => by rw [z, eB] at e2; cases e2
  exact .tup n1 e1 (.cons (.str _) (.cons (vecAt n2 e2) .nil))
theorem told_okd {wd : Nat} {vc : List (List Int)} (ok : WOk wd vc) : Okd 2 (.tuple [.str (wordM (weighM vc wd)), dV (weighM vc wd).2]) := by
  obtain ⟨a1, a2, a3⟩ := w_small ok
  have hl : (weighM vc wd).2.length ≤ 1000 := by
    have h2 := ok.2.1
    have h3 := ok.2.2.1
    rcases weigh_told a1 with ⟨_, h⟩ | ⟨_, h⟩
    · rw [h.1]; omega
    · rw [h.1]; omega
  refine .inr ⟨_, .inr rfl, by simp, fun z hz => ?_⟩
  rcases List.mem_cons.mp hz with e | e
  · rw [e]; exact .inl rfl
  · rw [List.mem_singleton.mp e]
    refine .inr ⟨_, .inr rfl, by rw [List.length_map]; exact hl, fun w hw => ?_⟩
    obtain ⟨x, _, rfl⟩ := List.mem_map.mp hw
    rfl
section
variable {P : Program} {w : World} {K : PySem.W.Frag} {mg : Str → Option Value} {base : Heap}
abbrev sLs : Stmt := topS 43
abbrev nLs : List Str := ["_law_bag", "_law_wide", "_law_many", "_law_given", "_law_kept", "_law_told", "_law_k", "_law_one", "_law_x"]
theorem scLs : FnScope nLs ["_law_bag"] (defScope sLs) := ⟨rfl, rfl, rfl, by decide +kernel, rfl, by decide +kernel, by decide +kernel⟩
abbrev scLs1 : Scope := lcScope (asgV ((ifBody ((defBody sLs).getD 3 (.Pass ⟨0, 0, 0, 0⟩))).getD 0 (.Pass ⟨0, 0, 0, 0⟩)))
def spLs (Pt : Addr) : Sp := fun vs H Q _ => ∃ (B L : Addr) (ns : List Int), vs = [.ref B] ∧ BagAt B L ns H ∧ LamX.Tabs (TT Pt) H ∧ ∀ H', BagAt B L ns H' → LamX.Tabs (TT Pt) H' → Q (.bl true) H'
structure LsD (P : Program) (w : World) (K : PySem.W.Frag) (mg : Str → Option Value) (base : Heap) (c : ClsA) (Pt : Addr) : Prop where
  rf : RfD P w K mg base c
  vct : Df P w K mg base 3 "_law_vector" ["_law_bag", "_law_wide"] spVct
  hid : Df P w K mg base 3 "_law_hidden" ["_law_bag", "_law_given", "_law_wide"] spHid
  al : Df P w K mg base 5 "_law_alike_so" ["_law_bag", "_law_told", "_law_given", "_law_wide"] spAl
  rfs : DfG P w K mg base 7 "_law_refused_so" ["_law_bag", "_law_given", "_law_wide"] (spRf Pt)
abbrev stL (B : Addr) (wd : Nat) (a b c d : Option V) : L2.St := [some (.ref B), some (.int (wd : Nat)), a, b, c, d, none, none, none]
theorem ok_ls {c : ClsA} {Pt : Addr} {f : Addr} {fd : FuncData} (F : Fun K "_law_list_so" "_law_list_so" sLs f fd) (T : Tx K mg) (R : LsD P w K mg base c Pt) : FnG P w K mg base 8 f fd ["_law_bag"] (spLs Pt) := by
  obtain ⟨oc, od, kV, doc, pm, an, cdv, ct, osl, rfl, lk, hcd⟩ := F.ex
  refine fnG_of lk hcd scLs (fun vs H Q E h => ?_) (fun A outer s H vs Q hG hr h => ?_)
  · obtain ⟨B, L, ns, rfl, _⟩ := h
    rfl
  · obtain ⟨B, L, ns, rfl, hB, hT, q⟩ := h
    obtain ⟨fw, fdw, GW, mW, kW, bW, _⟩ := R.rf.wg.ex
    -- wide
    refine pss_cut (fun σ' H' => ∃ wd : Nat, σ' = stL B wd none none none none ∧ 0 < wd ∧ wd ≤ 7 ∧ Sb B H H' ∧ BagAt B L ns H')
      (ps_set (i := 1) scLs.nd rfl (.inr rfl) (pe_d R.rf.any hr (by rfl) (pa_cons (pv 0) (pa_cons (pe_lst (pa_cons pe_int (pa_cons pe_int (pa_cons pe_int (pa_cons pe_int (pa_cons pe_int (pa_cons pe_int (pa_cons pe_int (pa_cons pe_int (pa_cons pe_int (pa_cons pe_int (pa_cons pe_int (pa_cons pe_int (pa_cons pe_int (pa_cons pe_int (pa_cons pe_int (pa_cons pe_int pa_nil))))))))))))))))) pa_nil)))) ?_ ?_
    · refine ⟨.ref B, rfl, ?_⟩
      refine ev_lst (B := B) (ds := [.int 3, .int 2, .int 4, .int 3, .int 1, .int 2, .int 4, .int 3, .int 3, .int 2, .int 4, .int 3, .int 2, .int 4, .int 3, .int 7]) (ev_cons ev_int (ev_cons ev_int (ev_cons ev_int (ev_cons ev_int (ev_cons ev_int (ev_cons ev_int (ev_cons ev_int (ev_cons ev_int (ev_cons ev_int (ev_cons ev_int (ev_cons ev_int (ev_cons ev_int (ev_cons ev_int (ev_cons ev_int (ev_cons ev_int (ev_cons ev_int ev_nil)))))))))))))))) (by simp) H _ hB.nn fun v H2 s2 hv => ?_
      obtain ⟨m, vs, rfl, nm, em, hm⟩ := hv.lstI
      refine any_call (E := E0) (P := fun d => ∃ wd : Nat, d = .int (wd : Nat) ∧ 0 < wd ∧ wd ≤ 7) (hB.same s2) nm em hm (by simp) (by simp) (fun d hd => ?_) fun x d H3 s3 hB3 hx hp => ?_
      · simp only [List.mem_cons, List.not_mem_nil, or_false] at hd
        have : d = .int (1 : Nat) ∨ d = .int (2 : Nat) ∨ d = .int (3 : Nat) ∨ d = .int (4 : Nat) ∨ d = .int (7 : Nat) := by
          rcases hd with rfl | rfl | rfl | rfl | rfl | rfl | rfl | rfl | rfl | rfl | rfl | rfl | rfl | rfl | rfl | rfl <;> simp
        rcases this with rfl | rfl | rfl | rfl | rfl
        · exact ⟨1, rfl, by omega, by omega⟩
        · exact ⟨2, rfl, by omega, by omega⟩
        · exact ⟨3, rfl, by omega, by omega⟩
        · exact ⟨4, rfl, by omega, by omega⟩
        · exact ⟨7, rfl, by omega, by omega⟩
      · obtain ⟨wd, rfl, a, b⟩ := hp
        rw [hx.intI]
        exact ⟨wd, rfl, a, b, (Sb.of s2).trans s3, hB3⟩
    rintro σ' H1 ⟨wd, rfl, h0, h7, s1, hB1⟩
    -- many
    refine pss_cut (fun σ' H' => ∃ m : Nat, σ' = stL B wd (some (.int (m : Nat))) none none none ∧ m ≤ 6 ∧ Sb B H1 H' ∧ BagAt B L ns H')
      (ps_set (i := 2) scLs.nd rfl (.inl rfl) (pe_ifExp (pt_cmpR op_lt (pv 1) pe_int (nomark _)) (pe_d R.rf.any hr (by rfl) (pa_cons (pv 0) (pa_cons (pe_lst (pa_cons pe_int (pa_cons pe_int (pa_cons pe_int (pa_cons pe_int (pa_cons pe_int (pa_cons pe_int (pa_cons pe_int (pa_cons pe_int pa_nil))))))))) pa_nil))) pe_int)) ?_ ?_
    · refine ⟨.int (wd : Nat), rfl, (wd : Nat), 7, rfl, rfl, _, rfl, ?_⟩
      by_cases c7 : wd < 7
      · rw [decide_eq_true (show ((wd : Nat) : Int) < 7 by omega)]
        refine iteT ⟨.ref B, rfl, ?_⟩
        refine ev_lst (B := B) (ds := [.int 4, .int 3, .int 5, .int 2, .int 6, .int 1, .int 4, .int 0]) (ev_cons ev_int (ev_cons ev_int (ev_cons ev_int (ev_cons ev_int (ev_cons ev_int (ev_cons ev_int (ev_cons ev_int (ev_cons ev_int ev_nil)))))))) (by simp) H1 _ hB1.nn fun v H2 s2 hv => ?_
        obtain ⟨m, vs, rfl, nm, em, hm⟩ := hv.lstI
        refine any_call (E := E0) (P := fun d => ∃ m : Nat, d = .int (m : Nat) ∧ m ≤ 6) (hB1.same s2) nm em hm (by simp) (by simp) (fun d hd => ?_) fun x d H3 s3 hB3 hx hp => ?_
        · simp only [List.mem_cons, List.not_mem_nil, or_false] at hd
          rcases hd with rfl | rfl | rfl | rfl | rfl | rfl | rfl | rfl
          · exact ⟨4, rfl, by omega⟩
          · exact ⟨3, rfl, by omega⟩
          · exact ⟨5, rfl, by omega⟩
          · exact ⟨2, rfl, by omega⟩
          · exact ⟨6, rfl, by omega⟩
          · exact ⟨1, rfl, by omega⟩
          · exact ⟨4, rfl, by omega⟩
          · exact ⟨0, rfl, by omega⟩
        · obtain ⟨k, rfl, a⟩ := hp
          rw [hx.intI]
          exact ⟨k, rfl, a, (Sb.of s2).trans s3, hB3⟩
      · rw [decide_eq_false (show ¬ ((wd : Nat) : Int) < 7 by omega)]
        exact iteF ⟨5, rfl, by omega, Sb.refl, hB1⟩
    rintro σ' H2 ⟨m, rfl, hm6, s2, hB2⟩
    -- given
    refine pss_cut (fun σ' H' => ∃ (g : Addr) (xs : List V) (vc : List (List Int)), σ' = stL B wd (some (.int (m : Nat))) (some (.ref g)) none none ∧ Sb B H2 H' ∧ BagAt B L ns H' ∧ g ≠ B ∧ H' g = some (.lst xs) ∧ AtAll B H' xs (vc.map dV) ∧ GoodL wd vc ∧ vc.length ≤ 6)
      (ps_setLc (i := 3) (own := [("_law_k", 6)]) (g := gName 6) (tt := tYes) rfl scLs.nd rfl rfl (sw_true rfl rfl rfl (by decide +kernel)) (pi_range1 (by rfl) T.range (pa_cons (pv 2) pa_nil)) (blkOk_by (N := nLs) (sc := defScope sLs) (by decide +kernel)) (fun _ _ _ _ _ => pg_name (i := 6) scLs.nd rfl (Or.inl rfl)) (fun _ _ _ _ _ => pts_nil)
        (fun _ _ _ _ _ => pe_d (j := 7) R.vct hr (by rfl) (pa_cons (pv 0) (pa_cons (pv 1) pa_nil)))) ?_ ?_
    · refine ⟨.int (m : Nat), rfl, (m : Nat), rfl, by omega, by omega, fun D hD => ?_⟩
      rw [Int.toNat_natCast]
      refine lcB (B := B) (L := L) (ns := ns) (n := m) (VecY B D fun _ v => VecOk wd v) VecY.mono hB2 hD (by omega) (fun i H' hi _ => hi) (fun H' _ => Nat.le_refl _) (fun i v H' H3 hi s' hB' ac y => ?_) (fun H' acc s' hB' eD el hY => ?_)
      · obtain ⟨rfl, rfl⟩ := y
        obtain ⟨acc, eac⟩ := ac
        refine ⟨Same.refl _, fun A hA' => ⟨rfl, .ref B, rfl, .int (wd : Nat), rfl, B, L, ns, wd, rfl, hB', h0, h7, fun v H4 t ok s4 hB4 ht nt et => hA' _ _ s4 hB4 ⟨t, v, rfl, nt, fun z => ?_, et, ok⟩⟩⟩
        rw [z] at ht
        rw [eac] at ht
        cases ht
      · obtain ⟨vd, hAd, ld, hd⟩ := vecs_mk (B := B) (H := H') (R := fun _ v => VecOk wd v) el fun j y hy => (hY j y hy).at
        refine ⟨D, acc, vd, rfl, s', hB', (hB2.ne hD).symm, eD, hAd, fun v hv => ?_, by omega⟩
        obtain ⟨j, hj, e⟩ := List.mem_iff_getElem.mp hv
        exact hd j v (by rw [List.getElem?_eq_getElem hj, e])
    rintro σ' H3 ⟨g, xs, vc, rfl, s3, hB3, ng, eg, hA, hGL, hl6⟩
    -- clipped
    refine pss_cut (fun σ' H' => ∃ (g : Addr) (xs : List V) (vc : List (List Int)), σ' = stL B wd (some (.int (m : Nat))) (some (.ref g)) none none ∧ Sb B H3 H' ∧ BagAt B L ns H' ∧ g ≠ B ∧ H' g = some (.lst xs) ∧ AtAll B H' xs (vc.map dV) ∧ GoodL wd vc ∧ vc.length ≤ 6)
      (ps_if (pt_cmpR op_eq (pv 1) pe_int (nomark _)) (pss_one (ps_setLc (i := 3) (own := [("_law_one", 7)]) (g := gName 7) (tt := tYes) rfl scLs.nd rfl rfl (sw_true rfl rfl rfl (by decide +kernel)) (pi_list (pv 3)) (blkOk_by (N := nLs) (sc := defScope sLs) (by decide +kernel)) (fun _ _ _ _ _ => pg_name (i := 7) scLs.nd rfl (Or.inl rfl)) (fun _ _ _ _ _ => pts_nil)
          (fun _ _ _ _ _ => pe_tupOK (K := K) rfl T (pe_lc (own := [("_law_x", 8)]) (g := gName 8) (tt := tYes) rfl scLs.nd (pi_tupK (K := K) rfl (pv 7)) (blkOk_by (N := nLs) (sc := relS scLs1 (defScope sLs)) (by decide +kernel)) (fun _ _ _ _ _ => pg_name (i := 8) scLs.nd rfl (Or.inl rfl)) (fun _ _ _ _ _ => pts_nil)
            (fun _ _ _ _ _ => pe_max2 T (pe_un un_neg pe_int) (pe_min2 T pe_int (pv 8))))))) pss_nil) ?_ ?_
    · refine ⟨.int (wd : Nat), rfl, rfl, _, rfl, ?_⟩
      by_cases c7 : wd = 7
      · rw [decide_eq_true (show V.int (wd : Nat) = V.int 7 by rw [c7]; rfl)]
        have lx : xs.length = vc.length := by rw [hA.len, List.length_map]
        refine iteT ⟨.ref g, rfl, g, rfl, ⟨xs, SqL.of eg⟩, fun D hD => ?_⟩
        refine lcY (n := xs.length) (VecY B D fun _ v => VecOk wd v) (fun i y H' H'' s h => h.mono _ _ _ _ fun b o _ n e => s b o n e) hD (by omega) (fun i H' hi s => ⟨xs, xs[i], SqL.of (s _ _ eg), List.getElem?_eq_getElem hi⟩) (fun H' s => ⟨xs, SqL.of (s _ _ eg), Nat.le_refl _⟩)
          (fun i v H' H5 hi s ac y => ?_) (fun H5 acc s5 eD el hY => ?_)
        · obtain ⟨rfl, y⟩ := y
          have hx := y _ (SqL.of (s _ _ eg))
          obtain ⟨vv, c, e1, rfl, nc, ec⟩ := vec_get hA hx
          have ok := good_get hGL e1
          have ec5 := s _ _ ec
          obtain ⟨acc, eac⟩ := ac
          refine ⟨Same.refl _, fun A hA' => ⟨rfl, .ref c, rfl, c, rfl, ⟨_, SqT.of ec5⟩, fun D3 hD3 => lcm_tup (xs := vv.map V.int) (ys := (vv.map (clip 3)).map V.int) (SqT.of ec5) (fun H' s => SqT.of (s _ _ ec5)) hD3 (by simp) (by simp [ok.1]; omega) (fun i y H2 hy s A hA => ?_) (fun H6 s6 eD6 => ?_)⟩⟩
          · rw [List.getElem?_map] at hy
            obtain ⟨x, h1, rfl⟩ := Option.map_eq_some_iff.mp hy
            refine ⟨rfl, 3, rfl, .int x, rfl, 3, x, rfl, -3, _, rfl, hA _ _ ?_ (Same.refl _)⟩
            rw [List.getElem?_map, List.getElem?_map, h1]
            rfl
          · refine ⟨D3, _, rfl, .inl ⟨SqL.of eD6, fun t ht => hA' _ _ (s6.trans (same_upd ht)) ⟨t, vv.map (clip 3), rfl, ((hB3.same (s.trans s6)).ne ht).symm, fun z => ?_, upd_same, clip_ok (by decide) (by decide) ok⟩⟩⟩
            rw [z, s6 _ _ eac] at ht
            cases ht
        · obtain ⟨vd, hA5, ld, hd⟩ := vecs_mk (B := B) (H := H5) (R := fun _ v => VecOk wd v) el fun j y hy => (hY j y hy).at
          refine ⟨D, acc, vd, rfl, Sb.of s5, hB3.same s5, (hB3.ne hD).symm, eD, hA5, fun v hv => ?_, by omega⟩
          obtain ⟨j, hj, e⟩ := List.mem_iff_getElem.mp hv
          exact hd j v (by rw [List.getElem?_eq_getElem hj, e])
      · rw [decide_eq_false (fun z => c7 (by have := V.int.inj z; omega))]
        exact iteF ⟨g, xs, vc, rfl, Sb.refl, hB3, ng, eg, hA, hGL, hl6⟩
    clear hA hGL eg ng hl6
    rintro σ' H4 ⟨g, xs, vc, rfl, s4, hB4, ng, eg, hA, hGL, hl6⟩
    -- hidden
    refine pss_cut (fun σ' H' => ∃ (g : Addr) (xs : List V) (vc : List (List Int)), σ' = stL B wd (some (.int (m : Nat))) (some (.ref g)) none none ∧ Sb B H4 H' ∧ BagAt B L ns H' ∧ g ≠ B ∧ H' g = some (.lst xs) ∧ AtAll B H' xs (vc.map dV) ∧ GoodL wd vc ∧ vc.length ≤ 7)
      (ps_set (i := 3) scLs.nd rfl (.inl rfl) (pe_d R.hid hr (by rfl) (pa_cons (pv 0) (pa_cons (pv 3) (pa_cons (pv 1) pa_nil)))))
      ⟨.ref B, rfl, .ref g, rfl, .int (wd : Nat), rfl, B, L, ns, g, xs, vc, wd, rfl, hB4, ng, eg, hA, hGL, hl6, h0, h7, fun t ys vd H' s' hB' nt et hA' hg' hl' => ⟨t, ys, vd, rfl, s', hB', nt, et, hA', hg', hl'⟩⟩ ?_
    clear hA hGL eg ng hl6
    rintro σ' H5 ⟨g, xs, vc, rfl, s5, hB5, ng, eg, hA, hGL, hl7⟩
    have s05 := (((s1.trans s2).trans s3).trans s4).trans s5
    have hT5 := tabs_sb hT hB s05
    have okW : WOk wd vc := ⟨h0, h7, by omega, fun v hv => vecOk_w (hGL v hv)⟩
    have hSh : ShwN 2 (.list (vc.map dV)) := shw_list h7 (by omega) hGL
    have atG : ∀ H', Same H5 H' → At B H' (.ref g) (.list (vc.map dV)) := fun H' s => (At.lst ng eg hA).sb (Sb.of s)
    refine pss_step (ps_set (i := 4) scLs.nd rfl (.inl rfl) (pe_repr hG (un64 hr) T (pv 3))) ⟨.ref g, rfl, B, .ref g, _, rfl, atG _ (Same.refl _), hSh, ?_⟩
    refine pss_step (ps_set (i := 5) scLs.nd rfl (.inl rfl) (pe_callN GW (hr.mono (by decide)) (by rfl) mW kW bW passL (pa_cons (pv 3) pa_nil) (pk_cons (pv 1) pk_nil))) ⟨.ref g, rfl, .int (wd : Nat), rfl, rfl, rfl, weigh_call (atG _ (Same.refl _)) rfl okW fun H6 t s6 ht hTold => ?_⟩
    have hB6 := hB5.same s6
    have eg6 := s6 _ _ eg
    have hA6 := hA.sb (Sb.of s6)
    -- told_so
    refine pss_cut (fun σ' H' => σ' = stL B wd (some (.int (m : Nat))) (some (.ref g)) (some (.str (PyData.list (vc.map dV)).shown)) (some (.ref t)) ∧ Same H6 H')
      (ps_if (PW.pt (pw_or (pt_not (pt_val (pe_d R.rf.ts hr (by rfl) (pa_cons (pv 5) (pa_cons (pv 3) (pa_cons (pv 1) pa_nil)))))) (pw_or1 (pt_cmpR op_ne (pe_repr hG (un64 hr) T (pv 3)) (pv 4) (nomark _))))) (pss_one (ps_ret pe_bl)) pss_nil) ?_ ?_
    · refine ⟨.ref t, rfl, .ref g, rfl, .int (wd : Nat), rfl, ?_⟩
      dsimp only [tNil, List.append_nil]
      refine told_call (K := K) hTold eg6 hA6 okW fun H7 s7 => ⟨_, rfl, iteF ⟨.ref g, rfl, B, .ref g, _, rfl, atG _ (s6.trans s7), hSh, _, rfl, rfl, _, rfl, ?_⟩⟩
      rw [decide_eq_true rfl]
      exact iteF ⟨rfl, s7⟩
    rintro σ' H7 ⟨rfl, s7⟩
    -- like
    have s67 := s6.trans s7
    refine pss_cut (fun σ' H' => σ' = stL B wd (some (.int (m : Nat))) (some (.ref g)) (some (.str (PyData.list (vc.map dV)).shown)) (some (.ref t)) ∧ Same H7 H')
      (ps_if (PW.pt (pw_or (pt_not (pt_val (pe_d R.rf.like hr (by rfl) (pa_cons (pe_callN GW (hr.mono (by decide)) (by rfl) mW kW bW passL (pa_cons (pe_lstO T (pv 3)) pa_nil) (pk_cons (pv 1) pk_nil)) (pa_cons (pv 5) pa_nil))))) (pw_or1 (pt_cmpR op_ne (pe_repr hG (un64 hr) T (pv 3)) (pv 4) (nomark _))))) (pss_one (ps_ret pe_bl)) pss_nil) ?_ ?_
    · refine ⟨.ref g, rfl, g, xs, rfl, .inl (SqL.of (s67 _ _ eg)), fun p hp => ?_⟩
      have s8 := same_upd (o := .lst xs) hp
      have hp8 : At B (upd H7 p (.lst xs)) (.ref p) (.list (vc.map dV)) := .lst ((hB5.same s67).ne hp).symm upd_same (hA.sb (Sb.of (s67.trans s8)))
      refine ⟨.int (wd : Nat), rfl, rfl, rfl, weigh_call hp8 rfl okW fun H9 t2 s9 ht2 hT2 => ?_⟩
      have s79 := s8.trans s9
      have hB9 := hB5.same (s67.trans s79)
      refine ⟨.ref t, rfl, B, .ref t2, .ref t, _, rfl, told_at hB9 hT2, told_at hB9 (hTold.same (s7.trans s79)), told_okd okW, fun H10 s10 => ⟨_, rfl, iteF ⟨.ref g, rfl, B, .ref g, _, rfl, atG _ ((s67.trans s79).trans s10), hSh, _, rfl, rfl, _, rfl, ?_⟩⟩⟩
      rw [decide_eq_true rfl]
      exact iteF ⟨rfl, s79.trans s10⟩
    rintro σ' H8 ⟨rfl, s8⟩
    have s68 := s67.trans s8
    -- told_so of a tuple
    refine pss_cut (fun σ' H' => σ' = stL B wd (some (.int (m : Nat))) (some (.ref g)) (some (.str (PyData.list (vc.map dV)).shown)) (some (.ref t)) ∧ Same H8 H')
      (ps_if (pt_not (pt_val (pe_d R.rf.ts hr (by rfl) (pa_cons (pe_callN GW (hr.mono (by decide)) (by rfl) mW kW bW passL (pa_cons (pe_tupO T (pv 3)) pa_nil) (pk_cons (pv 1) pk_nil)) (pa_cons (pv 3) (pa_cons (pv 1) pa_nil)))))) (pss_one (ps_ret pe_bl)) pss_nil) ?_ ?_
    · refine ⟨.ref g, rfl, g, xs, rfl, .inl ⟨SqL.of (s68 _ _ eg), fun p hp => ?_⟩⟩
      have s9 := same_upd (o := .tup xs) hp
      have hp9 : At B (upd H8 p (.tup xs)) (.ref p) (.tuple (vc.map dV)) := .tup ((hB5.same s68).ne hp).symm upd_same (hA.sb (Sb.of (s68.trans s9)))
      refine ⟨.int (wd : Nat), rfl, rfl, rfl, weigh_call hp9 rfl okW fun H9 t2 s10 ht2 hT2 => ⟨.ref g, rfl, .int (wd : Nat), rfl, ?_⟩⟩
      have s810 := s9.trans s10
      dsimp only [tNil, List.append_nil]
      refine told_call (K := K) hT2 ((s68.trans s810) _ _ eg) (hA.sb (Sb.of (s68.trans s810))) okW fun H11 s11 => ⟨_, rfl, ?_⟩
      exact iteF ⟨rfl, s810.trans s11⟩
    rintro σ' H9 ⟨rfl, s9⟩
    have s69 := s68.trans s9
    have hB9 := hB5.same s69
    have hT9 : LamX.Tabs (TT Pt) H9 := hT5.ext s69
    -- alike_so
    refine pss_cut (fun σ' H' => σ' = stL B wd (some (.int (m : Nat))) (some (.ref g)) (some (.str (PyData.list (vc.map dV)).shown)) (some (.ref t)) ∧ Sb B H9 H' ∧ BagAt B L ns H')
      (ps_if (PW.pt (pw_and (pt_cmpR op_lt (pv 1) pe_int (nomark _)) (pw_and1 (pt_not (pt_val (pe_d R.al hr (by rfl) (pa_cons (pv 0) (pa_cons (pv 5) (pa_cons (pv 3) (pa_cons (pv 1) pa_nil)))))))))) (pss_one (ps_ret pe_bl)) pss_nil) ?_ ?_
    · refine ⟨.int (wd : Nat), rfl, (wd : Nat), 7, rfl, rfl, _, rfl, ?_⟩
      by_cases c7 : wd < 7
      · rw [decide_eq_true (show ((wd : Nat) : Int) < 7 by omega)]
        have told9 := hTold.same ((s7.trans s8).trans s9)
        obtain ⟨u, e1, e2⟩ := told9
        obtain ⟨i, c, z, k, eB, _⟩ := id hB9
        have nt : t ≠ B := fun z => by rw [z, eB] at e1; cases e1
        have nu : u ≠ B := fun z => by rw [z, eB] at e2; cases e2
        refine iteT ⟨.ref B, rfl, .ref t, rfl, .ref g, rfl, .int (wd : Nat), rfl, B, L, ns, t, g, xs, vc, wd, rfl, hB9, nt, ng, ⟨u, e1, e2⟩, fun u' h' => ?_, s69 _ _ eg, hA.sb (Sb.of s69), hGL, h0, h7, hl7, fun H10 s10 hB10 => ⟨_, rfl, iteF ⟨rfl, s10, hB10⟩⟩⟩
        rw [e1] at h'
        cases h'
        exact nu
      · rw [decide_eq_false (show ¬ ((wd : Nat) : Int) < 7 by omega)]
        exact iteF ⟨rfl, Sb.refl, hB9⟩
    rintro σ' H10 ⟨rfl, s10, hB10⟩
    have s510 := (Sb.of s69).trans s10
    have eg10 := s510 _ _ ng eg
    have hA10 := hA.sb s510
    have hT10 := tabs_sb hT9 hB9 s10
    refine pss_fin (ps_ret (pe_and (pe_dG R.rfs hG hr (by rfl) (pa_cons (pv 0) (pa_cons (pe_slice sl_list (pv 3) po_none (po_some pe_int)) (pa_cons (pv 1) pa_nil)))) (pe_one (pe_or (pe_cmpR op_eq (pv 1) pe_int (nomark _)) (pe_one (pe_dG R.rfs hG hr (by rfl) (pa_cons (pv 0) (pa_cons (pe_slice sl_list (pv 3) po_none (po_some pe_int)) (pa_cons (pv 1) pa_nil))))))))) ?_
    refine ⟨.ref B, rfl, .ref g, rfl, 6, rfl, g, xs, rfl, SqL.of eg10, fun p hp => ?_⟩
    rw [show cutV xs none (some 6) = xs.take 6 from cut_take xs 6]
    have s11 := same_upd (o := .lst (xs.take 6)) hp
    have hAp : AtAll B (upd H10 p (.lst (xs.take 6))) (xs.take 6) ((vc.take 6).map dV) := by
      rw [List.map_take]
      exact (hA10.take 6).sb (Sb.of s11)
    refine ⟨.int (wd : Nat), rfl, B, L, ns, p, xs.take 6, vc.take 6, wd, rfl, hB10.same s11, (hB10.ne hp).symm, upd_same, hAp, fun v hv => hGL v (List.mem_of_mem_take hv), by rw [List.length_take]; omega, h0, h7, hT10.ext s11, fun H11 x11 hB11 hT11 => ⟨_, rfl, iteT ?_⟩⟩
    refine ⟨.int (wd : Nat), rfl, rfl, _, rfl, ?_⟩
    by_cases c7 : wd = 7
    · rw [decide_eq_true (show V.int (wd : Nat) = V.int 7 by rw [c7]; rfl)]
      exact iteT (q _ hB11 hT11)
    · rw [decide_eq_false (fun z => c7 (by have := V.int.inj z; omega))]
      have x1011 : ExtB B H10 H11 := (ExtB.of (Sb.of s11)).trans x11
      have eg11 := x1011 _ _ ng eg10 (fun _ z => by cases z)
      refine iteF ⟨.ref B, rfl, .ref g, rfl, 4, rfl, g, xs, rfl, SqL.of eg11, fun p2 hp2 => ?_⟩
      rw [show cutV xs none (some 4) = xs.take 4 from cut_take xs 4]
      have s12 := same_upd (o := .lst (xs.take 4)) hp2
      have hAp2 : AtAll B (upd H11 p2 (.lst (xs.take 4))) (xs.take 4) ((vc.take 4).map dV) := by
        rw [List.map_take]
        exact ((hA10.ext x1011).take 4).sb (Sb.of s12)
      exact ⟨.int (wd : Nat), rfl, B, L, ns, p2, xs.take 4, vc.take 4, wd, rfl, hB11.same s12, (hB11.ne hp2).symm, upd_same, hAp2, fun v hv => hGL v (List.mem_of_mem_take hv), by rw [List.length_take]; omega, h0, h7, hT11.ext s12, fun H13 x13 hB13 hT13 => q _ hB13 hT13⟩
end
end K69

/-! ## K18 -/
namespace K69
open PySem PySem.Spec PyProof.Rows L2
theorem dot_neg : ∀ {v ws : List Int}, dotM (v.map fun x => -x) ws = -dotM v ws
  | [], _ => by simp [dotM]
  | _ :: _, [] => by simp [dotM]
  | x :: v, y :: ws => by
    have := dot_neg (v := v) (ws := ws)
    unfold dotM at this ⊢
    simp only [List.map_cons, List.zipWith_cons_cons, List.sum_cons]
    rw [this, Int.neg_mul, Int.neg_add]
section
variable {P : Program} {w : World} {K : PySem.W.Frag} {mg : Str → Option Value} {base : Heap}
abbrev sLw : Stmt := topS 44
abbrev nLw : List Str := ["_law_script", "_law_bag", "_law_one", "_law_spot", "_law_wide", "_law_told", "_law_k"]
theorem scLw : FnScope nLw ["_law_script"] (defScope sLw) := ⟨rfl, rfl, rfl, by decide +kernel, rfl, by decide +kernel, by decide +kernel⟩
def spLw (K : PySem.W.Frag) (Pt : Addr) : Sp := fun vs H Q _ => ∃ (a : Addr) (ns : List Int), vs = [.ref a] ∧ SqL K H a (ns.map V.int) ∧ ns.length ≤ 63 ∧ LamX.Tabs (TT Pt) H ∧ ∀ H', Q (.bl true) H'
structure LwD (P : Program) (w : World) (K : PySem.W.Frag) (mg : Str → Option Value) (base : Heap) (c : ClsA) (Pt : Addr) : Prop where
  ls : LsD P w K mg base c Pt
  dr : Df P w K mg base 1 "_law_draws" ["_law_script"] (spDr (K := K))
  less : Df P w K mg base 1 "_law_less" ["_law_one"] spLess
  lso : DfG P w K mg base 8 "_law_list_so" ["_law_bag"] (spLs Pt)
theorem ok_lw {c : ClsA} {Pt : Addr} {f : Addr} {fd : FuncData} (F : Fun K "law" "law" sLw f fd) (T : Tx K mg) (R : LwD P w K mg base c Pt) : FnG P w K mg base 9 f fd ["_law_script"] (spLw K Pt) := by
  obtain ⟨oc, od, kV, doc, pm, an, cdv, ct, osl, rfl, lk, hcd⟩ := F.ex
  refine fnG_of lk hcd scLw (fun vs H Q E h => ?_) (fun A outer s H vs Q hG hr h => ?_)
  · obtain ⟨a, ns, rfl, _⟩ := h
    rfl
  · obtain ⟨a, ns, rfl, hS, h63, hT, q⟩ := h
    obtain ⟨fw, fdw, GW, mW, kW, bW, _⟩ := R.ls.rf.wg.ex
    refine pss_step (ps_set (i := 1) scLw.nd rfl (.inl rfl) (pe_d R.dr hr (by rfl) (pa_cons (pv 0) pa_nil))) ⟨.ref a, rfl, a, ns, rfl, hS, fun H' s => s.seq hS, h63, fun B L H1 s1 hB0 hB1 => ?_⟩
    have hT1 : LamX.Tabs (TT Pt) H1 := hT.ext s1
    -- one, spot
    refine pss_cut (fun σ' H' => ∃ (o : Addr) (v : List Int) (k : Int), σ' = [some (.ref a), some (.ref B), some (.ref o), some (.int k), none, none, none] ∧ VecOk 2 v ∧ 0 ≤ k ∧ k ≤ 11 ∧ Sb B H1 H' ∧ BagAt B L ns H' ∧ o ≠ B ∧ H' o = some (.tup (v.map V.int)))
      (ps_asg (pe_tup (pa_cons (pe_d R.ls.vct hr (by rfl) (pa_cons (pv 1) (pa_cons pe_int pa_nil))) (pa_cons (pe_d R.ls.rf.any hr (by rfl) (pa_cons (pv 1) (pa_cons (pe_lst (pa_cons pe_int (pa_cons pe_int (pa_cons (pe_d R.ls.rf.pull hr (by rfl) (pa_cons (pv 1) (pa_cons pe_int pa_nil))) pa_nil)))) pa_nil))) pa_nil)))
        (pg_tup rfl (pgs_cons (pg_name (i := 2) scLw.nd rfl (.inr rfl)) (pgs_cons (pg_name (i := 3) scLw.nd rfl (.inl rfl)) pgs_nil)))) ?_ ?_
    · refine ⟨.ref B, rfl, B, L, ns, 2, rfl, hB1, by decide, by decide, fun v H2 o ok s2 hB2 ho no eo => ?_⟩
      refine ⟨.ref B, rfl, .ref B, rfl, B, L, ns, 12, rfl, hB2, by decide, by decide, fun r H3 r0 r1 s3 hB3 => ?_⟩
      refine ⟨(by show 3 ≤ sizeLine; decide), fun l hl => ?_⟩
      have s4 := same_upd (o := .lst [.int 11, .int 11, .int r]) hl
      have hA4 : AtAll B (upd H3 l (.lst [.int 11, .int 11, .int r])) [V.int 11, .int 11, .int r] [PyData.int 11, .int 11, .int r] := .cons (.int _) (.cons (.int _) (.cons (.int _) .nil))
      refine any_call (E := E0) (P := fun d => ∃ k : Int, d = .int k ∧ 0 ≤ k ∧ k ≤ 11) (hB3.same s4) (hB3.ne hl).symm upd_same hA4 (by simp) (by simp) (fun d hd => ?_) fun x d H5 s5 hB5 hx hp => ?_
      · simp only [List.mem_cons, List.not_mem_nil, or_false] at hd
        rcases hd with rfl | rfl | rfl
        · exact ⟨11, rfl, by omega, by omega⟩
        · exact ⟨11, rfl, by omega, by omega⟩
        · exact ⟨r, rfl, by omega, by omega⟩
      · obtain ⟨k, rfl, k0, k1⟩ := hp
        rw [hx.intI]
        have s35 := (s3.trans (Sb.of s4)).trans s5
        refine ⟨(by show 2 ≤ sizeLine; decide), fun tp htp => ?_⟩
        have s6 := same_upd (o := .tup [.ref o, .int k]) htp
        exact ⟨tp, _, rfl, SqT.of upd_same, rfl, _, _, rfl, _, _, rfl, rfl, o, v, k, rfl, ok, k0, k1, (s2.trans s35).trans (Sb.of s6), hB5.same s6, no, s6 _ _ (s35 _ _ no eo)⟩
    rintro σ' H2 ⟨o, v, k, rfl, ok, k0, k1, s2, hB2, no, eo⟩
    have hT2 := tabs_sb hT1 hB1 s2
    -- wide
    refine pss_cut (fun σ' H' => ∃ D : Addr, σ' = [some (.ref a), some (.ref B), some (.ref o), some (.int k), some (.ref D), none, none] ∧ Same H2 H' ∧ H2 D = none ∧ H' D = some (.lst (List.replicate 11 (.ref o))))
      (ps_setLc (i := 4) (own := [("_law_k", 6)]) (g := gName 6) (tt := tYes) rfl scLw.nd rfl rfl (sw_true rfl rfl rfl (by decide +kernel)) (pi_range1 (by rfl) T.range (pa_cons pe_int pa_nil)) (blkOk_by (N := nLw) (sc := defScope sLw) (by decide +kernel)) (fun _ _ _ _ _ => pg_name (i := 6) scLw.nd rfl (Or.inl rfl)) (fun _ _ _ _ _ => pts_nil)
        (fun _ _ _ _ _ => pv 2)) ?_ ?_
    · refine ⟨11, rfl, by decide, by decide, fun D hD => ?_⟩
      refine lcV (n := 11) (List.replicate 11 (.ref o)) hD (by simp) (by decide) (fun i H' hi _ => hi) (fun H' _ => Nat.le_refl _) (fun i v H' H3 hi s3 y => ?_) (fun H3 s3 eD => ⟨D, rfl, s3, hD, eD⟩)
      obtain ⟨rfl, rfl⟩ := y
      exact ⟨Same.refl _, fun A hA' => ⟨rfl, .ref o, rfl, hA' _ _ (Same.refl _) (rep_get hi)⟩⟩
    rintro σ' H3 ⟨D, rfl, s3, hD, eD⟩
    have nD : D ≠ B := (hB2.ne hD).symm
    have hB3 := hB2.same s3
    have eo3 := s3 _ _ eo
    -- wide.insert(spot, less(one))
    refine pss_cut (fun σ' H' => ∃ (n : Addr) (ys : List V) (vc : List (List Int)), σ' = [some (.ref a), some (.ref B), some (.ref o), some (.int k), some (.ref D), none, none] ∧ Same H2 H' ∧ H' D = some (.lst ys) ∧ AtAll B H' ys (vc.map dV) ∧ vc.length = 12 ∧ (∀ u ∈ vc, VecOk 2 u) ∧ v ∈ vc ∧ (v.map fun x => -x) ∈ vc)
      (ps_expr (pe_bm PySem.F.plainAttrs_list PySem.F.slot_list_insert PySem.F.type_list_insert mt_insert (pv 4) (pa_cons (pv 3) (pa_cons (pe_d R.less hr (by rfl) (pa_cons (pv 2) pa_nil)) pa_nil)))) ?_ ?_
    · refine ⟨.ref D, rfl, .inl ⟨rfl, _, SqL.of eD⟩, .int k, rfl, .ref o, rfl, o, v, rfl, eo3, by rw [ok.1]; decide, fun H4 n s4 hn en => ?_⟩
      have eD4 := s4 _ _ eD
      refine ⟨D, _, k, .ref n, rfl, rfl, eD4, by rw [List.length_replicate]; exact Nat.lt_of_lt_of_le (show 11 < 1000 by decide) (by decide), k0, by omega, ?_⟩
      have nn : n ≠ B := (hB3.ne hn).symm
      have hk : k.toNat ≤ 11 := by omega
      have hv : AtAll B H4 (List.replicate 11 (V.ref o)) (List.replicate 11 (dV v)) := at_rep (vecAt no (s4 _ _ eo3)) 11
      have hAll : AtAll B H4 ((List.replicate 11 (V.ref o)).take k.toNat ++ [.ref n] ++ (List.replicate 11 (V.ref o)).drop k.toNat) (((List.replicate 11 v).take k.toNat ++ [v.map fun x => -x] ++ (List.replicate 11 v).drop k.toNat).map dV) := by
        rw [List.map_append, List.map_append, List.map_take, List.map_drop, List.map_replicate]
        exact ((hv.take _).append (.cons (vecAt nn en) .nil)).append (hv.drop _)
      have mem : ∀ u, u ∈ (List.replicate 11 v).take k.toNat ++ [v.map fun x => -x] ++ (List.replicate 11 v).drop k.toNat → u = v ∨ u = v.map fun x => -x := fun u hu => by
        rcases List.mem_append.mp hu with h | h
        · rcases List.mem_append.mp h with h | h
          · exact .inl (List.eq_of_mem_replicate (List.mem_of_mem_take h))
          · exact .inr (List.mem_singleton.mp h)
        · exact .inl (List.eq_of_mem_replicate (List.mem_of_mem_drop h))
      refine ⟨n, _, _, rfl, fun b o' e => ?_, upd_same, vecs_upd hAll eD4, by simp; omega, fun u hu => ?_, ?_, by simp⟩
      · rw [upd_ne (ne_of_none e hD)]
        exact s4 _ _ (s3 _ _ e)
      · rcases mem u hu with rfl | rfl
        · exact ok
        · exact neg_ok ok
      · by_cases hk0 : k.toNat = 0
        · rw [hk0]; simp
        · refine List.mem_append.mpr (.inl (List.mem_append.mpr (.inl ?_)))
          rw [List.take_replicate]
          exact List.mem_replicate.mpr ⟨by omega, rfl⟩
    rintro σ' H4 ⟨n, ys, vc, rfl, s4, eD4, hA4, l12, hGv, m1, m2⟩
    have hB4 := hB2.same s4
    have hT4 : LamX.Tabs (TT Pt) H4 := hT2.ext s4
    have okW : WOk 2 vc := ⟨by decide, by decide, by omega, fun u hu => vecOk_w (hGv u hu)⟩
    refine pss_step (ps_set (i := 5) scLw.nd rfl (.inl rfl) (pe_callN GW (hr.mono (by decide)) (by rfl) mW kW bW passL (pa_cons (pv 4) pa_nil) (pk_cons pe_int pk_nil))) ⟨.ref D, rfl, rfl, rfl, weigh_call (wd := 2) (.lst nD eD4 hA4) rfl okW fun H5 t s5 ht hTold => ?_⟩
    have hfl : (weighM vc 2).1 = false := by
      cases hf : (weighM vc 2).1 with
      | false => rfl
      | true =>
        obtain ⟨ws, _, _, c⟩ := (weigh_iff (fun u hu => (hGv u hu).1)).mp hf
        have a1 := c _ m1
        have a2 := c _ m2
        rw [dot_neg] at a2
        omega
    have ew : wordM (weighM vc 2) = "counterweight" := by unfold wordM; rw [hfl]; rfl
    refine ⟨_, pss_cons (ps_if (PW.pt (pw_or (pt_not (pt_val (pe_d R.ls.rf.ts hr (by rfl) (pa_cons (pv 5) (pa_cons (pv 4) (pa_cons pe_int pa_nil)))))) (pw_or1 (pt_cmpR op_ne (pe_ix ix_tup (pv 5) pe_int (fun _ _ => rfl)) pe_str (nomark _))))) (pss_one (ps_ret pe_bl)) pss_nil)
      (pss_one (ps_ret (pe_and (pe_dG R.lso hG hr (by rfl) (pa_cons (pv 1) pa_nil)) (pe_one (pe_dG R.lso hG hr (by rfl) (pa_cons (pv 1) pa_nil)))))), ?_⟩
    refine ⟨.ref t, rfl, .ref D, rfl, ?_⟩
    dsimp only [tCons, tC, tNil, List.append_nil]
    refine told_call (K := K) (wd := 2) hTold (s5 _ _ eD4) (hA4.sb (Sb.of s5)) okW fun H6 s6 => ⟨_, rfl, iteF ?_⟩
    obtain ⟨u, e1, e2⟩ := hTold.same s6
    refine ⟨.ref t, rfl, t, _, 0, _, rfl, rfl, SqT.of e1, atI_nat (j := 0) rfl, rfl, _, rfl, ?_⟩
    rw [decide_eq_true (by rw [ew])]
    have hB6 := hB4.same (s5.trans s6)
    have hT6 : LamX.Tabs (TT Pt) H6 := hT4.ext (s5.trans s6)
    exact iteF ⟨.ref B, rfl, B, L, ns, rfl, hB6, hT6, fun H7 hB7 hT7 => ⟨_, rfl, iteT ⟨.ref B, rfl, B, L, ns, rfl, hB7, hT7, fun H8 _ _ => q H8⟩⟩⟩
end
end K69

/-! ## K19 -/
namespace K69
open PySem PySem.Spec PyProof.Rows L2 LamX
/-- the call of a law that is told the guards; one table -/
theorem law_callG {P : Program} {w : World} {K : PySem.W.Frag} {mg mb : Str → Option Value} {k : Nat} {fa a c T : Addr} {fd : FuncData} {x : Str} {sp : Sp} {s₁ : Shared} {vs : List Value} {ns : List Int}
    (KX : K.In s₁.heap) (hns : s₁.heap.Ns mainGlobals mg) (hb : s₁.heap.Ns builtinsNs mb) (hbb : ∀ x : Str, x ≠ "__name__" → mb x = bootBuiltins x) (hlim : s₁.heap.NoLimit) (hg : s₁.gens = #[])
    (hT : s₁.heap.get? T = some { cls := .none, data := .fields #[] }) (nT : K.lookup T = none) (C : PySem.W.CodeHd s₁.heap c T)
    (hbm : ∃ (bm : Addr) (ob : Obj), mg "__builtins__" = some (.ref bm) ∧ bm ≠ builtinsNs ∧ s₁.heap.get? bm = some ob ∧ ob.cls = .type "module" ∧ ob.dict = some builtinsNs ∧ ob.data = .plain)
    (ha : s₁.heap.get? a = some { cls := .type "list", data := .seq vs.toArray }) (hi : IntsAre vs ns) (hl : ns.length ≤ sizeLine) (hr : Room k callerA)
    (F : ∀ base : Heap, K.In base → base.Ns mainGlobals mg → TabB base mg c T → FnG P w K mg base k fa fd [x] sp) (hbind : ∀ (s : Shared) (u : Value), BindsTo s fd ⟨[u], []⟩ [(x, u)])
    (hsp : ∀ H : Hp, H T = some (.tbl #[]) → SqL K H a (ns.map V.int) → sp [.ref a] H (fun v _ => v = .bl true) E0) :
    codeAny (model P w) callerA (.call (.ref fa) ⟨[.ref a], []⟩) (fun r s' => r = .ok (.ret (.bool true)) ∧ OldK s₁.heap s'.heap ∧ s'.os = s₁.os ∧ AllBare s'.gens) s₁ := by
  have rv := vals_ints hi
  have lenV := hi.length
  have aT : a ≠ T := fun z => by
    rw [z, hT] at ha
    cases ha
  have core : ∀ H : Hp, H T = some (.tbl #[]) → (∀ b, H b = none ∨ b = T ∨ ∃ o xs, H b = some (.frz o (.lst xs))) → SqL K H a (ns.map V.int) → HOk P w H s₁.heap → (∀ b, H b ≠ none → b = a ∨ b = T) → (H a ≠ none → K.lookup a = none) →
      codeAny (model P w) callerA (.call (.ref fa) ⟨[.ref a], []⟩) (fun r s' => r = .ok (.ret (.bool true)) ∧ OldK s₁.heap s'.heap ∧ s'.os = s₁.os ∧ AllBare s'.gens) s₁ := by
    intro H hH hO hS hok hA hK
    have base_of : ∀ {b : Addr} {o : Obj}, s₁.heap.get? b = some o → H b = none → (hidT s₁.heap H).get? b = some o := fun e n => hidT_get e n
    have noD : ∀ {b : Addr} {o : Obj}, s₁.heap.get? b = some o → (∀ vs n, o.data ≠ .seq vs n) → o.data ≠ .fields #[] → H b = none := fun {b o} e h1 h2 => by
      cases q : H b with
      | none => rfl
      | some u =>
        rcases hA b (by rw [q]; simp) with e' | e'
        · rw [e', ha] at e
          cases e
          exact (h1 _ _ rfl).elim
        · rw [e', hT] at e
          cases e
          exact (h2 rfl).elim
    have noA : ∀ {b : Addr} {o : Obj} {es : Array DictEntry} {ep : Nat}, s₁.heap.get? b = some o → o.data = .dict es ep → H b = none := fun {b o es ep} e d => by
      refine noD e (fun vs n z => ?_) fun z => ?_
      · rw [d] at z; cases z
      · rw [d] at z; cases z
    have nsK : ∀ {b : Addr} {m : Str → Option Value}, s₁.heap.Ns b m → (hidT s₁.heap H).Ns b m := fun {b m} ⟨o, es, ep, e, d, r⟩ => ⟨o, es, ep, base_of e (noA e d), d, r⟩
    have hKb : K.In (hidT s₁.heap H) := fun b o e => base_of (KX b o e) (by
      cases q : H b with
      | none => rfl
      | some u =>
        rcases hA b (by rw [q]; simp) with e' | e'
        · rw [e'] at e q
          rw [hK (by rw [q]; simp)] at e
          cases e
        · rw [e', nT] at e
          cases e)
    have hM : L2.Mod K mg (hidT s₁.heap H) := ⟨hKb, nsK hns, ⟨mb, nsK hb, hbb⟩, let ⟨mc, h1, h2⟩ := hlim; ⟨mc, nsK h1, h2⟩⟩
    have TB : TabB (hidT s₁.heap H) mg c T := by
      refine ⟨?_, ?_, fun z => ?_⟩
      · obtain ⟨o, us, file, tf, flags, tg, inF, text, tt, e1, r1, r2, r3, r4, r5, r6, r7, r8, hne⟩ := C
        refine ⟨o, us, file, tf, flags, tg, inF, text, tt, base_of e1 (noD e1 (fun vs n z => ?_) fun z => ?_), r1, r2, r3, r4, r5, r6, r7, r8, hne⟩
        · rw [r2] at z; cases z
        · rw [r2] at z
          cases z
          simp at r3
      · obtain ⟨bm, ob, b1, b2, b3, b4, b5, b6⟩ := hbm
        have nG : bm ≠ mainGlobals := fun q => by
          obtain ⟨o, es, ep, e, hd, _⟩ := hns
          rw [q, e] at b3
          cases b3
          rw [hd] at b6
          cases b6
        have nP : bm ≠ T := fun q => by
          rw [q, hT] at b3
          cases b3
          cases b6
        refine ⟨bm, ob, b1, b2, nG, nP, base_of b3 (noD b3 (fun vs n z => ?_) fun z => ?_), b4, b5, b6⟩
        · rw [b6] at z; cases z
        · rw [b6] at z; cases z
      · obtain ⟨o, es, ep, e, hd, _⟩ := hns
        rw [z, hT] at e
        cases e
        cases hd
    have e0 : Env0 P w K mg (hidT s₁.heap H) callerA [] s₁ H := ⟨rfl, hM, fun b o e => of_hidT e, Nat.le_of_eq (hidT_size _ _), trivial, fun b hb => absurd (show b ∈ ([] : List Addr) from hb) (by simp), hok, .of_eq hg⟩
    refine codeAny_mono ((F _ hKb (nsK hns) TB).run callerA [] s₁ H ⟨[.ref a], []⟩ [.ref a] [.ref a] _ hr rfl e0 (hbind s₁ (.ref a)) (.cons rfl .nil) (hsp H hH hS)) fun r s' h => ?_
    cases r with
    | error e => exact (show False from h).elim
    | ok fl =>
      cases fl with
      | next => exact False.elim h
      | brk => exact False.elim h
      | cont => exact False.elim h
      | ret u =>
        obtain ⟨v, H', os, bare, un, hok', r', q⟩ := h
        have q' : v = .bl true := q
        subst q'
        obtain rfl : u = Value.bool true := r'
        have key : ∀ b o, b ≠ T → s₁.heap.get? b = some o → s'.heap.get? b = some o := fun b o nb e => by
          cases q : H b with
          | none => exact un.keep b o e q (by intro z; exact absurd (show b ∈ ([] : List Addr) from z) (by simp)) (by simp)
          | some u =>
            rcases hO b with z | z | ⟨ob, xs, z⟩
            · rw [q] at z; cases z
            · exact absurd z nb
            · have z2 := un.frzs b ob _ z
              obtain ⟨e1, _⟩ := hok b _ z
              obtain ⟨e2, _⟩ := hok' b _ z2
              rw [e] at e1; cases e1
              exact e2
        obtain ⟨more, hm⟩ : ∃ more : Array Value, s'.heap.get? T = some { cls := .none, data := .fields more } := by
          obtain ⟨more, z⟩ := un.tbls T #[] hH
          exact ⟨_, hok' T _ z⟩
        refine ⟨rfl, ⟨fun b o e => ?_, fun b o e => ?_⟩, os, bare⟩
        · by_cases hb : b = T
          · subst hb
            rw [hT] at e
            cases e
            exact .inr (.inl ⟨(C.tab hT).isCodeTable, rfl, #[], more, rfl, by rw [Array.empty_append]; exact hm⟩)
          · exact .inl (key b o hb e)
        · by_cases hb : b = T
          · subst hb
            exact ⟨_, hm⟩
          · exact ⟨o, key b o hb e⟩
  cases hk : K.lookup a with
  | some o =>
    have e := KX a o hk
    rw [ha] at e
    cases e
    refine core (fun b => if b = T then some (.tbl #[]) else none) (if_pos rfl) (fun b => ?_) (.inr ⟨_, vs.toArray, _, hk, rfl, rfl, rfl, by rw [List.size_toArray, lenV]; exact hl, by simpa using rv⟩) (fun b u z => ?_) (fun b z => ?_) fun z => absurd (show (if a = T then some (HO.tbl #[]) else none) = none from if_neg aT) z
    · by_cases hb : b = T
      · exact .inr (.inl hb)
      · exact .inl (if_neg hb)
    · by_cases hb : b = T
      · have z' := (if_pos hb).symm.trans z
        cases z'
        rw [hb]
        exact hT
      · have z' := (if_neg hb).symm.trans z
        cases z'
    · by_cases hb : b = T
      · exact .inr hb
      · exact absurd (if_neg hb) z
  | none =>
    refine core (fun b => if b = a then some (.frz { cls := .type "list", data := .seq vs.toArray } (.lst (ns.map V.int))) else if b = T then some (.tbl #[]) else none) ((if_neg (fun z => aT z.symm)).trans (if_pos rfl)) (fun b => ?_)
      (.inl (.inr ⟨{ cls := .type "list", data := .seq vs.toArray }, if_pos rfl⟩)) (fun b u z => ?_) (fun b z => ?_) fun _ => hk
    · by_cases hb : b = a
      · exact .inr (.inr ⟨_, _, if_pos hb⟩)
      · by_cases hb2 : b = T
        · exact .inr (.inl hb2)
        · exact .inl ((if_neg hb).trans (if_neg hb2))
    · by_cases hb : b = a
      · have z' := (if_pos hb).symm.trans z
        cases z'
        rw [hb]
        exact ⟨ha, by rw [List.length_map]; exact hl, vs, _, rv, ha⟩
      · have z1 := (if_neg hb).symm.trans z
        by_cases hb2 : b = T
        · have z' := (if_pos hb2).symm.trans z1
          cases z'
          rw [hb2]
          exact hT
        · have z' := (if_neg hb2).symm.trans z1
          cases z'
    · by_cases hb : b = a
      · exact .inl hb
      · by_cases hb2 : b = T
        · exact .inr hb2
        · exact absurd ((if_neg hb).trans (if_neg hb2)) z
/-- the end -/
theorem walkG {l : PySem.W.OpenLaw} {n k : Nat} {q : Program} {loose : List Str} {XP : (Str → Option Value) → Heap → Prop} {YP : World → Heap → Prop} {d : DefRec} {K : Params → PySem.W.Frag} {x y : Str} {dr : DefRec} {sp : World → Addr → Sp}
    (hn : l.most = some n) (hn2 : n ≤ sizeLine) (hdf : d.params.defaults = []) (hr : Room k callerA) (hY : ∀ (w : World) (h : Heap), YP w h → (K w.params).In h) (hrec : (recsOf q).find? (fun e => e.name == y) = some dr)
    (F : ∀ (w : World) (mg : Str → Option Value) (fa : Addr) (h : Heap), (K w.params).In h → h.Ns mainGlobals mg → mg d.name = some (.ref fa) →
      ∃ (c T : Addr) (fd : FuncData), PySem.W.tabIn (K w.params) y = some (c, T) ∧ (K w.params).lookup T = none ∧ (∀ (s : Shared) (u : Value), BindsTo s fd ⟨[u], []⟩ [(x, u)]) ∧
        ∀ base : Heap, (K w.params).In base → base.Ns mainGlobals mg → TabB base mg c T → FnG l.prog w (K w.params) mg base k fa fd [x] (sp w T))
    (hsp : ∀ (w : World) (T : Addr) (H : Hp) (a : Addr) (ns : List Int), ns.length ≤ n → H T = some (.tbl #[]) → SqL (K w.params) H a (ns.map V.int) → sp w T [.ref a] H (fun v _ => v = .bl true) E0) :
    PySem.W.WalkO q loose XP YP l.row.toRowW d [] (fun f vs => PySem.call f vs) := by
  refine Att.attach_callB hn hdf fun w s₀ s₁ mg mb fa o pm cd doc a vs ns G Y ho hd hcd hmg hobj hints hlen hbits hg => ?_
  have KX := hY w _ Y
  obtain ⟨c, T, fd, ht, nT, hb, hF⟩ := F w mg fa _ KX G.T.g hmg
  obtain ⟨C, hT⟩ := PySem.W.tab_of G.T KX hrec ht
  exact law_callG KX G.T.g G.T.b G.T.builtins G.T.nolimit hg hT nT C G.T.bmain hobj hints (Nat.le_trans hlen hn2) hr hF hb fun H hH hS => hsp w T H a ns hlen hH hS
theorem walkL {l : PySem.W.OpenLaw} {q : Program} {loose : List Str} {XP : (Str → Option Value) → Heap → Prop} {YP : World → Heap → Prop} {d : DefRec} {K : Params → PySem.W.Frag} {dr : DefRec}
    (hn : l.most = some 63) (hdf : d.params.defaults = []) (hY : ∀ (w : World) (h : Heap), YP w h → (K w.params).In h) (hrec : (recsOf q).find? (fun e => e.name == ("_law_refused_so" : Str)) = some dr)
    (F : ∀ (w : World) (mg : Str → Option Value) (fa : Addr) (h : Heap), (K w.params).In h → h.Ns mainGlobals mg → mg d.name = some (.ref fa) →
      ∃ (c T : Addr) (fd : FuncData), PySem.W.tabIn (K w.params) "_law_refused_so" = some (c, T) ∧ (K w.params).lookup T = none ∧ (∀ (s : Shared) (u : Value), BindsTo s fd ⟨[u], []⟩ [("_law_script", u)]) ∧
        ∀ base : Heap, (K w.params).In base → base.Ns mainGlobals mg → TabB base mg c T → FnG l.prog w (K w.params) mg base 9 fa fd ["_law_script"] (spLw (K w.params) T)) :
    PySem.W.WalkO q loose XP YP l.row.toRowW d [] (fun f vs => PySem.call f vs) :=
  walkG (n := 63) (k := 9) (sp := fun w T => spLw (K w.params) T) hn (by decide) hdf ⟨rfl, by decide, by decide⟩ hY hrec F fun w T H a ns hl hT hS => ⟨a, ns, rfl, hS, hl, fun p hp => by
    rw [List.mem_singleton.mp hp]
    exact TabS.nil hT, fun _ => rfl⟩
end K69

/-! ## K20 -/
namespace K69
open PySem PySem.Spec PyProof.Rows L2
theorem exm_of {K : PySem.W.Frag} {S : Addr} {cls : Value} {b : Bool} (h1 : PySem.W.subIn K (.ref S) (.type "BaseException") = some true) (h2 : PySem.W.isClsIn K S = true) (h3 : PySem.W.typeIn K (.ref S) = some (.type "type")) (h4 : PySem.W.subIn K cls (.ref S) = some b) :
    PySem.W.exmOne K cls (.ref S) = some b := by
  have e1 : (PySem.W.subIn K (.ref S) (.type "BaseException") == some true) = true := by rw [h1] <;> rfl
  have e2 : ((PySem.W.clsIn K S).isSome && PySem.W.typeIn K (.ref S) == some (.type "type")) = true := by
    have h2' : (PySem.W.clsIn K S).isSome = true := h2
    rw [h2', h3] <;> rfl
  show (if (PySem.W.subIn K (.ref S) (.type "BaseException") == some true) = true then (if ((PySem.W.clsIn K S).isSome && PySem.W.typeIn K (.ref S) == some (.type "type")) = true then PySem.W.subIn K cls (.ref S) else none) else none) = some b
  rw [if_pos e1, if_pos e2]
  exact h4
theorem exm3 {K : PySem.W.Frag} {cls c1 c2 c3 : Value} (h1 : PySem.W.exmOne K cls c1 = some true) (h2 : PySem.W.exmOne K cls c2 = some false) (h3 : PySem.W.exmOne K cls c3 = some false) : PySem.W.exmAny K cls [c1, c2, c3] = some true := by
  simp [PySem.W.exmAny, h1, h2, h3]
/-- the table of a def's code object -/
theorem tab_in {K : PySem.W.Frag} {x qual : Str} {f c Pt : Addr} {st : Stmt} {oc : Value} {od an o2 : Option Addr} {o1 : Value} {osl sl2 : Array (Option Value)} {kV doc pm ct : Value} {vs : Array Value} {n2 : Nat}
    (a : PySem.W.nsIn K mainGlobals x = some (some (.ref f))) (l : K.lookup f = some ⟨oc, od, .func (PySem.W.fnOf x qual (defArgs st) (defBody st) (defScope st) .none kV doc pm an (.ref c) ct), osl⟩) (lc : K.lookup c = some ⟨o1, o2, .fields vs, sl2⟩) (hv : vs[11]? = some (.ref Pt)) :
    PySem.W.tabIn K x = some (c, Pt) := by
  unfold PySem.W.tabIn
  rw [a]
  simp only [l]
  show (match (Value.ref c) with | .ref c => _ | _ => none) = _
  simp only [lc, hv]
theorem all_mk {P : Program} {w : World} {K : PySem.W.Frag} {h : Heap} {mg : Str → Option Value} {fa : Addr} (X : K.In h) (G : h.Ns mainGlobals mg) (hfa : mg "law" = some (.ref fa))
    {fNum : Addr} {odNum anNum : Option Addr} {slNum : Array (Option Value)} {ocNum kVNum dcNum pmNum cdNum ctNum : Value}
    {fWhole : Addr} {odWhole anWhole : Option Addr} {slWhole : Array (Option Value)} {ocWhole kVWhole dcWhole pmWhole cdWhole ctWhole : Value}
    {fVec : Addr} {odVec anVec : Option Addr} {slVec : Array (Option Value)} {ocVec kVVec dcVec pmVec cdVec ctVec : Value}
    {fChk : Addr} {odChk anChk : Option Addr} {slChk : Array (Option Value)} {ocChk kVChk dcChk pmChk cdChk ctChk : Value}
    {fTab : Addr} {odTab anTab : Option Addr} {slTab : Array (Option Value)} {ocTab kVTab dcTab pmTab cdTab ctTab : Value}
    {fAbv : Addr} {odAbv anAbv : Option Addr} {slAbv : Array (Option Value)} {ocAbv kVAbv dcAbv pmAbv cdAbv ctAbv : Value}
    {fLv : Addr} {odLv anLv : Option Addr} {slLv : Array (Option Value)} {ocLv kVLv dcLv pmLv cdLv ctLv : Value}
    {fRed : Addr} {odRed anRed : Option Addr} {slRed : Array (Option Value)} {ocRed kVRed dcRed pmRed cdRed ctRed : Value}
    {fRay : Addr} {odRay anRay : Option Addr} {slRay : Array (Option Value)} {ocRay kVRay dcRay pmRay cdRay ctRay : Value}
    {fWg : Addr} {odWg anWg : Option Addr} {slWg : Array (Option Value)} {ocWg kVWg dcWg pmWg cdWg ctWg : Value}
    {fDr : Addr} {odDr anDr : Option Addr} {slDr : Array (Option Value)} {ocDr kVDr dcDr pmDr cdDr ctDr : Value}
    {fPull : Addr} {odPull anPull : Option Addr} {slPull : Array (Option Value)} {ocPull kVPull dcPull pmPull cdPull ctPull : Value}
    {fAny : Addr} {odAny anAny : Option Addr} {slAny : Array (Option Value)} {ocAny kVAny dcAny pmAny cdAny ctAny : Value}
    {fMix : Addr} {odMix anMix : Option Addr} {slMix : Array (Option Value)} {ocMix kVMix dcMix pmMix cdMix ctMix : Value}
    {fSome : Addr} {odSome anSome : Option Addr} {slSome : Array (Option Value)} {ocSome kVSome dcSome pmSome cdSome ctSome : Value}
    {fLike : Addr} {odLike anLike : Option Addr} {slLike : Array (Option Value)} {ocLike kVLike dcLike pmLike cdLike ctLike : Value}
    {fFld : Addr} {odFld anFld : Option Addr} {slFld : Array (Option Value)} {ocFld kVFld dcFld pmFld cdFld ctFld : Value}
    {fTry : Addr} {odTry anTry : Option Addr} {slTry : Array (Option Value)} {ocTry kVTry dcTry pmTry cdTry ctTry : Value}
    {fLNum : Addr} {odLNum anLNum : Option Addr} {slLNum : Array (Option Value)} {ocLNum kVLNum dcLNum pmLNum cdLNum ctLNum : Value}
    {fLWh : Addr} {odLWh anLWh : Option Addr} {slLWh : Array (Option Value)} {ocLWh kVLWh dcLWh pmLWh cdLWh ctLWh : Value}
    {fLVec : Addr} {odLVec anLVec : Option Addr} {slLVec : Array (Option Value)} {ocLVec kVLVec dcLVec pmLVec cdLVec ctLVec : Value}
    {fVF : Addr} {odVF anVF : Option Addr} {slVF : Array (Option Value)} {ocVF kVVF dcVF pmVF cdVF ctVF : Value}
    {fDot : Addr} {odDot anDot : Option Addr} {slDot : Array (Option Value)} {ocDot kVDot dcDot pmDot cdDot ctDot : Value}
    {fWO : Addr} {odWO anWO : Option Addr} {slWO : Array (Option Value)} {ocWO kVWO dcWO pmWO cdWO ctWO : Value}
    {fCO : Addr} {odCO anCO : Option Addr} {slCO : Array (Option Value)} {ocCO kVCO dcCO pmCO cdCO ctCO : Value}
    {fVct : Addr} {odVct anVct : Option Addr} {slVct : Array (Option Value)} {ocVct kVVct dcVct pmVct cdVct ctVct : Value}
    {fLess : Addr} {odLess anLess : Option Addr} {slLess : Array (Option Value)} {ocLess kVLess dcLess pmLess cdLess ctLess : Value}
    {fTS : Addr} {odTS anTS : Option Addr} {slTS : Array (Option Value)} {ocTS kVTS dcTS pmTS cdTS ctTS : Value}
    {fHid : Addr} {odHid anHid : Option Addr} {slHid : Array (Option Value)} {ocHid kVHid dcHid pmHid cdHid ctHid : Value}
    {fAl : Addr} {odAl anAl : Option Addr} {slAl : Array (Option Value)} {ocAl kVAl dcAl pmAl cdAl ctAl : Value}
    {fRf cR : Addr} {odRf anRf : Option Addr} {slRf : Array (Option Value)} {ocRf kVRf dcRf pmRf ctRf : Value}
    {fLs : Addr} {odLs anLs : Option Addr} {slLs : Array (Option Value)} {ocLs kVLs dcLs pmLs cdLs ctLs : Value}
    {fLw : Addr} {odLw anLw : Option Addr} {slLw : Array (Option Value)} {ocLw kVLw dcLw pmLw cdLw ctLw : Value}
    {Pt : Addr} {oT : Value} {odT : Option Addr} {slT : Array (Option Value)} {vsT : Array Value}
    {CN fIN : Addr} {nmN qN : Str} {NN : Addr} {bsN bmN : List Value} {snN : List Str} {subN : List Value} {abN : Bool} {colN : Option Bool} {ddN : Option Addr} {m0N m1N m2N m3N m5N : Option Value} {odNi anNi : Option Addr} {slNi : Array (Option Value)} {ocNi kVNi dcNi pmNi cdNi ctNi : Value}
    {CV fIV : Addr} {nmV qV : Str} {NV : Addr} {bsV bmV : List Value} {snV : List Str} {subV : List Value} {abV : Bool} {colV : Option Bool} {ddV : Option Addr} {m0V m1V m2V m3V m5V : Option Value} {odVi anVi : Option Addr} {slVi : Array (Option Value)} {ocVi kVVi dcVi pmVi cdVi ctVi : Value}
    {CM fIM : Addr} {nmM qM : Str} {NM : Addr} {bsM bmM : List Value} {snM : List Str} {subM : List Value} {abM : Bool} {colM : Option Bool} {ddM : Option Addr} {m0M m1M m2M m3M m5M : Option Value} {odMi anMi : Option Addr} {slMi : Array (Option Value)} {ocMi kVMi dcMi pmMi cdMi ctMi : Value}
    {A1 : Addr}
    {A2 : Addr}
    {A3 : Addr}
    (aNum : PySem.W.nsIn K mainGlobals "is_number" = some (some (.ref fNum)))
    (lNum : K.lookup fNum = some ⟨ocNum, odNum, .func (PySem.W.fnOf "is_number" "is_number" (defArgs sNum) (defBody sNum) (defScope sNum) .none kVNum dcNum pmNum anNum cdNum ctNum), slNum⟩)
    (cNum : PySem.W.codeIn K cdNum "is_number" = true)
    (kNum : PySem.W.keepIn K (.ref fNum) = true)
    (aWhole : PySem.W.nsIn K mainGlobals "is_whole" = some (some (.ref fWhole)))
    (lWhole : K.lookup fWhole = some ⟨ocWhole, odWhole, .func (PySem.W.fnOf "is_whole" "is_whole" (defArgs sWhole) (defBody sWhole) (defScope sWhole) .none kVWhole dcWhole pmWhole anWhole cdWhole ctWhole), slWhole⟩)
    (cWhole : PySem.W.codeIn K cdWhole "is_whole" = true)
    (kWhole : PySem.W.keepIn K (.ref fWhole) = true)
    (aVec : PySem.W.nsIn K mainGlobals "is_vector" = some (some (.ref fVec)))
    (lVec : K.lookup fVec = some ⟨ocVec, odVec, .func (PySem.W.fnOf "is_vector" "is_vector" (defArgs sVec) (defBody sVec) (defScope sVec) .none kVVec dcVec pmVec anVec cdVec ctVec), slVec⟩)
    (cVec : PySem.W.codeIn K cdVec "is_vector" = true)
    (kVec : PySem.W.keepIn K (.ref fVec) = true)
    (aChk : PySem.W.nsIn K mainGlobals "check_vectors" = some (some (.ref fChk)))
    (lChk : K.lookup fChk = some ⟨ocChk, odChk, .func (PySem.W.fnOf "check_vectors" "check_vectors" (defArgs sChk) (defBody sChk) (defScope sChk) .none kVChk dcChk pmChk anChk cdChk ctChk), slChk⟩)
    (cChk : PySem.W.codeIn K cdChk "check_vectors" = true)
    (kChk : PySem.W.keepIn K (.ref fChk) = true)
    (aTab : PySem.W.nsIn K mainGlobals "first_tableau" = some (some (.ref fTab)))
    (lTab : K.lookup fTab = some ⟨ocTab, odTab, .func (PySem.W.fnOf "first_tableau" "first_tableau" (defArgs sTab) (defBody sTab) (defScope sTab) .none kVTab dcTab pmTab anTab cdTab ctTab), slTab⟩)
    (cTab : PySem.W.codeIn K cdTab "first_tableau" = true)
    (kTab : PySem.W.keepIn K (.ref fTab) = true)
    (aAbv : PySem.W.nsIn K mainGlobals "first_above" = some (some (.ref fAbv)))
    (lAbv : K.lookup fAbv = some ⟨ocAbv, odAbv, .func (PySem.W.fnOf "first_above" "first_above" (defArgs sAbv) (defBody sAbv) (defScope sAbv) .none kVAbv dcAbv pmAbv anAbv cdAbv ctAbv), slAbv⟩)
    (cAbv : PySem.W.codeIn K cdAbv "first_above" = true)
    (kAbv : PySem.W.keepIn K (.ref fAbv) = true)
    (aLv : PySem.W.nsIn K mainGlobals "leaving_row" = some (some (.ref fLv)))
    (lLv : K.lookup fLv = some ⟨ocLv, odLv, .func (PySem.W.fnOf "leaving_row" "leaving_row" (defArgs sLv) (defBody sLv) (defScope sLv) .none kVLv dcLv pmLv anLv cdLv ctLv), slLv⟩)
    (cLv : PySem.W.codeIn K cdLv "leaving_row" = true)
    (kLv : PySem.W.keepIn K (.ref fLv) = true)
    (aRed : PySem.W.nsIn K mainGlobals "reduced" = some (some (.ref fRed)))
    (lRed : K.lookup fRed = some ⟨ocRed, odRed, .func (PySem.W.fnOf "reduced" "reduced" (defArgs sRed) (defBody sRed) (defScope sRed) .none kVRed dcRed pmRed anRed cdRed ctRed), slRed⟩)
    (cRed : PySem.W.codeIn K cdRed "reduced" = true)
    (kRed : PySem.W.keepIn K (.ref fRed) = true)
    (aRay : PySem.W.nsIn K mainGlobals "ray" = some (some (.ref fRay)))
    (lRay : K.lookup fRay = some ⟨ocRay, odRay, .func (PySem.W.fnOf "ray" "ray" (defArgs sRay) (defBody sRay) (defScope sRay) .none kVRay dcRay pmRay anRay cdRay ctRay), slRay⟩)
    (cRay : PySem.W.codeIn K cdRay "ray" = true)
    (kRay : PySem.W.keepIn K (.ref fRay) = true)
    (aWg : PySem.W.nsIn K mainGlobals "weigh" = some (some (.ref fWg)))
    (lWg : K.lookup fWg = some ⟨ocWg, odWg, .func (PySem.W.fnOf "weigh" "weigh" (defArgs sWg) (defBody sWg) (defScope sWg) .none kVWg dcWg pmWg anWg cdWg ctWg), slWg⟩)
    (cWg : PySem.W.codeIn K cdWg "weigh" = true)
    (kWg : PySem.W.keepIn K (.ref fWg) = true)
    (aDr : PySem.W.nsIn K mainGlobals "_law_draws" = some (some (.ref fDr)))
    (lDr : K.lookup fDr = some ⟨ocDr, odDr, .func (PySem.W.fnOf "_law_draws" "_law_draws" (defArgs sDr) (defBody sDr) (defScope sDr) .none kVDr dcDr pmDr anDr cdDr ctDr), slDr⟩)
    (cDr : PySem.W.codeIn K cdDr "_law_draws" = true)
    (kDr : PySem.W.keepIn K (.ref fDr) = true)
    (aPull : PySem.W.nsIn K mainGlobals "_law_pull" = some (some (.ref fPull)))
    (lPull : K.lookup fPull = some ⟨ocPull, odPull, .func (PySem.W.fnOf "_law_pull" "_law_pull" (defArgs sPull) (defBody sPull) (defScope sPull) .none kVPull dcPull pmPull anPull cdPull ctPull), slPull⟩)
    (cPull : PySem.W.codeIn K cdPull "_law_pull" = true)
    (kPull : PySem.W.keepIn K (.ref fPull) = true)
    (aAny : PySem.W.nsIn K mainGlobals "_law_any" = some (some (.ref fAny)))
    (lAny : K.lookup fAny = some ⟨ocAny, odAny, .func (PySem.W.fnOf "_law_any" "_law_any" (defArgs sAny) (defBody sAny) (defScope sAny) .none kVAny dcAny pmAny anAny cdAny ctAny), slAny⟩)
    (cAny : PySem.W.codeIn K cdAny "_law_any" = true)
    (kAny : PySem.W.keepIn K (.ref fAny) = true)
    (aMix : PySem.W.nsIn K mainGlobals "_law_mixed" = some (some (.ref fMix)))
    (lMix : K.lookup fMix = some ⟨ocMix, odMix, .func (PySem.W.fnOf "_law_mixed" "_law_mixed" (defArgs sMix) (defBody sMix) (defScope sMix) .none kVMix dcMix pmMix anMix cdMix ctMix), slMix⟩)
    (cMix : PySem.W.codeIn K cdMix "_law_mixed" = true)
    (kMix : PySem.W.keepIn K (.ref fMix) = true)
    (aSome : PySem.W.nsIn K mainGlobals "_law_some" = some (some (.ref fSome)))
    (lSome : K.lookup fSome = some ⟨ocSome, odSome, .func (PySem.W.fnOf "_law_some" "_law_some" (defArgs sSome) (defBody sSome) (defScope sSome) .none kVSome dcSome pmSome anSome cdSome ctSome), slSome⟩)
    (cSome : PySem.W.codeIn K cdSome "_law_some" = true)
    (kSome : PySem.W.keepIn K (.ref fSome) = true)
    (aLike : PySem.W.nsIn K mainGlobals "_law_like" = some (some (.ref fLike)))
    (lLike : K.lookup fLike = some ⟨ocLike, odLike, .func (PySem.W.fnOf "_law_like" "_law_like" (defArgs sLike) (defBody sLike) (defScope sLike) .none kVLike dcLike pmLike anLike cdLike ctLike), slLike⟩)
    (cLike : PySem.W.codeIn K cdLike "_law_like" = true)
    (kLike : PySem.W.keepIn K (.ref fLike) = true)
    (aFld : PySem.W.nsIn K mainGlobals "_law_field" = some (some (.ref fFld)))
    (lFld : K.lookup fFld = some ⟨ocFld, odFld, .func (PySem.W.fnOf "_law_field" "_law_field" (defArgs sFld) (defBody sFld) (defScope sFld) .none kVFld dcFld pmFld anFld cdFld ctFld), slFld⟩)
    (cFld : PySem.W.codeIn K cdFld "_law_field" = true)
    (kFld : PySem.W.keepIn K (.ref fFld) = true)
    (aTry : PySem.W.nsIn K mainGlobals "_law_try" = some (some (.ref fTry)))
    (lTry : K.lookup fTry = some ⟨ocTry, odTry, .func (PySem.W.fnOf "_law_try" "_law_try" (defArgs sTry) (defBody sTry) (defScope sTry) .none kVTry dcTry pmTry anTry cdTry ctTry), slTry⟩)
    (cTry : PySem.W.codeIn K cdTry "_law_try" = true)
    (kTry : PySem.W.keepIn K (.ref fTry) = true)
    (aLNum : PySem.W.nsIn K mainGlobals "_law_is_number" = some (some (.ref fLNum)))
    (lLNum : K.lookup fLNum = some ⟨ocLNum, odLNum, .func (PySem.W.fnOf "_law_is_number" "_law_is_number" (defArgs sLNum) (defBody sLNum) (defScope sLNum) .none kVLNum dcLNum pmLNum anLNum cdLNum ctLNum), slLNum⟩)
    (cLNum : PySem.W.codeIn K cdLNum "_law_is_number" = true)
    (kLNum : PySem.W.keepIn K (.ref fLNum) = true)
    (aLWh : PySem.W.nsIn K mainGlobals "_law_is_whole" = some (some (.ref fLWh)))
    (lLWh : K.lookup fLWh = some ⟨ocLWh, odLWh, .func (PySem.W.fnOf "_law_is_whole" "_law_is_whole" (defArgs sLWh) (defBody sLWh) (defScope sLWh) .none kVLWh dcLWh pmLWh anLWh cdLWh ctLWh), slLWh⟩)
    (cLWh : PySem.W.codeIn K cdLWh "_law_is_whole" = true)
    (kLWh : PySem.W.keepIn K (.ref fLWh) = true)
    (aLVec : PySem.W.nsIn K mainGlobals "_law_is_vector" = some (some (.ref fLVec)))
    (lLVec : K.lookup fLVec = some ⟨ocLVec, odLVec, .func (PySem.W.fnOf "_law_is_vector" "_law_is_vector" (defArgs sLVec) (defBody sLVec) (defScope sLVec) .none kVLVec dcLVec pmLVec anLVec cdLVec ctLVec), slLVec⟩)
    (cLVec : PySem.W.codeIn K cdLVec "_law_is_vector" = true)
    (kLVec : PySem.W.keepIn K (.ref fLVec) = true)
    (aVF : PySem.W.nsIn K mainGlobals "_law_vectors_fault" = some (some (.ref fVF)))
    (lVF : K.lookup fVF = some ⟨ocVF, odVF, .func (PySem.W.fnOf "_law_vectors_fault" "_law_vectors_fault" (defArgs sVF) (defBody sVF) (defScope sVF) .none kVVF dcVF pmVF anVF cdVF ctVF), slVF⟩)
    (cVF : PySem.W.codeIn K cdVF "_law_vectors_fault" = true)
    (kVF : PySem.W.keepIn K (.ref fVF) = true)
    (aDot : PySem.W.nsIn K mainGlobals "_law_dot" = some (some (.ref fDot)))
    (lDot : K.lookup fDot = some ⟨ocDot, odDot, .func (PySem.W.fnOf "_law_dot" "_law_dot" (defArgs sDot) (defBody sDot) (defScope sDot) .none kVDot dcDot pmDot anDot cdDot ctDot), slDot⟩)
    (cDot : PySem.W.codeIn K cdDot "_law_dot" = true)
    (kDot : PySem.W.keepIn K (.ref fDot) = true)
    (aWO : PySem.W.nsIn K mainGlobals "_law_weights_of" = some (some (.ref fWO)))
    (lWO : K.lookup fWO = some ⟨ocWO, odWO, .func (PySem.W.fnOf "_law_weights_of" "_law_weights_of" (defArgs sWO) (defBody sWO) (defScope sWO) .none kVWO dcWO pmWO anWO cdWO ctWO), slWO⟩)
    (cWO : PySem.W.codeIn K cdWO "_law_weights_of" = true)
    (kWO : PySem.W.keepIn K (.ref fWO) = true)
    (aCO : PySem.W.nsIn K mainGlobals "_law_counters" = some (some (.ref fCO)))
    (lCO : K.lookup fCO = some ⟨ocCO, odCO, .func (PySem.W.fnOf "_law_counters" "_law_counters" (defArgs sCO) (defBody sCO) (defScope sCO) .none kVCO dcCO pmCO anCO cdCO ctCO), slCO⟩)
    (cCO : PySem.W.codeIn K cdCO "_law_counters" = true)
    (kCO : PySem.W.keepIn K (.ref fCO) = true)
    (aVct : PySem.W.nsIn K mainGlobals "_law_vector" = some (some (.ref fVct)))
    (lVct : K.lookup fVct = some ⟨ocVct, odVct, .func (PySem.W.fnOf "_law_vector" "_law_vector" (defArgs sVct) (defBody sVct) (defScope sVct) .none kVVct dcVct pmVct anVct cdVct ctVct), slVct⟩)
    (cVct : PySem.W.codeIn K cdVct "_law_vector" = true)
    (kVct : PySem.W.keepIn K (.ref fVct) = true)
    (aLess : PySem.W.nsIn K mainGlobals "_law_less" = some (some (.ref fLess)))
    (lLess : K.lookup fLess = some ⟨ocLess, odLess, .func (PySem.W.fnOf "_law_less" "_law_less" (defArgs sLess) (defBody sLess) (defScope sLess) .none kVLess dcLess pmLess anLess cdLess ctLess), slLess⟩)
    (cLess : PySem.W.codeIn K cdLess "_law_less" = true)
    (kLess : PySem.W.keepIn K (.ref fLess) = true)
    (aTS : PySem.W.nsIn K mainGlobals "_law_told_so" = some (some (.ref fTS)))
    (lTS : K.lookup fTS = some ⟨ocTS, odTS, .func (PySem.W.fnOf "_law_told_so" "_law_told_so" (defArgs sTS) (defBody sTS) (defScope sTS) .none kVTS dcTS pmTS anTS cdTS ctTS), slTS⟩)
    (cTS : PySem.W.codeIn K cdTS "_law_told_so" = true)
    (kTS : PySem.W.keepIn K (.ref fTS) = true)
    (aHid : PySem.W.nsIn K mainGlobals "_law_hidden" = some (some (.ref fHid)))
    (lHid : K.lookup fHid = some ⟨ocHid, odHid, .func (PySem.W.fnOf "_law_hidden" "_law_hidden" (defArgs sHid) (defBody sHid) (defScope sHid) .none kVHid dcHid pmHid anHid cdHid ctHid), slHid⟩)
    (cHid : PySem.W.codeIn K cdHid "_law_hidden" = true)
    (kHid : PySem.W.keepIn K (.ref fHid) = true)
    (aAl : PySem.W.nsIn K mainGlobals "_law_alike_so" = some (some (.ref fAl)))
    (lAl : K.lookup fAl = some ⟨ocAl, odAl, .func (PySem.W.fnOf "_law_alike_so" "_law_alike_so" (defArgs sAl) (defBody sAl) (defScope sAl) .none kVAl dcAl pmAl anAl cdAl ctAl), slAl⟩)
    (cAl : PySem.W.codeIn K cdAl "_law_alike_so" = true)
    (kAl : PySem.W.keepIn K (.ref fAl) = true)
    (aRf : PySem.W.nsIn K mainGlobals "_law_refused_so" = some (some (.ref fRf)))
    (lRf : K.lookup fRf = some ⟨ocRf, odRf, .func (PySem.W.fnOf "_law_refused_so" "_law_refused_so" (defArgs sRf) (defBody sRf) (defScope sRf) .none kVRf dcRf pmRf anRf (.ref cR) ctRf), slRf⟩)
    (cRf : PySem.W.codeIn K (.ref cR) "_law_refused_so" = true)
    (kRf : PySem.W.keepIn K (.ref fRf) = true)
    (aLs : PySem.W.nsIn K mainGlobals "_law_list_so" = some (some (.ref fLs)))
    (lLs : K.lookup fLs = some ⟨ocLs, odLs, .func (PySem.W.fnOf "_law_list_so" "_law_list_so" (defArgs sLs) (defBody sLs) (defScope sLs) .none kVLs dcLs pmLs anLs cdLs ctLs), slLs⟩)
    (cLs : PySem.W.codeIn K cdLs "_law_list_so" = true)
    (kLs : PySem.W.keepIn K (.ref fLs) = true)
    (aLw : PySem.W.nsIn K mainGlobals "law" = some (some (.ref fLw)))
    (lLw : K.lookup fLw = some ⟨ocLw, odLw, .func (PySem.W.fnOf "law" "law" (defArgs sLw) (defBody sLw) (defScope sLw) .none kVLw dcLw pmLw anLw cdLw ctLw), slLw⟩)
    (cLw : PySem.W.codeIn K cdLw "law" = true)
    (kLw : PySem.W.keepIn K (.ref fLw) = true)
    (lT : K.lookup cR = some ⟨oT, odT, .fields vsT, slT⟩)
    (hT : vsT[11]? = some (.ref Pt))
    (nT : K.lookup Pt = none)
    (aCN : PySem.W.nsIn K mainGlobals "InvalidNumber" = some (some (.ref CN)))
    (xCN : K.lookup CN = some (excClassObj nmN qN CN NN bsN bmN true snN subN abN colN ddN m0N m1N m2N m3N m5N "ValueError.__new__"))
    (rCN : PySem.HandSPX.refsVE bmN = true)
    (saN : PySem.W.findIn K (.ref CN) "__setattr__" = some (some (.builtin "object.__setattr__")))
    (gaN : PySem.W.findIn K (.ref CN) "__getattribute__" = some (some (.builtin "BaseException.__getattribute__")))
    (ggN : PySem.W.findIn K (.ref CN) "__getattr__" = some none)
    (exN : PySem.W.subIn K (.ref CN) (.type "BaseException") = some true)
    (tyN : PySem.W.typeIn K (.ref CN) = some (.type "type"))
    (kCN : PySem.W.keepIn K (.ref CN) = true)
    (hdN : PySem.W.hasDictIn K CN = true)
    (ncN : PySem.W.findIn K (.ref CN) "code" = some none)
    (nfN : PySem.W.findIn K (.ref CN) "value" = some none)
    (iIN : PySem.W.findIn K (.ref CN) "__init__" = some (some (.ref fIN)))
    (iTN : PySem.W.typeIn K (.ref fIN) = some (.type "function"))
    (iLN : K.lookup fIN = some ⟨ocNi, odNi, .func (PySem.W.fnOf "__init__" "InvalidNumber.__init__" (defArgs sIN) (defBody sIN) (defScope sIN) .none kVNi dcNi pmNi anNi cdNi ctNi), slNi⟩)
    (iCN : PySem.W.codeIn K cdNi "InvalidNumber.__init__" = true)
    (iKN : PySem.W.keepIn K (.ref fIN) = true)
    (aCV : PySem.W.nsIn K mainGlobals "InvalidVector" = some (some (.ref CV)))
    (xCV : K.lookup CV = some (excClassObj nmV qV CV NV bsV bmV true snV subV abV colV ddV m0V m1V m2V m3V m5V "ValueError.__new__"))
    (rCV : PySem.HandSPX.refsVE bmV = true)
    (saV : PySem.W.findIn K (.ref CV) "__setattr__" = some (some (.builtin "object.__setattr__")))
    (gaV : PySem.W.findIn K (.ref CV) "__getattribute__" = some (some (.builtin "BaseException.__getattribute__")))
    (ggV : PySem.W.findIn K (.ref CV) "__getattr__" = some none)
    (exV : PySem.W.subIn K (.ref CV) (.type "BaseException") = some true)
    (tyV : PySem.W.typeIn K (.ref CV) = some (.type "type"))
    (kCV : PySem.W.keepIn K (.ref CV) = true)
    (hdV : PySem.W.hasDictIn K CV = true)
    (ncV : PySem.W.findIn K (.ref CV) "code" = some none)
    (nfV : PySem.W.findIn K (.ref CV) "at" = some none)
    (iIV : PySem.W.findIn K (.ref CV) "__init__" = some (some (.ref fIV)))
    (iTV : PySem.W.typeIn K (.ref fIV) = some (.type "function"))
    (iLV : K.lookup fIV = some ⟨ocVi, odVi, .func (PySem.W.fnOf "__init__" "InvalidVector.__init__" (defArgs sIV) (defBody sIV) (defScope sIV) .none kVVi dcVi pmVi anVi cdVi ctVi), slVi⟩)
    (iCV : PySem.W.codeIn K cdVi "InvalidVector.__init__" = true)
    (iKV : PySem.W.keepIn K (.ref fIV) = true)
    (aCM : PySem.W.nsIn K mainGlobals "TooMany" = some (some (.ref CM)))
    (xCM : K.lookup CM = some (excClassObj nmM qM CM NM bsM bmM true snM subM abM colM ddM m0M m1M m2M m3M m5M "ValueError.__new__"))
    (rCM : PySem.HandSPX.refsVE bmM = true)
    (saM : PySem.W.findIn K (.ref CM) "__setattr__" = some (some (.builtin "object.__setattr__")))
    (gaM : PySem.W.findIn K (.ref CM) "__getattribute__" = some (some (.builtin "BaseException.__getattribute__")))
    (ggM : PySem.W.findIn K (.ref CM) "__getattr__" = some none)
    (exM : PySem.W.subIn K (.ref CM) (.type "BaseException") = some true)
    (tyM : PySem.W.typeIn K (.ref CM) = some (.type "type"))
    (kCM : PySem.W.keepIn K (.ref CM) = true)
    (hdM : PySem.W.hasDictIn K CM = true)
    (ncM : PySem.W.findIn K (.ref CM) "code" = some none)
    (nfM : PySem.W.findIn K (.ref CM) "most" = some none)
    (iIM : PySem.W.findIn K (.ref CM) "__init__" = some (some (.ref fIM)))
    (iTM : PySem.W.typeIn K (.ref fIM) = some (.type "function"))
    (iLM : K.lookup fIM = some ⟨ocMi, odMi, .func (PySem.W.fnOf "__init__" "TooMany.__init__" (defArgs sIM) (defBody sIM) (defScope sIM) .none kVMi dcMi pmMi anMi cdMi ctMi), slMi⟩)
    (iCM : PySem.W.codeIn K cdMi "TooMany.__init__" = true)
    (iKM : PySem.W.keepIn K (.ref fIM) = true)
    (aA1 : PySem.W.nsIn K mainGlobals "ChoiceError" = some (some (.ref A1)))
    (eA1 : PySem.W.subIn K (.ref A1) (.type "BaseException") = some true)
    (iA1 : PySem.W.isClsIn K A1 = true)
    (tA1 : PySem.W.typeIn K (.ref A1) = some (.type "type"))
    (sN1 : PySem.W.subIn K (.ref CN) (.ref A1) = some true)
    (sV1 : PySem.W.subIn K (.ref CV) (.ref A1) = some true)
    (sM1 : PySem.W.subIn K (.ref CM) (.ref A1) = some true)
    (aA2 : PySem.W.nsIn K mainGlobals "Missing" = some (some (.ref A2)))
    (eA2 : PySem.W.subIn K (.ref A2) (.type "BaseException") = some true)
    (iA2 : PySem.W.isClsIn K A2 = true)
    (tA2 : PySem.W.typeIn K (.ref A2) = some (.type "type"))
    (sN2 : PySem.W.subIn K (.ref CN) (.ref A2) = some false)
    (sV2 : PySem.W.subIn K (.ref CV) (.ref A2) = some false)
    (sM2 : PySem.W.subIn K (.ref CM) (.ref A2) = some false)
    (aA3 : PySem.W.nsIn K mainGlobals "NothingLeft" = some (some (.ref A3)))
    (eA3 : PySem.W.subIn K (.ref A3) (.type "BaseException") = some true)
    (iA3 : PySem.W.isClsIn K A3 = true)
    (tA3 : PySem.W.typeIn K (.ref A3) = some (.type "type"))
    (sN3 : PySem.W.subIn K (.ref CN) (.ref A3) = some false)
    (sV3 : PySem.W.subIn K (.ref CV) (.ref A3) = some false)
    (sM3 : PySem.W.subIn K (.ref CM) (.ref A3) = some false)
    (z_isinstance : PySem.W.nsIn K mainGlobals "isinstance" = some none)
    (z_int : PySem.W.nsIn K mainGlobals "int" = some none)
    (z_bool : PySem.W.nsIn K mainGlobals "bool" = some none)
    (z_tuple : PySem.W.nsIn K mainGlobals "tuple" = some none)
    (z_list : PySem.W.nsIn K mainGlobals "list" = some none)
    (z_dict : PySem.W.nsIn K mainGlobals "dict" = some none)
    (z_str : PySem.W.nsIn K mainGlobals "str" = some none)
    (z_len : PySem.W.nsIn K mainGlobals "len" = some none)
    (z_all : PySem.W.nsIn K mainGlobals "all" = some none)
    (z_any : PySem.W.nsIn K mainGlobals "any" = some none)
    (z_range : PySem.W.nsIn K mainGlobals "range" = some none)
    (z_enumerate : PySem.W.nsIn K mainGlobals "enumerate" = some none)
    (z_zip : PySem.W.nsIn K mainGlobals "zip" = some none)
    (z_sum : PySem.W.nsIn K mainGlobals "sum" = some none)
    (z_max : PySem.W.nsIn K mainGlobals "max" = some none)
    (z_min : PySem.W.nsIn K mainGlobals "min" = some none)
    (z_repr : PySem.W.nsIn K mainGlobals "repr" = some none)
    : ∃ (c T : Addr) (fd : FuncData), PySem.W.tabIn K "_law_refused_so" = some (c, T) ∧ K.lookup T = none ∧ (∀ (s : Shared) (u : Value), BindsTo s fd ⟨[u], []⟩ [("_law_script", u)]) ∧
        ∀ base : Heap, K.In base → base.Ns mainGlobals mg → LamX.TabB base mg c T → FnG P w K mg base 9 fa fd ["_law_script"] (spLw K T) := by
  have e := hfa.symm.trans (PySem.W.mg_of X G aLw)
  cases e
  have T : Tx K mg := ⟨PySem.W.mg_none_of X G z_isinstance, PySem.W.mg_none_of X G z_int, PySem.W.mg_none_of X G z_bool, PySem.W.mg_none_of X G z_tuple, PySem.W.mg_none_of X G z_list, PySem.W.mg_none_of X G z_dict, PySem.W.mg_none_of X G z_str, PySem.W.mg_none_of X G z_len, PySem.W.mg_none_of X G z_all, PySem.W.mg_none_of X G z_any, PySem.W.mg_none_of X G z_range, PySem.W.mg_none_of X G z_enumerate, PySem.W.mg_none_of X G z_zip, PySem.W.mg_none_of X G z_sum, PySem.W.mg_none_of X G z_max, PySem.W.mg_none_of X G z_min, PySem.W.mg_none_of X G z_repr⟩
  have mNum := PySem.W.mg_of X G aNum
  have FNum := fun_mk (st := sNum) lNum cNum kNum
  have bNum := FNum.binds (ps := ["value", "least", "most"]) fun _ _ _ _ _ _ us hl => match us, hl with | [_, _, _], _ => rfl
  have mWhole := PySem.W.mg_of X G aWhole
  have FWhole := fun_mk (st := sWhole) lWhole cWhole kWhole
  have bWhole := FWhole.binds (ps := ["value"]) fun _ _ _ _ _ _ us hl => match us, hl with | [_], _ => rfl
  have mVec := PySem.W.mg_of X G aVec
  have FVec := fun_mk (st := sVec) lVec cVec kVec
  have bVec := FVec.binds (ps := ["value", "width"]) fun _ _ _ _ _ _ us hl => match us, hl with | [_, _], _ => rfl
  have mChk := PySem.W.mg_of X G aChk
  have FChk := fun_mk (st := sChk) lChk cChk kChk
  have mTab := PySem.W.mg_of X G aTab
  have FTab := fun_mk (st := sTab) lTab cTab kTab
  have bTab := FTab.binds (ps := ["vectors", "width"]) fun _ _ _ _ _ _ us hl => match us, hl with | [_, _], _ => rfl
  have mAbv := PySem.W.mg_of X G aAbv
  have FAbv := fun_mk (st := sAbv) lAbv cAbv kAbv
  have bAbv := FAbv.binds (ps := ["goal"]) fun _ _ _ _ _ _ us hl => match us, hl with | [_], _ => rfl
  have mLv := PySem.W.mg_of X G aLv
  have FLv := fun_mk (st := sLv) lLv cLv kLv
  have bLv := FLv.binds (ps := ["table", "basis", "column"]) fun _ _ _ _ _ _ us hl => match us, hl with | [_, _, _], _ => rfl
  have mRed := PySem.W.mg_of X G aRed
  have FRed := fun_mk (st := sRed) lRed cRed kRed
  have bRed := FRed.binds (ps := ["line", "pivot_line", "column", "scale"]) fun _ _ _ _ _ _ us hl => match us, hl with | [_, _, _, _], _ => rfl
  have mRay := PySem.W.mg_of X G aRay
  have FRay := fun_mk (st := sRay) lRay cRay kRay
  have bRay := FRay.binds (ps := ["table", "basis", "column", "scale", "many"]) fun _ _ _ _ _ _ us hl => match us, hl with | [_, _, _, _, _], _ => rfl
  have mWg := PySem.W.mg_of X G aWg
  have FWg := fun_mk (st := sWg) lWg cWg kWg
  have mDr := PySem.W.mg_of X G aDr
  have FDr := fun_mk (st := sDr) lDr cDr kDr
  have bDr := FDr.binds (ps := ["_law_script"]) fun _ _ _ _ _ _ us hl => match us, hl with | [_], _ => rfl
  have mPull := PySem.W.mg_of X G aPull
  have FPull := fun_mk (st := sPull) lPull cPull kPull
  have bPull := FPull.binds (ps := ["_law_bag", "_law_sides"]) fun _ _ _ _ _ _ us hl => match us, hl with | [_, _], _ => rfl
  have mAny := PySem.W.mg_of X G aAny
  have FAny := fun_mk (st := sAny) lAny cAny kAny
  have bAny := FAny.binds (ps := ["_law_bag", "_law_items"]) fun _ _ _ _ _ _ us hl => match us, hl with | [_, _], _ => rfl
  have mMix := PySem.W.mg_of X G aMix
  have FMix := fun_mk (st := sMix) lMix cMix kMix
  have bMix := FMix.binds (ps := ["_law_bag", "_law_items"]) fun _ _ _ _ _ _ us hl => match us, hl with | [_, _], _ => rfl
  have mSome := PySem.W.mg_of X G aSome
  have FSome := fun_mk (st := sSome) lSome cSome kSome
  have bSome := FSome.binds (ps := ["_law_bag", "_law_items", "_law_sides"]) fun _ _ _ _ _ _ us hl => match us, hl with | [_, _, _], _ => rfl
  have mLike := PySem.W.mg_of X G aLike
  have FLike := fun_mk (st := sLike) lLike cLike kLike
  have bLike := FLike.binds (ps := ["_law_a", "_law_b"]) fun _ _ _ _ _ _ us hl => match us, hl with | [_, _], _ => rfl
  have mFld := PySem.W.mg_of X G aFld
  have FFld := fun_mk (st := sFld) lFld cFld kFld
  have bFld := FFld.binds (ps := ["_law_e"]) fun _ _ _ _ _ _ us hl => match us, hl with | [_], _ => rfl
  have mTry := PySem.W.mg_of X G aTry
  have FTry := fun_mk (st := sTry) lTry cTry kTry
  have bTry := FTry.binds (ps := ["_law_ask"]) fun _ _ _ _ _ _ us hl => match us, hl with | [_], _ => rfl
  have mLNum := PySem.W.mg_of X G aLNum
  have FLNum := fun_mk (st := sLNum) lLNum cLNum kLNum
  have bLNum := FLNum.binds (ps := ["_law_item", "_law_low", "_law_high"]) fun _ _ _ _ _ _ us hl => match us, hl with | [_, _, _], _ => rfl
  have mLWh := PySem.W.mg_of X G aLWh
  have FLWh := fun_mk (st := sLWh) lLWh cLWh kLWh
  have bLWh := FLWh.binds (ps := ["_law_item"]) fun _ _ _ _ _ _ us hl => match us, hl with | [_], _ => rfl
  have mLVec := PySem.W.mg_of X G aLVec
  have FLVec := fun_mk (st := sLVec) lLVec cLVec kLVec
  have bLVec := FLVec.binds (ps := ["_law_item", "_law_wide"]) fun _ _ _ _ _ _ us hl => match us, hl with | [_, _], _ => rfl
  have mVF := PySem.W.mg_of X G aVF
  have FVF := fun_mk (st := sVF) lVF cVF kVF
  have bVF := FVF.binds (ps := ["_law_given", "_law_wide"]) fun _ _ _ _ _ _ us hl => match us, hl with | [_, _], _ => rfl
  have mDot := PySem.W.mg_of X G aDot
  have FDot := fun_mk (st := sDot) lDot cDot kDot
  have bDot := FDot.binds (ps := ["_law_one", "_law_other"]) fun _ _ _ _ _ _ us hl => match us, hl with | [_, _], _ => rfl
  have mWO := PySem.W.mg_of X G aWO
  have FWO := fun_mk (st := sWO) lWO cWO kWO
  have bWO := FWO.binds (ps := ["_law_item", "_law_given", "_law_wide"]) fun _ _ _ _ _ _ us hl => match us, hl with | [_, _, _], _ => rfl
  have mCO := PySem.W.mg_of X G aCO
  have FCO := fun_mk (st := sCO) lCO cCO kCO
  have bCO := FCO.binds (ps := ["_law_item", "_law_given", "_law_wide"]) fun _ _ _ _ _ _ us hl => match us, hl with | [_, _, _], _ => rfl
  have mVct := PySem.W.mg_of X G aVct
  have FVct := fun_mk (st := sVct) lVct cVct kVct
  have bVct := FVct.binds (ps := ["_law_bag", "_law_wide"]) fun _ _ _ _ _ _ us hl => match us, hl with | [_, _], _ => rfl
  have mLess := PySem.W.mg_of X G aLess
  have FLess := fun_mk (st := sLess) lLess cLess kLess
  have bLess := FLess.binds (ps := ["_law_one"]) fun _ _ _ _ _ _ us hl => match us, hl with | [_], _ => rfl
  have mTS := PySem.W.mg_of X G aTS
  have FTS := fun_mk (st := sTS) lTS cTS kTS
  have bTS := FTS.binds (ps := ["_law_told", "_law_given", "_law_wide"]) fun _ _ _ _ _ _ us hl => match us, hl with | [_, _, _], _ => rfl
  have mHid := PySem.W.mg_of X G aHid
  have FHid := fun_mk (st := sHid) lHid cHid kHid
  have bHid := FHid.binds (ps := ["_law_bag", "_law_given", "_law_wide"]) fun _ _ _ _ _ _ us hl => match us, hl with | [_, _, _], _ => rfl
  have mAl := PySem.W.mg_of X G aAl
  have FAl := fun_mk (st := sAl) lAl cAl kAl
  have bAl := FAl.binds (ps := ["_law_bag", "_law_told", "_law_given", "_law_wide"]) fun _ _ _ _ _ _ us hl => match us, hl with | [_, _, _, _], _ => rfl
  have mRf := PySem.W.mg_of X G aRf
  have FRf := fun_mk (st := sRf) lRf cRf kRf
  have bRf := FRf.binds (ps := ["_law_bag", "_law_given", "_law_wide"]) fun _ _ _ _ _ _ us hl => match us, hl with | [_, _, _], _ => rfl
  have mLs := PySem.W.mg_of X G aLs
  have FLs := fun_mk (st := sLs) lLs cLs kLs
  have bLs := FLs.binds (ps := ["_law_bag"]) fun _ _ _ _ _ _ us hl => match us, hl with | [_], _ => rfl
  have mLw := PySem.W.mg_of X G aLw
  have FLw := fun_mk (st := sLw) lLw cLw kLw
  have FIN := fun_mk (st := sIN) iLN iCN iKN
  have bIN := FIN.binds (ps := ["self", "value"]) fun _ _ _ _ _ _ us hl => match us, hl with | [_, _], _ => rfl
  have EN : ErrC K CN fIN "value" := ⟨⟨⟨nmN, qN, NN, bsN, bmN, snN, subN, abN, colN, ddN, m0N, m1N, m2N, m3N, m5N, xCN, rCN⟩, saN, exN, tyN, kCN⟩, iIN, iTN, ncN, nfN⟩
  have FIV := fun_mk (st := sIV) iLV iCV iKV
  have bIV := FIV.binds (ps := ["self", "at"]) fun _ _ _ _ _ _ us hl => match us, hl with | [_, _], _ => rfl
  have EV : ErrC K CV fIV "at" := ⟨⟨⟨nmV, qV, NV, bsV, bmV, snV, subV, abV, colV, ddV, m0V, m1V, m2V, m3V, m5V, xCV, rCV⟩, saV, exV, tyV, kCV⟩, iIV, iTV, ncV, nfV⟩
  have FIM := fun_mk (st := sIM) iLM iCM iKM
  have bIM := FIM.binds (ps := ["self", "most"]) fun _ _ _ _ _ _ us hl => match us, hl with | [_, _], _ => rfl
  have EM : ErrC K CM fIM "most" := ⟨⟨⟨nmM, qM, NM, bsM, bmM, snM, subM, abM, colM, ddM, m0M, m1M, m2M, m3M, m5M, xCM, rCM⟩, saM, exM, tyM, kCM⟩, iIM, iTM, ncM, nfM⟩
  have nChk : KBn K (PySem.W.fnOf "check_vectors" "check_vectors" (defArgs sChk) (defBody sChk) (defScope sChk) .none kVChk dcChk pmChk anChk cdChk ctChk) ["vectors", "width"] 1 ["width"] (fun us ws => us ++ ws) (fun vs zs => vs ++ zs) :=
    ⟨fun s us ws _ l1 l2 => match us, ws, l1, l2 with | [_], [_], _, _ => .of_eq rfl, fun r1 r2 => r1.append r2⟩
  have nWg : KBn K (PySem.W.fnOf "weigh" "weigh" (defArgs sWg) (defBody sWg) (defScope sWg) .none kVWg dcWg pmWg anWg cdWg ctWg) ["vectors", "width"] 1 ["width"] (fun us ws => us ++ ws) (fun vs zs => vs ++ zs) :=
    ⟨fun s us ws _ l1 l2 => match us, ws, l1, l2 with | [_], [_], _, _ => .of_eq rfl, fun r1 r2 => r1.append r2⟩
  have nWg0 : KBn K (PySem.W.fnOf "weigh" "weigh" (defArgs sWg) (defBody sWg) (defScope sWg) .none kVWg dcWg pmWg anWg cdWg ctWg) ["vectors", "width"] 0 ["vectors", "width"] (fun us ws => us ++ ws) (fun vs zs => vs ++ zs) :=
    ⟨fun s us ws _ l1 l2 => match us, ws, l1, l2 with | [], [_, _], _, _ => .of_eq rfl, fun r1 r2 => r1.append r2⟩
  have hFT : FldT K ⟨CN, CV, CM⟩ [.ref A1, .ref A2, .ref A3] := by
    refine ⟨fun f => ?_, fun f => ?_, fun f => ?_, fun f => ?_⟩
    · cases f
      · exact ⟨gaN, ggN, exN, hdN⟩
      · exact ⟨gaV, ggV, exV, hdV⟩
      · exact ⟨gaM, ggM, exM, hdM⟩
    · cases f
      · exact ncN
      · exact ncV
      · exact ncM
    · cases f
      · exact nfN
      · exact nfV
      · exact nfM
    · cases f
      · exact exm3 (exm_of eA1 iA1 tA1 sN1) (exm_of eA2 iA2 tA2 sN2) (exm_of eA3 iA3 tA3 sN3)
      · exact exm3 (exm_of eA1 iA1 tA1 sV1) (exm_of eA2 iA2 tA2 sV2) (exm_of eA3 iA3 tA3 sV3)
      · exact exm3 (exm_of eA1 iA1 tA1 sM1) (exm_of eA2 iA2 tA2 sM2) (exm_of eA3 iA3 tA3 sM3)
  refine ⟨cR, Pt, _, tab_in (n2 := 0) aRf lRf lT hT, nT, fun s u => (show BindsTo s (PySem.W.fnOf "law" "law" (defArgs sLw) (defBody sLw) (defScope sLw) .none kVLw dcLw pmLw anLw cdLw ctLw) ⟨[u], []⟩ [("_law_script", u)] from .of_eq rfl), fun base _ _ TB => ?_⟩
  have ER : ErrT K mg P w base ⟨CN, CV, CM⟩ := ⟨⟨fIN, _, EN, PySem.W.mg_of X G aCN, ok_iN FIN, bIN⟩, ⟨fIV, _, EV, PySem.W.mg_of X G aCV, ok_iV FIV, bIV⟩, ⟨fIM, _, EM, PySem.W.mg_of X G aCM, ok_iM FIM, bIM⟩⟩
  have dNum : Df P w K mg base 1 "is_number" ["value", "least", "most"] spNum := ⟨_, _, ok_num FNum T, mNum, kNum, bNum⟩
  have dWhole : Df P w K mg base 1 "is_whole" ["value"] spWhole := ⟨_, _, ok_whole FWhole T, mWhole, kWhole, bWhole⟩
  have dVec : Df P w K mg base 2 "is_vector" ["value", "width"] spVec := ⟨_, _, ok_vec FVec T dWhole, mVec, kVec, bVec⟩
  have WD : WgD P w K mg base ⟨CN, CV, CM⟩ := ⟨⟨_, _, ok_chk FChk T ER dNum dVec, mChk, kChk, nChk⟩, ⟨_, _, ok_tab FTab T, mTab, kTab, bTab⟩, ⟨_, _, ok_abv FAbv T, mAbv, kAbv, bAbv⟩, ⟨_, _, ok_lv FLv T, mLv, kLv, bLv⟩, ⟨_, _, ok_red FRed T, mRed, kRed, bRed⟩, ⟨_, _, ok_ray FRay T, mRay, kRay, bRay⟩⟩
  have W : WgF P w K mg base ⟨CN, CV, CM⟩ := ⟨_, _, ok_weigh FWg T WD, mWg, kWg, nWg, nWg0⟩
  have dPull : Df P w K mg base 1 "_law_pull" ["_law_bag", "_law_sides"] spPull := ⟨_, _, ok_pull FPull T, mPull, kPull, bPull⟩
  have dAny : Df P w K mg base 2 "_law_any" ["_law_bag", "_law_items"] spAny := ⟨_, _, ok_any FAny T dPull, mAny, kAny, bAny⟩
  have dMix : Df P w K mg base 2 "_law_mixed" ["_law_bag", "_law_items"] spMix := ⟨_, _, ok_mix FMix T dPull, mMix, kMix, bMix⟩
  have dSome : Df P w K mg base 2 "_law_some" ["_law_bag", "_law_items", "_law_sides"] spSome := ⟨_, _, ok_some FSome T dPull, mSome, kSome, bSome⟩
  have dVct : Df P w K mg base 3 "_law_vector" ["_law_bag", "_law_wide"] spVct := ⟨_, _, ok_vct FVct T dPull dAny, mVct, kVct, bVct⟩
  have dDot : Df P w K mg base 1 "_law_dot" ["_law_one", "_law_other"] spDot := ⟨_, _, ok_dot FDot T, mDot, kDot, bDot⟩
  have dLess : Df P w K mg base 1 "_law_less" ["_law_one"] spLess := ⟨_, _, ok_less FLess T, mLess, kLess, bLess⟩
  have dHid : Df P w K mg base 3 "_law_hidden" ["_law_bag", "_law_given", "_law_wide"] spHid := ⟨_, _, ok_hid FHid T dPull dDot dLess, mHid, kHid, bHid⟩
  have dLNum : Df P w K mg base 1 "_law_is_number" ["_law_item", "_law_low", "_law_high"] spNum := ⟨_, _, ok_lnum FLNum T, mLNum, kLNum, bLNum⟩
  have dLWh : Df P w K mg base 1 "_law_is_whole" ["_law_item"] spLWh := ⟨_, _, ok_lwh FLWh T, mLWh, kLWh, bLWh⟩
  have dLVec : Df P w K mg base 2 "_law_is_vector" ["_law_item", "_law_wide"] spLVec := ⟨_, _, ok_lvec FLVec T dLNum, mLVec, kLVec, bLVec⟩
  have dVF : Df P w K mg base 3 "_law_vectors_fault" ["_law_given", "_law_wide"] spVF := ⟨_, _, ok_vf FVF T dLNum dLVec, mVF, kVF, bVF⟩
  have dWO : Df P w K mg base 2 "_law_weights_of" ["_law_item", "_law_given", "_law_wide"] spWO := ⟨_, _, ok_wo FWO T dLWh dDot, mWO, kWO, bWO⟩
  have dCO : Df P w K mg base 2 "_law_counters" ["_law_item", "_law_given", "_law_wide"] spCO := ⟨_, _, ok_co FCO T dLWh, mCO, kCO, bCO⟩
  have dTS : Df P w K mg base 3 "_law_told_so" ["_law_told", "_law_given", "_law_wide"] spTS := ⟨_, _, ok_ts FTS T dWO dCO, mTS, kTS, bTS⟩
  have dLike : Df P w K mg base 3 "_law_like" ["_law_a", "_law_b"] (spLike 2) := ⟨_, _, ok_like FLike T mLike kLike bLike 2, mLike, kLike, bLike⟩
  have dDr : Df P w K mg base 1 "_law_draws" ["_law_script"] (spDr (K := K)) := ⟨_, _, ok_dr FDr T, mDr, kDr, bDr⟩
  have dAl : Df P w K mg base 5 "_law_alike_so" ["_law_bag", "_law_told", "_law_given", "_law_wide"] spAl := ⟨_, _, ok_al FAl T W dPull dMix dSome, mAl, kAl, bAl⟩
  have R : RfD P w K mg base ⟨CN, CV, CM⟩ := ⟨dPull, dAny, dVF, dLike, dTS, W, ⟨_, _, ok_fld FFld hFT, mFld, kFld, bFld⟩, ⟨_, _, FTry, mTry, kTry, bTry⟩, ⟨.ref A1, .ref A2, .ref A3, hFT, PySem.W.mg_of X G aA1, PySem.W.mg_of X G aA2, PySem.W.mg_of X G aA3⟩⟩
  have dRf : DfG P w K mg base 7 "_law_refused_so" ["_law_bag", "_law_given", "_law_wide"] (spRf Pt) := ⟨_, _, ok_rf lRf cRf T R TB, mRf, kRf, bRf⟩
  have LS : LsD P w K mg base ⟨CN, CV, CM⟩ Pt := ⟨R, dVct, dHid, dAl, dRf⟩
  have dLs : DfG P w K mg base 8 "_law_list_so" ["_law_bag"] (spLs Pt) := ⟨_, _, ok_ls FLs T LS, mLs, kLs, bLs⟩
  exact ok_lw FLw T ⟨LS, dDr, dLess, dLs⟩
end K69

/-! ## K21 -/
open PySem PySem.W PyProof.Rows
set_option maxRecDepth 100000 in
set_option maxHeartbeats 0 in
theorem PySem.Challenge.cw_firstdecides_k69_whole_weights_or_counte_holds : PySem.Challenge.rw_firstdecides_k69_whole_weights_or_counte.Holds := by
  w_on; o_law; k_head; (case hw => w_witness2)
  k_fill
  refine' K69.walkL (dr := ?dr) (l := PySem.Challenge.rw_firstdecides_k69_whole_weights_or_counte) rfl rfl (fun w h Y => PySem.W.km_in_of Y) ?R ?F
  case R => exact rfl
  case F =>
    intro w mg fa h KX G hmg
    refine' K69.all_mk KX G hmg ?aNum ?lNum ?cNum ?kNum ?aWhole ?lWhole ?cWhole ?kWhole ?aVec ?lVec ?cVec ?kVec ?aChk ?lChk ?cChk ?kChk ?aTab ?lTab ?cTab ?kTab ?aAbv ?lAbv ?cAbv ?kAbv ?aLv ?lLv ?cLv ?kLv ?aRed ?lRed ?cRed ?kRed ?aRay ?lRay ?cRay ?kRay ?aWg ?lWg ?cWg ?kWg ?aDr ?lDr ?cDr ?kDr ?aPull ?lPull ?cPull ?kPull ?aAny ?lAny ?cAny ?kAny ?aMix ?lMix ?cMix ?kMix ?aSome ?lSome ?cSome ?kSome ?aLike ?lLike ?cLike ?kLike ?aFld ?lFld ?cFld ?kFld ?aTry ?lTry ?cTry ?kTry ?aLNum ?lLNum ?cLNum ?kLNum ?aLWh ?lLWh ?cLWh ?kLWh ?aLVec ?lLVec ?cLVec ?kLVec ?aVF ?lVF ?cVF ?kVF ?aDot ?lDot ?cDot ?kDot ?aWO ?lWO ?cWO ?kWO ?aCO ?lCO ?cCO ?kCO ?aVct ?lVct ?cVct ?kVct ?aLess ?lLess ?cLess ?kLess ?aTS ?lTS ?cTS ?kTS ?aHid ?lHid ?cHid ?kHid ?aAl ?lAl ?cAl ?kAl ?aRf ?lRf ?cRf ?kRf ?aLs ?lLs ?cLs ?kLs ?aLw ?lLw ?cLw ?kLw ?lT ?hT ?nT ?aCN ?xCN ?rCN ?saN ?gaN ?ggN ?exN ?tyN ?kCN ?hdN ?ncN ?nfN ?iIN ?iTN ?iLN ?iCN ?iKN ?aCV ?xCV ?rCV ?saV ?gaV ?ggV ?exV ?tyV ?kCV ?hdV ?ncV ?nfV ?iIV ?iTV ?iLV ?iCV ?iKV ?aCM ?xCM ?rCM ?saM ?gaM ?ggM ?exM ?tyM ?kCM ?hdM ?ncM ?nfM ?iIM ?iTM ?iLM ?iCM ?iKM ?aA1 ?eA1 ?iA1 ?tA1 ?sN1 ?sV1 ?sM1 ?aA2 ?eA2 ?iA2 ?tA2 ?sN2 ?sV2 ?sM2 ?aA3 ?eA3 ?iA3 ?tA3 ?sN3 ?sV3 ?sM3 ?z_isinstance ?z_int ?z_bool ?z_tuple ?z_list ?z_dict ?z_str ?z_len ?z_all ?z_any ?z_range ?z_enumerate ?z_zip ?z_sum ?z_max ?z_min ?z_repr
    (case aNum => k_is); (case lNum => k_is); (case cNum => k_is); (case kNum => k_is); (case aWhole => k_is); (case lWhole => k_is)
    (case cWhole => k_is); (case kWhole => k_is); (case aVec => k_is); (case lVec => k_is); (case cVec => k_is); (case kVec => k_is)
    (case aChk => k_is); (case lChk => k_is); (case cChk => k_is); (case kChk => k_is); (case aTab => k_is); (case lTab => k_is)
    (case cTab => k_is); (case kTab => k_is); (case aAbv => k_is); (case lAbv => k_is); (case cAbv => k_is); (case kAbv => k_is)
    (case aLv => k_is); (case lLv => k_is); (case cLv => k_is); (case kLv => k_is); (case aRed => k_is); (case lRed => k_is)
    (case cRed => k_is); (case kRed => k_is); (case aRay => k_is); (case lRay => k_is); (case cRay => k_is); (case kRay => k_is)
    (case aWg => k_is); (case lWg => k_is); (case cWg => k_is); (case kWg => k_is); (case aDr => k_is); (case lDr => k_is)
    (case cDr => k_is); (case kDr => k_is); (case aPull => k_is); (case lPull => k_is); (case cPull => k_is); (case kPull => k_is)
    (case aAny => k_is); (case lAny => k_is); (case cAny => k_is); (case kAny => k_is); (case aMix => k_is); (case lMix => k_is)
    (case cMix => k_is); (case kMix => k_is); (case aSome => k_is); (case lSome => k_is); (case cSome => k_is); (case kSome => k_is)
    (case aLike => k_is); (case lLike => k_is); (case cLike => k_is); (case kLike => k_is); (case aFld => k_is); (case lFld => k_is)
    (case cFld => k_is); (case kFld => k_is); (case aTry => k_is); (case lTry => k_is); (case cTry => k_is); (case kTry => k_is)
    (case aLNum => k_is); (case lLNum => k_is); (case cLNum => k_is); (case kLNum => k_is); (case aLWh => k_is); (case lLWh => k_is)
    (case cLWh => k_is); (case kLWh => k_is); (case aLVec => k_is); (case lLVec => k_is); (case cLVec => k_is); (case kLVec => k_is)
    (case aVF => k_is); (case lVF => k_is); (case cVF => k_is); (case kVF => k_is); (case aDot => k_is); (case lDot => k_is)
    (case cDot => k_is); (case kDot => k_is); (case aWO => k_is); (case lWO => k_is); (case cWO => k_is); (case kWO => k_is)
    (case aCO => k_is); (case lCO => k_is); (case cCO => k_is); (case kCO => k_is); (case aVct => k_is); (case lVct => k_is)
    (case cVct => k_is); (case kVct => k_is); (case aLess => k_is); (case lLess => k_is); (case cLess => k_is); (case kLess => k_is)
    (case aTS => k_is); (case lTS => k_is); (case cTS => k_is); (case kTS => k_is); (case aHid => k_is); (case lHid => k_is)
    (case cHid => k_is); (case kHid => k_is); (case aAl => k_is); (case lAl => k_is); (case cAl => k_is); (case kAl => k_is)
    (case aRf => k_is); (case lRf => k_is); (case cRf => k_is); (case kRf => k_is); (case aLs => k_is); (case lLs => k_is)
    (case cLs => k_is); (case kLs => k_is); (case aLw => k_is); (case lLw => k_is); (case cLw => k_is); (case kLw => k_is)
    (case lT => k_is); (case hT => first | rfl | decide); (case nT => first | rfl | decide | kernel_rfl); (case aCN => k_is); (case xCN => k_is); (case rCN => first | rfl | decide)
    (case saN => k_is); (case gaN => k_is); (case ggN => k_is); (case exN => k_is); (case tyN => k_is); (case kCN => k_is)
    (case hdN => k_is); (case ncN => k_is); (case nfN => k_is); (case iIN => k_is); (case iTN => k_is); (case iLN => k_is)
    (case iCN => k_is); (case iKN => k_is); (case aCV => k_is); (case xCV => k_is); (case rCV => first | rfl | decide); (case saV => k_is)
    (case gaV => k_is); (case ggV => k_is); (case exV => k_is); (case tyV => k_is); (case kCV => k_is); (case hdV => k_is)
    (case ncV => k_is); (case nfV => k_is); (case iIV => k_is); (case iTV => k_is); (case iLV => k_is); (case iCV => k_is)
    (case iKV => k_is); (case aCM => k_is); (case xCM => k_is); (case rCM => first | rfl | decide); (case saM => k_is); (case gaM => k_is)
    (case ggM => k_is); (case exM => k_is); (case tyM => k_is); (case kCM => k_is); (case hdM => k_is); (case ncM => k_is)
    (case nfM => k_is); (case iIM => k_is); (case iTM => k_is); (case iLM => k_is); (case iCM => k_is); (case iKM => k_is)
    (case aA1 => k_is); (case eA1 => k_is); (case iA1 => k_is); (case tA1 => k_is); (case sN1 => k_is); (case sV1 => k_is)
    (case sM1 => k_is); (case aA2 => k_is); (case eA2 => k_is); (case iA2 => k_is); (case tA2 => k_is); (case sN2 => k_is)
    (case sV2 => k_is); (case sM2 => k_is); (case aA3 => k_is); (case eA3 => k_is); (case iA3 => k_is); (case tA3 => k_is)
    (case sN3 => k_is); (case sV3 => k_is); (case sM3 => k_is); (case z_isinstance => k_is); (case z_int => k_is); (case z_bool => k_is)
    (case z_tuple => k_is); (case z_list => k_is); (case z_dict => k_is); (case z_str => k_is); (case z_len => k_is); (case z_all => k_is)
    (case z_any => k_is); (case z_range => k_is); (case z_enumerate => k_is); (case z_zip => k_is); (case z_sum => k_is); (case z_max => k_is)
    (case z_min => k_is); (case z_repr => k_is)
