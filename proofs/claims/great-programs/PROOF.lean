import PyProof.Rows.All
import HandS.Wide
import Wide.All
import OpenK.AllK
import Wide.FinOn
import HandS.ForMost
import HandS.Evl
import HandS.Zip
import HandS.IsInst
import HandS.Conv
import HandS.Flow
import HandS.TupLe
import HandS.TupAny
import HandS.TupMul
import HandS.Defaults
import HandS.WordsExc
import HandS.SetFor
import HandS.Strs
import HandS.HeadHook1
import HandS.HeadHook2
import PySem.Challenge.RW_turnsneeded_k37_whole_great_programs
import KE.GoesEnum
import KE.GoesMore
import HandS.TupSets
import KE.KDictKeyed
import KE.SortData
import HandS.Sort
import KE.DataCmp
import HandS.Words
import HandS.Head0
import HandS.Head1
import HandS.Head2
import HandS.HeadEnd
import HandS.HeadHook3
import HandS.HeadHook4
set_option Elab.async false
set_option linter.all false
set_option maxRecDepth 100000
set_option maxHeartbeats 4000000
namespace TN

/-! sums over 0..n-1 -/
def S : Nat → (Nat → Int) → Int
  | 0, _ => 0
  | n + 1, f => S n f + f n
theorem S_congr {n : Nat} {f g : Nat → Int} (h : ∀ i, i < n → f i = g i) : S n f = S n g := by
  induction n with
  | zero => rfl
  | succ n ih =>
    show S n f + f n = S n g + g n
    rw [ih fun i hi => h i (by omega), h n (by omega)]
theorem S_zero {n : Nat} {f : Nat → Int} (h : ∀ i, i < n → f i = 0) : S n f = 0 := by
  induction n with
  | zero => rfl
  | succ n ih =>
    show S n f + f n = 0
    rw [ih fun i hi => h i (by omega), h n (by omega)]; rfl
theorem S_add (n : Nat) (f g : Nat → Int) : S n (fun i => f i + g i) = S n f + S n g := by
  induction n with
  | zero => rfl
  | succ n ih => show S n _ + (f n + g n) = (S n f + f n) + (S n g + g n); rw [ih]; omega
theorem S_sub (n : Nat) (f g : Nat → Int) : S n (fun i => f i - g i) = S n f - S n g := by
  induction n with
  | zero => rfl
  | succ n ih => show S n _ + (f n - g n) = (S n f + f n) - (S n g + g n); rw [ih]; omega
theorem S_mul (n : Nat) (c : Int) (f : Nat → Int) : S n (fun i => c * f i) = c * S n f := by
  induction n with
  | zero => show (0 : Int) = c * 0; rw [Int.mul_zero]
  | succ n ih => show S n _ + _ = c * (S n f + f n); rw [ih, Int.mul_add]
theorem S_neg (n : Nat) (f : Nat → Int) : S n (fun i => - f i) = - S n f := by
  induction n with
  | zero => rfl
  | succ n ih => show S n _ + - f n = - (S n f + f n); rw [ih]; omega
theorem S_mulR (n : Nat) (c : Int) (f : Nat → Int) : S n (fun i => f i * c) = S n f * c := by
  rw [Int.mul_comm, ← S_mul]; exact S_congr fun i _ => Int.mul_comm _ _
theorem S_swap (n m : Nat) (f : Nat → Nat → Int) : S n (fun i => S m (fun j => f i j)) = S m (fun j => S n (fun i => f i j)) := by
  induction n with
  | zero => exact (S_zero fun _ _ => rfl).symm
  | succ n ih =>
    show S n _ + S m _ = _
    rw [ih, ← S_add]
    rfl
theorem S_only {n : Nat} {f : Nat → Int} (r : Nat) (hr : r < n) (h : ∀ i, i < n → i ≠ r → f i = 0) : S n f = f r := by
  induction n with
  | zero => omega
  | succ n ih =>
    show S n f + f n = f r
    by_cases e : r = n
    · subst e
      rw [S_zero fun i hi => h i (by omega) (by omega)]; omega
    · rw [ih (by omega) fun i hi => h i (by omega), h n (by omega) (by omega)]; omega
theorem S_two {n : Nat} {f : Nat → Int} (r q : Nat) (hr : r < n) (hq : q < n) (hrq : r ≠ q) (h : ∀ i, i < n → i ≠ r → i ≠ q → f i = 0) : S n f = f r + f q := by
  have e : S n f = S n (fun i => (if i = r then f r else 0) + (if i = q then f q else 0)) := S_congr fun i hi => by
    by_cases h1 : i = r
    · subst h1; simp [hrq]
    · by_cases h2 : i = q
      · subst h2; simp [h1]
      · simp [h1, h2, h i hi h1 h2]
  rw [e, S_add, S_only r hr (fun i _ hi => by simp [hi]), S_only q hq (fun i _ hi => by simp [hi])]; simp
theorem S_nonneg {n : Nat} {f : Nat → Int} (h : ∀ i, i < n → 0 ≤ f i) : 0 ≤ S n f := by
  induction n with
  | zero => exact Int.le_refl 0
  | succ n ih =>
    show 0 ≤ S n f + f n
    have := ih fun i hi => h i (by omega)
    have := h n (by omega)
    omega
theorem S_le {n : Nat} {f g : Nat → Int} (h : ∀ i, i < n → f i ≤ g i) : S n f ≤ S n g := by
  induction n with
  | zero => exact Int.le_refl 0
  | succ n ih =>
    show S n f + f n ≤ S n g + g n
    have := ih fun i hi => h i (by omega)
    have := h n (by omega)
    omega
theorem S_zero_of {n : Nat} {f : Nat → Int} (h : ∀ i, i < n → 0 ≤ f i) (e : S n f = 0) : ∀ i, i < n → f i = 0 := by
  induction n with
  | zero => intro i hi; omega
  | succ n ih =>
    intro i hi
    have e : S n f + f n = 0 := e
    have h1 := S_nonneg (n := n) fun i hi => h i (by omega)
    have h2 := h n (by omega)
    by_cases hn : i = n
    · subst hn; omega
    · exact ih (fun i hi => h i (by omega)) (by omega) i (by omega)
theorem S_pos {n : Nat} {f : Nat → Int} (h : 0 < S n f) : ∃ i, i < n ∧ 0 < f i := by
  induction n with
  | zero => exact absurd h (by show ¬ (0 : Int) < 0; omega)
  | succ n ih =>
    have h : 0 < S n f + f n := h
    by_cases h1 : 0 < f n
    · exact ⟨n, by omega, h1⟩
    · obtain ⟨i, hi, hp⟩ := ih (by omega)
      exact ⟨i, by omega, hp⟩
theorem S_const (n : Nat) (c : Int) : S n (fun _ => c) = n * c := by
  induction n with
  | zero => show (0 : Int) = _; simp
  | succ n ih => show S n _ + c = _; rw [ih]; push_cast; rw [Int.add_mul]; omega
theorem S_split (n m : Nat) (f : Nat → Int) : S (n + m) f = S n f + S m (fun i => f (n + i)) := by
  induction m with
  | zero => show S n f = S n f + 0; omega
  | succ m ih => show S (n + m) f + f (n + m) = S n f + (S m _ + f (n + m)); rw [ih]; omega
theorem S_abs {n : Nat} {f : Nat → Int} {b : Nat} (h : ∀ i, i < n → (f i).natAbs ≤ b) : (S n f).natAbs ≤ n * b := by
  induction n with
  | zero => show (0 : Int).natAbs ≤ _; simp
  | succ n ih =>
    have h1 := ih fun i hi => h i (by omega)
    have h2 := h n (by omega)
    have h3 : (S n f + f n).natAbs ≤ (S n f).natAbs + (f n).natAbs := Int.natAbs_add_le _ _
    show (S n f + f n).natAbs ≤ (n + 1) * b
    rw [Nat.add_mul]; omega

/-! a multilinear alternating form -/
def skip (i j : Nat) : Nat := if j < i then j else j + 1
def sg (i : Nat) : Int := if i % 2 = 0 then 1 else -1
def det : Nat → (Nat → Nat → Int) → Int
  | 0, _ => 1
  | k + 1, J => S (k + 1) fun i => sg (i + k) * (J i k * det k (fun j => J (skip i j)))
def put {α : Type} (J : Nat → α) (s : Nat) (v : α) : Nat → α := fun j => if j = s then v else J j
theorem put_same {α : Type} (J : Nat → α) (s : Nat) (v : α) : put J s v s = v := if_pos rfl
theorem put_ne {α : Type} (J : Nat → α) {s j : Nat} (v : α) (h : j ≠ s) : put J s v j = J j := if_neg h
theorem put_put {α : Type} (J : Nat → α) (s : Nat) (u v : α) : put (put J s u) s v = put J s v := by
  funext j; unfold put; by_cases h : j = s <;> simp [h]
theorem put_self {α : Type} (J : Nat → α) (s : Nat) : put J s (J s) = J := by
  funext j; unfold put; by_cases h : j = s <;> simp [h]
theorem put_comm {α : Type} (J : Nat → α) {s t : Nat} (u v : α) (h : s ≠ t) : put (put J s u) t v = put (put J t v) s u := by
  funext j; unfold put
  by_cases h1 : j = s
  · subst h1; simp [h]
  · by_cases h2 : j = t
    · subst h2; simp [h1]
    · simp [h1, h2]
theorem det_congr : ∀ (k : Nat) {J K : Nat → Nat → Int}, (∀ i, i < k → ∀ x, x < k → J i x = K i x) → det k J = det k K
  | 0, _, _, _ => rfl
  | k + 1, J, K, h => by
    refine S_congr fun i hi => ?_
    rw [h i hi k (by omega), det_congr k (J := fun j => J (skip i j)) (K := fun j => K (skip i j)) fun j hj x hx => h _ (by unfold skip; split <;> omega) x (by omega)]
theorem skip_put_self (J : Nat → Nat → Int) (s : Nat) (v : Nat → Int) : (fun j => put J s v (skip s j)) = fun j => J (skip s j) := by
  funext j
  exact put_ne J v (by unfold skip; split <;> omega)
theorem skip_put_ne (J : Nat → Nat → Int) {i s : Nat} (v : Nat → Int) (h : i ≠ s) : (fun j => put J s v (skip i j)) = put (fun j => J (skip i j)) (if s < i then s else s - 1) v := by
  funext j
  unfold put skip
  by_cases h1 : s < i
  · by_cases h2 : j < i
    · simp [h1, h2]
    · have e1 : ¬ (j + 1 = s) := by omega
      have e2 : ¬ (j = s) := by omega
      simp [h1, h2, e1, e2]
  · by_cases h2 : j < i
    · have e1 : ¬ (j = s) := by omega
      have e2 : ¬ (j = s - 1) := by omega
      simp [h1, h2, e1, e2]
    · by_cases e : j + 1 = s
      · have e2 : j = s - 1 := by omega
        simp only [h1, h2, e, if_false, if_true]
        rw [if_pos e2]
      · have e2 : ¬ (j = s - 1) := by omega
        simp [h1, h2, e, e2]
theorem det_lin : ∀ (k : Nat) (J : Nat → Nat → Int) (s : Nat), s < k → ∀ (a : Int) (u v : Nat → Int),
    det k (put J s fun x => a * u x + v x) = a * det k (put J s u) + det k (put J s v)
  | 0, _, _, h, _, _, _ => absurd h (Nat.not_lt_zero _)
  | k + 1, J, s, h, a, u, v => by
    show S (k + 1) _ = a * S (k + 1) _ + S (k + 1) _
    rw [← S_mul, ← S_add]
    refine S_congr fun i hi => ?_
    by_cases e : i = s
    · subst e
      rw [skip_put_self, skip_put_self, skip_put_self, put_same, put_same, put_same]
      grind
    · rw [skip_put_ne _ _ e, skip_put_ne _ _ e, skip_put_ne _ _ e, put_ne _ _ e, put_ne _ _ e, put_ne _ _ e,
        det_lin k _ _ (by split <;> omega) a u v]
      grind
theorem det_adj : ∀ (k : Nat) (J : Nat → Nat → Int) (p : Nat), p + 1 < k → J p = J (p + 1) → det k J = 0
  | 0, _, _, h, _ => absurd h (Nat.not_lt_zero _)
  | k + 1, J, p, h, e => by
    show S (k + 1) _ = 0
    rw [S_two p (p + 1) (by omega) (by omega) (by omega) fun i hi h1 h2 => ?_]
    · have e1 : (fun j => J (skip p j)) = fun j => J (skip (p + 1) j) := by
        funext j
        unfold skip
        by_cases h1 : j < p
        · simp [h1, show j < p + 1 by omega]
        · by_cases h2 : j = p
          · subst h2; simp [e]
          · simp [h1, show ¬ j < p + 1 by omega]
      have e2 : sg (p + 1 + k) = - sg (p + k) := by
        unfold sg
        rcases Nat.mod_two_eq_zero_or_one (p + k) with h | h
        · have : (p + 1 + k) % 2 = 1 := by omega
          simp [h, this]
        · have : (p + 1 + k) % 2 = 0 := by omega
          simp [h, this]
      rw [e1, e2, e]
      grind
    · have z : det k (fun j => J (skip i j)) = 0 := by
        by_cases h3 : i < p
        · refine det_adj k _ (p - 1) (by omega) ?_
          show J (skip i (p - 1)) = J (skip i (p - 1 + 1))
          unfold skip
          rw [if_neg (by omega), if_neg (by omega), show p - 1 + 1 = p by omega]
          exact e
        · refine det_adj k _ p (by omega) ?_
          show J (skip i p) = J (skip i (p + 1))
          unfold skip
          rw [if_pos (by omega), if_pos (by omega)]
          exact e
      rw [z, Int.mul_zero, Int.mul_zero]
/-- adjacent exchange -/
theorem det_swap_adj (k : Nat) (J : Nat → Nat → Int) (p : Nat) (h : p + 1 < k) (u v : Nat → Int) : det k (put (put J p u) (p + 1) v) = - det k (put (put J p v) (p + 1) u) := by
  have lin1 : ∀ (a b c : Nat → Int), det k (put (put J p (fun x => 1 * a x + b x)) (p + 1) c) = det k (put (put J p a) (p + 1) c) + det k (put (put J p b) (p + 1) c) := fun a b c => by
    rw [put_comm _ _ _ (by omega), put_comm _ a _ (by omega), put_comm _ b _ (by omega), det_lin k _ p (by omega) 1 a b]; omega
  have lin2 : ∀ (a b c : Nat → Int), det k (put (put J p c) (p + 1) (fun x => 1 * a x + b x)) = det k (put (put J p c) (p + 1) a) + det k (put (put J p c) (p + 1) b) := fun a b c => by
    rw [det_lin k _ (p + 1) h 1 a b]; omega
  have z : ∀ (c : Nat → Int), det k (put (put J p c) (p + 1) c) = 0 := fun c => det_adj k _ p h (by rw [put_ne _ _ (by omega), put_same, put_same])
  have e := z fun x => 1 * u x + v x
  rw [lin1, lin2, lin2, z, z] at e
  omega
/-- two like vectors -/
theorem det_alt (k : Nat) : ∀ (n : Nat) (J : Nat → Nat → Int) (p q : Nat), q = p + n + 1 → q < k → J p = J q → det k J = 0
  | 0, J, p, q, hq, hk, e => by subst hq; exact det_adj k J p hk e
  | n + 1, J, p, q, hq, hk, e => by
    have h1 : J = put (put J (q - 1) (J (q - 1))) (q - 1 + 1) (J q) := by
      rw [put_self, show q - 1 + 1 = q by omega, put_self]
    rw [h1, det_swap_adj k J (q - 1) (by omega)]
    have z : det k (put (put J (q - 1) (J q)) (q - 1 + 1) (J (q - 1))) = 0 := by
      refine det_alt k n _ p (q - 1) (by omega) (by omega) ?_
      rw [put_ne _ _ (by omega), put_ne _ _ (by omega), put_ne _ _ (by omega), put_same, e]
    rw [z]; rfl
theorem det_like {k : Nat} {J : Nat → Nat → Int} {p q : Nat} (hp : p < k) (hq : q < k) (hpq : p ≠ q) (e : J p = J q) : det k J = 0 := by
  by_cases h : p < q
  · exact det_alt k (q - p - 1) J p q (by omega) hq e
  · exact det_alt k (p - q - 1) J q p (by omega) hp e.symm
/-- exchange of two vectors -/
theorem det_swap {k : Nat} (J : Nat → Nat → Int) {p q : Nat} (hp : p < k) (hq : q < k) (hpq : p ≠ q) (u v : Nat → Int) : det k (put (put J p u) q v) = - det k (put (put J p v) q u) := by
  have lin1 : ∀ (a b c : Nat → Int), det k (put (put J p (fun x => 1 * a x + b x)) q c) = det k (put (put J p a) q c) + det k (put (put J p b) q c) := fun a b c => by
    rw [put_comm _ _ _ hpq, put_comm _ a _ hpq, put_comm _ b _ hpq, det_lin k _ p hp 1 a b]; omega
  have lin2 : ∀ (a b c : Nat → Int), det k (put (put J p c) q (fun x => 1 * a x + b x)) = det k (put (put J p c) q a) + det k (put (put J p c) q b) := fun a b c => by
    rw [det_lin k _ q hq 1 a b]; omega
  have z : ∀ (c : Nat → Int), det k (put (put J p c) q c) = 0 := fun c => det_like hp hq hpq (by rw [put_ne _ _ hpq, put_same, put_same])
  have e := z fun x => 1 * u x + v x
  rw [lin1, lin2, lin2, z, z] at e
  omega
theorem det_zeroV {k : Nat} (J : Nat → Nat → Int) {s : Nat} (hs : s < k) : det k (put J s fun _ => 0) = 0 := by
  have e := det_lin k J s hs 1 (fun _ => 0) (fun _ => 0)
  have e2 : (fun (x : Nat) => (1 : Int) * (fun _ => (0 : Int)) x + (fun _ => (0 : Int)) x) = fun _ => 0 := by funext x; rfl
  rw [e2] at e
  omega
/-- many summands -/
theorem det_sum {k : Nat} (J : Nat → Nat → Int) {s : Nat} (hs : s < k) (c : Nat → Int) (v : Nat → Nat → Int) : ∀ n : Nat, det k (put J s fun x => S n fun i => c i * v i x) = S n fun i => c i * det k (put J s (v i))
  | 0 => det_zeroV J hs
  | n + 1 => by
    have e := det_lin k J s hs (c n) (v n) (fun x => S n fun i => c i * v i x)
    rw [det_sum J hs c v n] at e
    show _ = S n _ + _
    rw [Int.add_comm, ← e]
    congr 2
    funext x
    show (S n fun i => c i * v i x) + c n * v n x = c n * v n x + S n fun i => c i * v i x
    omega
theorem det_scale {k : Nat} (J : Nat → Nat → Int) {s : Nat} (hs : s < k) (a : Int) (u : Nat → Int) : det k (put J s fun x => a * u x) = a * det k (put J s u) := by
  have e := det_lin k J s hs a u (fun _ => 0)
  rw [det_zeroV J hs] at e
  simpa using e
def fac : Nat → Nat
  | 0 => 1
  | n + 1 => (n + 1) * fac n
theorem det_bound (b : Nat) : ∀ (k : Nat) (J : Nat → Nat → Int), (∀ i, i < k → ∀ x, x < k → (J i x).natAbs ≤ b) → (det k J).natAbs ≤ fac k * b ^ k
  | 0, _, _ => by show (1 : Int).natAbs ≤ 1 * 1; decide
  | k + 1, J, h => by
    show (S (k + 1) _).natAbs ≤ _
    refine Nat.le_trans (S_abs (b := b * (fac k * b ^ k)) fun i hi => ?_) ?_
    · rw [Int.natAbs_mul, Int.natAbs_mul]
      have h1 : (sg (i + k)).natAbs = 1 := by unfold sg; split <;> rfl
      have h2 := det_bound b k (fun j => J (skip i j)) fun j hj x hx => h _ (by unfold skip; split <;> omega) x (by omega)
      have h3 := h i hi k (by omega)
      rw [h1, Nat.one_mul]
      exact Nat.mul_le_mul h3 h2
    · show (k + 1) * (b * (fac k * b ^ k)) ≤ (k + 1) * fac k * (b ^ k * b)
      refine Nat.le_of_eq ?_
      grind
def unit (i : Nat) : Nat → Int := fun x => if x = i then 1 else 0
theorem det_unit : ∀ k : Nat, det k unit = 1
  | 0 => rfl
  | k + 1 => by
    show S (k + 1) _ = 1
    rw [S_only k (by omega) fun i hi h => ?_]
    · have e : (det k fun j => unit (skip k j)) = 1 := by
        rw [← det_unit k]
        refine det_congr k fun i hi x hx => ?_
        show unit (skip k i) x = unit i x
        unfold skip; rw [if_pos hi]
      have e2 : unit k k = 1 := if_pos rfl
      have e3 : sg (k + k) = 1 := by unfold sg; rw [if_pos (by omega)]
      rw [e, e2, e3]; rfl
    · have e : unit i k = 0 := if_neg (by omega)
      rw [e, Int.zero_mul, Int.mul_zero]
end TN
namespace TN

theorem S_succ2 (m : Nat) (f : Nat → Int) : S (m + 2) f = S m f + f m + f (m + 1) := rfl
/-- the column vectors of a task's rows, the two lines under them among the rows, and two units behind -/
def C (A : Nat → Nat → Int) (m W j : Nat) : Nat → Int := if j < W then fun i => A i j else unit (m + (j - W))
def Bx (m W : Nat) (B : Nat → Nat) (i : Nat) : Nat := if i < m then B i else W + (i - m)
def Jv (A : Nat → Nat → Int) (m W : Nat) (B : Nat → Nat) (i : Nat) : Nat → Int := C A m W (Bx m W B i)
def L (A : Nat → Nat → Int) (m W : Nat) (B : Nat → Nat) (e : Int) (i : Nat) (v : Nat → Int) : Int := e * det (m + 2) (put (Jv A m W B) i v)
structure GoodE (A : Nat → Nat → Int) (m W : Nat) (t : Nat → Nat → Int) (d : Int) (B : Nat → Nat) (e : Int) : Prop where
  e1 : e = 1 ∨ e = -1
  pos : 0 < d
  dd : d = e * det (m + 2) (Jv A m W B)
  tt : ∀ i, i < m + 2 → ∀ j, j < W → t i j = L A m W B e i (C A m W j)
  cr : ∀ j, j < W + 2 → ∀ x, x < m + 2 → d * C A m W j x = S (m + 2) fun i => L A m W B e i (C A m W j) * Jv A m W B i x
  bw : ∀ i, i < m → B i < W
def Good (A : Nat → Nat → Int) (m W : Nat) (t : Nat → Nat → Int) (d : Int) (B : Nat → Nat) : Prop := ∃ e, GoodE A m W t d B e
section
variable {A : Nat → Nat → Int} {m W : Nat} {t : Nat → Nat → Int} {d : Int} {B : Nat → Nat} {e : Int}
theorem C_lt {j : Nat} (h : j < W) : C A m W j = fun i => A i j := if_pos h
theorem C_m : C A m W W = unit m := by unfold C; rw [if_neg (Nat.lt_irrefl _), Nat.sub_self, Nat.add_zero]
theorem C_m1 : C A m W (W + 1) = unit (m + 1) := by unfold C; rw [if_neg (by omega), show W + 1 - W = 1 by omega]
theorem Bx_lt {i : Nat} (h : i < m) : Bx m W B i = B i := if_pos h
theorem Bx_m : Bx m W B m = W := by unfold Bx; rw [if_neg (by omega), Nat.sub_self, Nat.add_zero]
theorem Bx_m1 : Bx m W B (m + 1) = W + 1 := by unfold Bx; rw [if_neg (by omega)]; omega
theorem Jv_lt {i : Nat} (h : i < m) : Jv A m W B i = C A m W (B i) := by unfold Jv; rw [Bx_lt h]
theorem Jv_m : Jv A m W B m = unit m := by unfold Jv; rw [Bx_m, C_m]
theorem Jv_m1 : Jv A m W B (m + 1) = unit (m + 1) := by unfold Jv; rw [Bx_m1, C_m1]
theorem Jv_put {r c : Nat} (h : r < m) : Jv A m W (put B r c) = put (Jv A m W B) r (C A m W c) := by
  funext i
  by_cases hi : i = r
  · subst hi; rw [Jv_lt h, put_same, put_same]
  · rw [put_ne _ _ hi]
    unfold Jv Bx
    by_cases hm : i < m
    · rw [if_pos hm, if_pos hm, put_ne _ _ hi]
    · rw [if_neg hm, if_neg hm]
theorem L_congr {i : Nat} {v u : Nat → Int} (hi : i < m + 2) (h : ∀ x, x < m + 2 → v x = u x) : L A m W B e i v = L A m W B e i u := by
  unfold L
  congr 1
  refine det_congr _ fun k hk x hx => ?_
  by_cases hki : k = i
  · subst hki; rw [put_same, put_same]; exact h x hx
  · rw [put_ne _ _ hki, put_ne _ _ hki]
theorem L_sum {i : Nat} (hi : i < m + 2) (c : Nat → Int) (v : Nat → Nat → Int) (n : Nat) : L A m W B e i (fun x => S n fun q => c q * v q x) = S n fun q => c q * L A m W B e i (v q) := by
  unfold L
  rw [det_sum _ hi, ← S_mul]
  exact S_congr fun q _ => by rw [← Int.mul_assoc, ← Int.mul_assoc, Int.mul_comm e]
theorem L_scale {i : Nat} (hi : i < m + 2) (a : Int) (v : Nat → Int) : L A m W B e i (fun x => a * v x) = a * L A m W B e i v := by
  unfold L
  rw [det_scale _ hi, ← Int.mul_assoc, ← Int.mul_assoc, Int.mul_comm e]
theorem L_lin {i : Nat} (hi : i < m + 2) (a : Int) (u v : Nat → Int) : L A m W B e i (fun x => a * u x + v x) = a * L A m W B e i u + L A m W B e i v := by
  unfold L
  rw [det_lin _ _ _ hi]; grind
namespace GoodE
variable (G : GoodE A m W t d B e)
include G
theorem L_same {i : Nat} (hi : i < m + 2) : L A m W B e i (Jv A m W B i) = d := by
  unfold L; rw [put_self]; exact G.dd.symm
theorem L_other {i k : Nat} (hi : i < m + 2) (hk : k < m + 2) (h : i ≠ k) : L A m W B e i (Jv A m W B k) = 0 := by
  unfold L
  rw [det_like hi hk h (by rw [put_same, put_ne _ _ (Ne.symm h)]), Int.mul_zero]
theorem t_same {i : Nat} (hi : i < m) : t i (B i) = d := by
  rw [G.tt i (by omega) _ (G.bw i hi), ← Jv_lt hi, G.L_same (by omega)]
theorem t_other {i k : Nat} (hi : i < m + 2) (hk : k < m) (h : i ≠ k) : t i (B k) = 0 := by
  rw [G.tt i hi _ (G.bw k hk), ← Jv_lt hk, G.L_other hi (by omega) h]
theorem inj {i k : Nat} (hi : i < m) (hk : k < m) (h : B i = B k) : i = k := by
  have := G.pos
  refine Classical.byContradiction fun ne => ?_
  have h1 := G.t_same hi
  have h2 := G.t_other (i := i) (by omega) hk ne
  rw [h] at h1; omega
/-- the pivot step, on forms -/
theorem piv_L {r c : Nat} (hr : r < m) (hc : c < W + 2) {i : Nat} (hi : i < m + 2) (hir : i ≠ r) (v : Nat → Int) :
    d * (e * det (m + 2) (put (put (Jv A m W B) r (C A m W c)) i v)) = L A m W B e i v * L A m W B e r (C A m W c) - L A m W B e i (C A m W c) * L A m W B e r v := by
  have hr' : r < m + 2 := by omega
  have h1 : d * (e * det (m + 2) (put (put (Jv A m W B) r (C A m W c)) i v)) = e * det (m + 2) (put (put (Jv A m W B) i v) r (fun x => d * C A m W c x)) := by
    rw [put_comm _ _ _ (Ne.symm hir), det_scale _ hr']; grind
  have h2 : det (m + 2) (put (put (Jv A m W B) i v) r (fun x => d * C A m W c x)) = det (m + 2) (put (put (Jv A m W B) i v) r (fun x => S (m + 2) fun q => L A m W B e q (C A m W c) * Jv A m W B q x)) := by
    refine det_congr _ fun k hk x hx => ?_
    by_cases hkr : k = r
    · subst hkr; rw [put_same, put_same]; exact G.cr c hc x hx
    · rw [put_ne _ _ hkr, put_ne _ _ hkr]
  rw [h1, h2, det_sum _ hr', S_two r i hr' hi (Ne.symm hir) fun q hq hqr hqi => ?_]
  · have h3 : put (put (Jv A m W B) i v) r (Jv A m W B r) = put (Jv A m W B) i v := by
      rw [put_comm _ _ _ hir, put_self]
    have h4 : det (m + 2) (put (put (Jv A m W B) i v) r (Jv A m W B i)) = - det (m + 2) (put (Jv A m W B) r v) := by
      rw [det_swap _ hi hr' hir, put_self]
    rw [h3, h4]
    unfold L
    grind
  · rw [det_like (p := q) (q := r) hq hr' hqr (by rw [put_ne _ _ hqr, put_ne _ _ hqi, put_same]), Int.mul_zero]
/-- THE PIVOT: the next state is good, and its numbers are exact -/
theorem pivot {r c : Nat} {t' : Nat → Nat → Int} {s : Int} (hr : r < m) (hc : c < W) (hs : s = 1 ∨ s = -1) (hp : 0 < s * t r c)
    (h1 : ∀ j, j < W → t' r j = s * t r j) (h2 : ∀ i, i < m + 2 → i ≠ r → ∀ j, j < W → t' i j = Int.fdiv (t i j * (s * t r c) - t i c * (s * t r j)) d) :
    GoodE A m W t' (s * t r c) (put B r c) (s * e) ∧ ∀ i, i < m + 2 → i ≠ r → ∀ j, j < W → d * t' i j = t i j * (s * t r c) - t i c * (s * t r j) := by
  have hd := G.pos
  have hr' : r < m + 2 := by omega
  have hss : s * s = 1 := by rcases hs with h | h <;> subst h <;> rfl
  have J' : Jv A m W (put B r c) = put (Jv A m W B) r (C A m W c) := Jv_put hr
  have trc : t r c = L A m W B e r (C A m W c) := G.tt r hr' c hc
  -- the new forms
  have Lr : ∀ v, L A m W (put B r c) (s * e) r v = s * L A m W B e r v := fun v => by
    unfold L; rw [J', put_put, Int.mul_assoc]
  have Li : ∀ i, i < m + 2 → i ≠ r → ∀ v, d * L A m W (put B r c) (s * e) i v = s * (L A m W B e i v * t r c - L A m W B e i (C A m W c) * L A m W B e r v) := fun i hi hir v => by
    have h := G.piv_L hr (c := c) (by omega) hi hir v
    unfold L at h ⊢
    unfold L at trc
    rw [J', trc, ← h]; grind
  have ex : ∀ i, i < m + 2 → i ≠ r → ∀ j, j < W → t i j * (s * t r c) - t i c * (s * t r j) = d * L A m W (put B r c) (s * e) i (C A m W j) := fun i hi hir j hj => by
    rw [Li i hi hir, ← G.tt i hi j hj, ← G.tt i hi c hc, ← G.tt r hr' j hj]; grind
  have tex : ∀ i, i < m + 2 → i ≠ r → ∀ j, j < W → t' i j = L A m W (put B r c) (s * e) i (C A m W j) := fun i hi hir j hj => by
    rw [h2 i hi hir j hj, ex i hi hir j hj]
    exact Int.mul_fdiv_cancel_left _ (by omega)
  refine ⟨⟨?_, hp, ?_, fun i hi j hj => ?_, fun j hj x hx => ?_, fun i hi => ?_⟩, fun i hi hir j hj => ?_⟩
  · rcases hs with h | h <;> rcases G.e1 with h' | h' <;> subst h <;> subst h' <;> decide
  · rw [J', trc]; unfold L; grind
  · by_cases hir : i = r
    · subst hir; rw [h1 j hj, G.tt i hi j hj, Lr]
    · exact tex i hi hir j hj
  · have cj := G.cr j hj x hx
    have cc := G.cr c (by omega) x hx
    refine Int.eq_of_mul_eq_mul_left (show d ≠ 0 by omega) ?_
    -- d * (sum of new)
    rw [← S_mul]
    have key : (S (m + 2) fun i => d * (L A m W (put B r c) (s * e) i (C A m W j) * Jv A m W (put B r c) i x)) =
        S (m + 2) fun i => s * (t r c * (L A m W B e i (C A m W j) * Jv A m W B i x) - L A m W B e r (C A m W j) * (L A m W B e i (C A m W c) * Jv A m W B i x) + (if i = r then L A m W B e r (C A m W j) * (d * C A m W c x) else 0)) := by
      refine S_congr fun i hi => ?_
      by_cases hir : i = r
      · subst hir
        rw [Lr, J', put_same, if_pos rfl, trc]; grind
      · rw [J', put_ne _ _ hir, if_neg hir, ← Int.mul_assoc, Li i hi hir, Int.add_zero]; grind
    rw [key, S_mul, S_add, S_sub, S_mul, S_mul, ← cj, ← cc, S_only r hr' fun i _ hi => if_neg hi, if_pos rfl]
    grind
  · by_cases hir : i = r
    · subst hir; rw [put_same]; exact hc
    · rw [put_ne _ _ hir]; exact G.bw i hi
  · rw [tex i hi hir j hj, ← ex i hi hir j hj]
/-- the rows, by what the helpers' places hold -/
theorem dual {wide : Nat} (hw : wide + m ≤ W) (hu : ∀ q, q < m → ∀ x, x < m + 2 → A x (wide + q) = unit q x) {i : Nat} (hi : i < m + 2) {j : Nat} (hj : j < W) :
    t i j = (S m fun q => A q j * t i (wide + q)) + d * (if i < m then 0 else A i j) := by
  rw [G.tt i hi j hj]
  have h : L A m W B e i (C A m W j) = L A m W B e i (fun x => 1 * (fun x => S m fun q => A q j * C A m W (wide + q) x) x + (fun x => A m j * unit m x + A (m + 1) j * unit (m + 1) x) x) := by
    refine L_congr hi fun x hx => ?_
    show C A m W j x = 1 * (S m fun q => A q j * C A m W (wide + q) x) + (A m j * unit m x + A (m + 1) j * unit (m + 1) x)
    have e1 : (S m fun q => A q j * C A m W (wide + q) x) = S m fun q => A q j * unit q x := S_congr fun q hq => by
      rw [C_lt (show wide + q < W by omega)]
      show A q j * A x (wide + q) = _
      rw [hu q hq x hx]
    rw [e1, C_lt hj]
    show A x j = _
    by_cases hxm : x < m
    · rw [S_only x hxm fun q _ hq => by unfold unit; rw [if_neg (Ne.symm hq), Int.mul_zero]]
      unfold unit
      rw [if_pos rfl, if_neg (by omega), if_neg (by omega)]; omega
    · rw [S_zero fun q hq => by unfold unit; rw [if_neg (by omega), Int.mul_zero]]
      unfold unit
      by_cases hx2 : x = m
      · subst hx2; rw [if_pos rfl, if_neg (by omega)]; omega
      · have hx3 : x = m + 1 := by omega
        subst hx3; rw [if_neg (by omega), if_pos rfl]; omega
  have hA : ∀ i, i < m + 2 → L A m W B e i (unit m) = if i = m then d else 0 := fun i hi => by
    by_cases hm : i = m
    · subst hm
      rw [if_pos rfl]
      have := G.L_same (i := i) (by omega)
      rwa [Jv_m] at this
    · rw [if_neg hm]
      have := G.L_other (i := i) (k := m) hi (by omega) hm
      rwa [Jv_m] at this
  have hB : ∀ i, i < m + 2 → L A m W B e i (unit (m + 1)) = if i = m + 1 then d else 0 := fun i hi => by
    by_cases hm : i = m + 1
    · subst hm
      rw [if_pos rfl]
      have := G.L_same (i := m + 1) (by omega)
      rwa [Jv_m1] at this
    · rw [if_neg hm]
      have := G.L_other (i := i) (k := m + 1) hi (by omega) hm
      rwa [Jv_m1] at this
  rw [h, L_lin hi, L_sum hi, L_lin hi, L_scale hi, hA i hi, hB i hi]
  have e2 : (S m fun q => A q j * L A m W B e i (C A m W (wide + q))) = S m fun q => A q j * t i (wide + q) := S_congr fun q hq => by rw [G.tt i hi _ (by omega)]
  rw [e2]
  by_cases h1 : i < m
  · rw [if_neg (by omega), if_neg (by omega), if_pos h1]; omega
  · rw [if_neg h1]
    by_cases h2 : i = m
    · subst h2; rw [if_pos rfl, if_neg (by omega)]; grind
    · have h3 : i = m + 1 := by omega
      subst h3; rw [if_neg (by omega), if_pos rfl]; grind
/-- what is carried: the base's amounts solve the rows -/
theorem primal {j : Nat} (hj : j < W) {x : Nat} (hx : x < m) : d * A x j = S m fun i => t i j * A x (B i) := by
  have h := G.cr j (by omega) x (by omega)
  rw [C_lt hj] at h
  show d * (fun i => A i j) x = _
  rw [h, S_succ2]
  have z1 : Jv A m W B m x = 0 := by rw [Jv_m]; exact if_neg (by omega)
  have z2 : Jv A m W B (m + 1) x = 0 := by rw [Jv_m1]; exact if_neg (by omega)
  rw [z1, z2, Int.mul_zero, Int.mul_zero, Int.add_zero, Int.add_zero]
  refine S_congr fun i hi => ?_
  rw [G.tt i (by omega) j hj, Jv_lt hi, C_lt hj, C_lt (G.bw i hi)]
/-- two states of one task -/
theorem two {t' : Nat → Nat → Int} {d' : Int} {B' : Nat → Nat} {e' : Int} (G' : GoodE A m W t' d' B' e') {num : Nat} (hn : num = m ∨ num = m + 1) {j : Nat} (hj : j < W) :
    d * t' num j = (S m fun i => t i j * t' num (B i)) + t num j * d' := by
  have hnn : num < m + 2 := by omega
  have h : L A m W B' e' num (fun x => d * C A m W j x) = L A m W B' e' num (fun x => S (m + 2) fun i => L A m W B e i (C A m W j) * Jv A m W B i x) := L_congr hnn fun x hx => G.cr j (by omega) x hx
  rw [L_scale hnn, L_sum hnn, ← G'.tt num hnn j hj] at h
  rw [h, S_succ2]
  have e1 : (S m fun i => L A m W B e i (C A m W j) * L A m W B' e' num (Jv A m W B i)) = S m fun i => t i j * t' num (B i) := S_congr fun i hi => by
    rw [G.tt i (by omega) j hj, Jv_lt hi, G'.tt num hnn _ (G.bw i hi)]
  rw [e1, Jv_m, Jv_m1]
  have a1 := G'.L_same (i := m) (by omega)
  have a2 := G'.L_same (i := m + 1) (by omega)
  have a3 := G'.L_other (i := m) (k := m + 1) (by omega) (by omega) (by omega)
  have a4 := G'.L_other (i := m + 1) (k := m) (by omega) (by omega) (by omega)
  rw [Jv_m] at a1 a4
  rw [Jv_m1] at a2 a3
  rcases hn with rfl | rfl
  · rw [a1, a3, G.tt num (by omega) j hj]; omega
  · rw [a2, a4, G.tt (m + 1) (by omega) j hj]; omega
/-- how great the numbers are -/
theorem bound {b : Nat} (hb1 : 1 ≤ b) (hb : ∀ x, x < m + 2 → ∀ j, j < W → (A x j).natAbs ≤ b) : d.natAbs ≤ fac (m + 2) * b ^ (m + 2) ∧ ∀ i, i < m + 2 → ∀ j, j < W → (t i j).natAbs ≤ fac (m + 2) * b ^ (m + 2) := by
  have he : e.natAbs = 1 := by rcases G.e1 with h | h <;> subst h <;> rfl
  have hu : ∀ q x, (unit q x).natAbs ≤ b := fun q x => by unfold unit; split <;> simp <;> omega
  have hC : ∀ j x, x < m + 2 → (C A m W j x).natAbs ≤ b := fun j x hx => by
    unfold C
    split
    · exact hb x hx j (by assumption)
    · exact hu _ _
  have hJ : ∀ i x, x < m + 2 → (Jv A m W B i x).natAbs ≤ b := fun i x hx => hC _ x hx
  refine ⟨?_, fun i hi j hj => ?_⟩
  · rw [G.dd, Int.natAbs_mul, he, Nat.one_mul]
    exact det_bound b _ _ fun i _ x hx => hJ i x hx
  · rw [G.tt i hi j hj]
    unfold L
    rw [Int.natAbs_mul, he, Nat.one_mul]
    refine det_bound b _ _ fun k _ x hx => ?_
    by_cases hk : k = i
    · subst hk; rw [put_same]; exact hC _ x hx
    · rw [put_ne _ _ hk]; exact hJ k x hx
end GoodE
/-- the begin -/
theorem good_begin {wide : Nat} (hw : wide + m ≤ W) (hu : ∀ q, q < m → ∀ x, x < m + 2 → A x (wide + q) = unit q x) : GoodE A m W A 1 (fun i => wide + i) 1 := by
  have hJ : ∀ i, i < m + 2 → ∀ x, x < m + 2 → Jv A m W (fun i => wide + i) i x = unit i x := fun i hi x hx => by
    by_cases h1 : i < m
    · rw [Jv_lt h1, C_lt (by omega)]; exact hu i h1 x hx
    · by_cases h2 : i = m
      · subst h2; rw [Jv_m]
      · have h3 : i = m + 1 := by omega
        subst h3; rw [Jv_m1]
  have hL : ∀ i, i < m + 2 → ∀ v : Nat → Int, L A m W (fun i => wide + i) 1 i v = v i := fun i hi v => by
    unfold L
    rw [Int.one_mul]
    have e1 : det (m + 2) (put (Jv A m W fun i => wide + i) i v) = det (m + 2) (put unit i (fun x => S (m + 2) fun q => v q * unit q x)) := by
      refine det_congr _ fun k hk x hx => ?_
      by_cases hki : k = i
      · subst hki
        rw [put_same, put_same, S_only x hx fun q _ hq => by unfold unit; rw [if_neg (Ne.symm hq), Int.mul_zero]]
        unfold unit; rw [if_pos rfl, Int.mul_one]
      · rw [put_ne _ _ hki, put_ne _ _ hki]; exact hJ k hk x hx
    rw [e1, det_sum _ hi, S_only i hi fun q hq hqi => ?_, put_self, det_unit, Int.mul_one]
    rw [det_like (p := i) (q := q) hi hq (Ne.symm hqi) (by rw [put_same, put_ne _ _ hqi]), Int.mul_zero]
  refine ⟨.inl rfl, by decide, ?_, fun i hi j hj => ?_, fun j hj x hx => ?_, fun i hi => ?_⟩
  · rw [Int.one_mul, ← det_unit (m + 2)]
    exact det_congr _ fun i hi x hx => (hJ i hi x hx).symm
  · rw [hL i hi, C_lt hj]
  · rw [Int.one_mul, S_only x hx fun i hi hix => ?_]
    · rw [hL x hx, hJ x hx x hx]; unfold unit; rw [if_pos rfl, Int.mul_one]
    · rw [hJ i hi x hx]; unfold unit; rw [if_neg (Ne.symm hix), Int.mul_zero]
  · show wide + i < W; omega
end
end TN
namespace TN

/-! the first place, the row that leaves, the step -/
def firstN (p : Nat → Bool) : Nat → Option Nat
  | 0 => none
  | n + 1 => match firstN p n with
    | some j => some j
    | none => if p n = true then some n else none
theorem firstN_some {p : Nat → Bool} : ∀ {n j : Nat}, firstN p n = some j → j < n ∧ p j = true ∧ ∀ k, k < j → p k = false
  | 0, _, h => by cases h
  | n + 1, j, h => by
    unfold firstN at h
    cases e : firstN p n with
    | some k =>
      rw [e] at h
      have h : some k = some j := h
      cases h
      obtain ⟨a, b, c⟩ := firstN_some e
      exact ⟨by omega, b, c⟩
    | none =>
      rw [e] at h
      have h : (if p n = true then some n else none) = some j := h
      by_cases hp : p n = true
      · rw [if_pos hp] at h
        cases h
        refine ⟨by omega, hp, ?_⟩
        have : ∀ n, firstN p n = none → ∀ k, k < n → p k = false := by
          intro n
          induction n with
          | zero => intro _ k hk; omega
          | succ n ih =>
            intro h k hk
            unfold firstN at h
            cases e : firstN p n with
            | some k => rw [e] at h; cases h
            | none =>
              rw [e] at h
              have h : (if p n = true then some n else none) = none := h
              by_cases hp : p n = true
              · rw [if_pos hp] at h; cases h
              · by_cases hkn : k = n
                · subst hkn; simpa using hp
                · exact ih e k (by omega)
        exact this n e
      · rw [if_neg hp] at h; cases h
theorem firstN_none {p : Nat → Bool} : ∀ {n : Nat}, firstN p n = none → ∀ k, k < n → p k = false
  | 0, _, k, hk => absurd hk (Nat.not_lt_zero _)
  | n + 1, h, k, hk => by
    unfold firstN at h
    cases e : firstN p n with
    | some j => rw [e] at h; cases h
    | none =>
      rw [e] at h
      have h : (if p n = true then some n else none) = none := h
      by_cases hp : p n = true
      · rw [if_pos hp] at h; cases h
      · by_cases hkn : k = n
        · subst hkn; simpa using hp
        · exact firstN_none e k (by omega)
def leaveF (t : Nat → Nat → Int) (B : Nat → Nat) (am c : Nat) : Nat → Option Nat
  | 0 => none
  | k + 1 => if 0 < t k c then
      match leaveF t B am c k with
      | none => some k
      | some b => if t k am * t b c < t b am * t k c ∨ (t k am * t b c = t b am * t k c ∧ B k < B b) then some k else some b
    else leaveF t B am c k
structure Sx where
  t : Nat → Nat → Int
  d : Int
  B : Nat → Nat
def stepF (t : Nat → Nat → Int) (d : Int) (r c : Nat) : Nat → Nat → Int := fun i j => if i = r then t r j else Int.fdiv (t i j * t r c - t i c * t r j) d
def Sx.piv (s : Sx) (r c : Nat) : Sx := ⟨stepF s.t s.d r c, s.t r c, put s.B r c⟩
/-- m rows, wide wanted places, the amounts' place, the line -/
structure Pr where
  m : Nat
  wide : Nat
  am : Nat
  num : Nat
def Sx.enter (s : Sx) (p : Pr) : Option Nat := firstN (fun j => decide (s.t p.num j < 0)) p.wide
def Sx.leave (s : Sx) (p : Pr) (c : Nat) : Option Nat := leaveF s.t s.B p.am c p.m
def Sx.next (s : Sx) (p : Pr) : Option Sx := match s.enter p with
  | none => none
  | some c => match s.leave p c with
    | none => none
    | some r => some (s.piv r c)
def Sx.stopsIn (p : Pr) : Nat → Sx → Prop
  | 0, s => s.next p = none
  | k + 1, s => match s.next p with
    | none => True
    | some s' => Sx.stopsIn p k s'
def Sx.ends (p : Pr) (s : Sx) : Prop := ∃ k, Sx.stopsIn p k s

theorem leave_none {t : Nat → Nat → Int} {B : Nat → Nat} {am c : Nat} : ∀ {k : Nat}, leaveF t B am c k = none → ∀ i, i < k → t i c ≤ 0
  | 0, _, i, hi => absurd hi (Nat.not_lt_zero _)
  | k + 1, h, i, hi => by
    unfold leaveF at h
    by_cases hp : 0 < t k c
    · rw [if_pos hp] at h
      cases e : leaveF t B am c k with
      | none => rw [e] at h; cases h
      | some b =>
        rw [e] at h
        dsimp only at h
        split at h <;> cases h
    · rw [if_neg hp] at h
      by_cases hik : i = k
      · subst hik; omega
      · exact leave_none h i (by omega)
theorem leave_some {t : Nat → Nat → Int} {B : Nat → Nat} {am c : Nat} : ∀ {k r : Nat}, leaveF t B am c k = some r →
    r < k ∧ 0 < t r c ∧ ∀ i, i < k → 0 < t i c → t r am * t i c ≤ t i am * t r c ∧ (t r am * t i c = t i am * t r c → B r ≤ B i)
  | 0, _, h => by cases h
  | k + 1, r, h => by
    unfold leaveF at h
    by_cases hp : 0 < t k c
    · rw [if_pos hp] at h
      cases e : leaveF t B am c k with
      | none =>
        rw [e] at h
        have h : some k = some r := h
        cases h
        refine ⟨by omega, hp, fun i hi hpi => ?_⟩
        have := leave_none e
        by_cases hik : i = k
        · subst hik; exact ⟨Int.le_refl _, fun _ => Nat.le_refl _⟩
        · have := this i (by omega); omega
      | some b =>
        rw [e] at h
        dsimp only at h
        obtain ⟨hb, hbp, hall⟩ := leave_some e
        split at h
        · rename_i hc
          cases h
          refine ⟨by omega, hp, fun i hi hpi => ?_⟩
          by_cases hik : i = k
          · subst hik; exact ⟨Int.le_refl _, fun _ => Nat.le_refl _⟩
          · obtain ⟨h1, h2⟩ := hall i (by omega) hpi
            -- through b
            have m2 : t b am * t i c * t k c ≤ t i am * t b c * t k c := Int.mul_le_mul_of_nonneg_right h1 (by omega)
            rcases hc with hc | ⟨hc, hB⟩
            · have m1 : t k am * t b c * t i c < t b am * t k c * t i c := Int.mul_lt_mul_of_pos_right hc hpi
              have m3 : t k am * t i c * t b c < t i am * t k c * t b c := by grind
              have m4 : t k am * t i c < t i am * t k c := Int.lt_of_mul_lt_mul_right m3 (by omega)
              exact ⟨by omega, fun q => by omega⟩
            · have m1 : t k am * t b c * t i c = t b am * t k c * t i c := by rw [hc]
              have m3 : t k am * t i c * t b c ≤ t i am * t k c * t b c := by grind
              have m4 : t k am * t i c ≤ t i am * t k c := Int.le_of_mul_le_mul_right m3 hbp
              refine ⟨m4, fun q => ?_⟩
              have q1 : t k am * t i c * t b c = t i am * t k c * t b c := by rw [q]
              have q2 : t b am * t i c * t k c = t i am * t b c * t k c := by grind
              have q3 := Int.eq_of_mul_eq_mul_right (show t k c ≠ 0 by omega) q2
              have := h2 q3
              omega
        · rename_i hc
          cases h
          refine ⟨by omega, hbp, fun i hi hpi => ?_⟩
          by_cases hik : i = k
          · subst hik
            by_cases hlt : t i am * t r c < t r am * t i c
            · exact absurd (Or.inl hlt) hc
            · refine ⟨by omega, fun q => ?_⟩
              by_cases hB : B i < B r
              · exact absurd (Or.inr ⟨q.symm, hB⟩) hc
              · omega
          · exact hall i (by omega) hpi
    · rw [if_neg hp] at h
      obtain ⟨h1, h2, h3⟩ := leave_some h
      refine ⟨by omega, h2, fun i hi hpi => ?_⟩
      by_cases hik : i = k
      · subst hik; omega
      · exact h3 i (by omega) hpi

/-! states that are right -/
section
variable {A : Nat → Nat → Int} {W : Nat} {p : Pr}
structure Ok (A : Nat → Nat → Int) (W : Nat) (p : Pr) (s : Sx) : Prop where
  good : Good A p.m W s.t s.d s.B
  feas : ∀ i, i < p.m → 0 ≤ s.t i p.am
  bb : ∀ i, i < p.m → s.B i < p.am
/-- how the numbers of the line lie -/
structure Fit (W : Nat) (p : Pr) : Prop where
  wa : p.wide ≤ p.am
  aW : p.am < W
  nu : p.num = p.m ∨ p.num = p.m + 1
theorem Good.pos {m : Nat} {t : Nat → Nat → Int} {d : Int} {B : Nat → Nat} (G : Good A m W t d B) : 0 < d := by
  obtain ⟨e, G⟩ := G; exact G.pos
theorem Ok.facts {s : Sx} (F : Fit W p) (O : Ok A W p s) {r c : Nat} (he : s.enter p = some c) (hl : s.leave p c = some r) :
    c < p.wide ∧ s.t p.num c < 0 ∧ r < p.m ∧ 0 < s.t r c ∧ (∀ i, i < p.m → 0 < s.t i c → s.t r p.am * s.t i c ≤ s.t i p.am * s.t r c ∧ (s.t r p.am * s.t i c = s.t i p.am * s.t r c → s.B r ≤ s.B i)) ∧
    (∀ k, k < c → 0 ≤ s.t p.num k) ∧ (∀ i, i < p.m → s.B i ≠ c) := by
  obtain ⟨h1, h2, h3⟩ := firstN_some he
  obtain ⟨h4, h5, h6⟩ := leave_some hl
  have h2 : s.t p.num c < 0 := of_decide_eq_true h2
  refine ⟨h1, h2, h4, h5, h6, fun k hk => ?_, fun i hi hB => ?_⟩
  · have := of_decide_eq_false (h3 k hk)
    omega
  · obtain ⟨e, G⟩ := O.good
    have := G.t_other (i := p.num) (k := i) (by have := F.nu; omega) hi (by have := F.nu; omega)
    rw [hB] at this
    omega
theorem Ok.piv {s : Sx} (F : Fit W p) (O : Ok A W p s) {r c : Nat} (he : s.enter p = some c) (hl : s.leave p c = some r) :
    Ok A W p (s.piv r c) ∧ (∀ i, i < p.m + 2 → i ≠ r → ∀ j, j < W → s.d * (s.piv r c).t i j = s.t i j * s.t r c - s.t i c * s.t r j) ∧ (∀ j, (s.piv r c).t r j = s.t r j) := by
  obtain ⟨h1, h2, h4, h5, h6, _, _⟩ := O.facts F he hl
  obtain ⟨e, G⟩ := O.good
  have hW : c < W := by have := F.wa; have := F.aW; omega
  have P := G.pivot (r := r) (c := c) (t' := stepF s.t s.d r c) (s := 1) h4 hW (.inl rfl) (by omega)
    (fun j _ => by unfold stepF; rw [if_pos rfl, Int.one_mul]) (fun i _ hir j _ => by unfold stepF; rw [if_neg hir, Int.one_mul, Int.one_mul])
  simp only [Int.one_mul] at P
  obtain ⟨P1, P2⟩ := P
  refine ⟨⟨⟨e, P1⟩, fun i hi => ?_, fun i hi => ?_⟩, P2, fun j => by show stepF _ _ _ _ _ _ = _; unfold stepF; rw [if_pos rfl]⟩
  by_cases hir : i = r
  · subst hir
    show 0 ≤ stepF s.t s.d i c i p.am
    unfold stepF; rw [if_pos rfl]; exact O.feas i hi
  · have q := P2 i (by omega) hir p.am F.aW
    have f1 := O.feas i hi
    have f2 := O.feas r h4
    have : 0 ≤ s.d * stepF s.t s.d r c i p.am := by
      rw [q]
      by_cases hp : 0 < s.t i c
      · have := (h6 i hi hp).1
        rw [Int.mul_comm (s.t i c)]
        omega
      · have a1 : 0 ≤ s.t i p.am * s.t r c := Int.mul_nonneg f1 (by omega)
        have a2 : 0 ≤ (- s.t i c) * s.t r p.am := Int.mul_nonneg (by omega) f2
        rw [Int.neg_mul] at a2
        omega
    have hd := G.pos
    refine Classical.byContradiction fun hn => ?_
    have : s.d * stepF s.t s.d r c i p.am < 0 := Int.mul_neg_of_pos_of_neg hd (by have hn : ¬ 0 ≤ stepF s.t s.d r c i p.am := hn; omega)
    omega
  · show put s.B r c i < p.am
    by_cases hir : i = r
    · subst hir; rw [put_same]; have := F.wa; omega
    · rw [put_ne _ _ hir]; exact O.bb i hi

/-! BLAND: no going round -/
/-- a place leaves in one state and comes in in another, what changes between them being small -/
theorem bland {s u : Sx} (F : Fit W p) (O : Ok A W p s) (O' : Ok A W p u) {c r c' : Nat} (he : s.enter p = some c) (hl : s.leave p c = some r) (he' : u.enter p = some c') (hc' : s.B r = c') (hcc : c < c')
    (deg : s.t r p.am = 0) (fick : ∀ i, i < p.m → (∀ k, k < p.m → u.B k ≠ s.B i) → s.B i ≤ c' ∧ s.t i p.am = 0) : False := by
  obtain ⟨h1, h2, h4, h5, h6, h7, h8⟩ := O.facts F he hl
  obtain ⟨g1, g2, g3⟩ := firstN_some he'
  have g2 : u.t p.num c' < 0 := of_decide_eq_true g2
  have g3 : ∀ k, k < c' → 0 ≤ u.t p.num k := fun k hk => by have := of_decide_eq_false (g3 k hk); omega
  obtain ⟨e, G⟩ := O.good
  obtain ⟨e', G'⟩ := O'.good
  have hd := G.pos
  have hd' := G'.pos
  have T := G.two G' F.nu (j := c) (by have := F.wa; have := F.aW; omega)
  have a1 : 0 ≤ s.d * u.t p.num c := Int.mul_nonneg (by omega) (g3 c hcc)
  have a2 : s.t p.num c * u.d < 0 := Int.mul_neg_of_neg_of_pos h2 hd'
  obtain ⟨i, hi, hpos⟩ := S_pos (n := p.m) (f := fun i => s.t i c * u.t p.num (s.B i)) (by omega)
  have hpos : 0 < s.t i c * u.t p.num (s.B i) := hpos
  -- the i-th is not in the other base
  have hnb : ∀ k, k < p.m → u.B k ≠ s.B i := fun k hk hB => by
    have := G'.t_other (i := p.num) (k := k) (by have := F.nu; omega) hk (by have := F.nu; omega)
    rw [hB] at this
    rw [this, Int.mul_zero] at hpos
    omega
  obtain ⟨f1, f2⟩ := fick i hi hnb
  by_cases hir : s.B i = c'
  · have hir : i = r := G.inj hi h4 (by omega)
    subst hir
    rw [hc'] at hpos
    have : s.t i c * u.t p.num c' < 0 := Int.mul_neg_of_pos_of_neg h5 g2
    omega
  · have k1 := g3 (s.B i) (by omega)
    have k2 : 0 < s.t i c := by
      refine Classical.byContradiction fun hn => ?_
      have : 0 ≤ (- s.t i c) * u.t p.num (s.B i) := Int.mul_nonneg (by omega) k1
      rw [Int.neg_mul] at this
      omega
    have := (h6 i hi k2).2 (by rw [deg, f2, Int.zero_mul, Int.zero_mul])
    omega
/-- a way of steps that gain nothing, all places below a bound -/
inductive Path (p : Pr) (b : Nat) : Sx → Sx → Prop
  | refl (s : Sx) : Path p b s s
  | step {s u : Sx} (P : Path p b s u) {r c : Nat} (he : u.enter p = some c) (hl : u.leave p c = some r) (deg : u.t r p.am = 0) (hc : c < b) (hr : u.B r < b) : Path p b s (u.piv r c)
theorem Path.trans {b : Nat} {s u v : Sx} (P : Path p b s u) (Q : Path p b u v) : Path p b s v := by
  induction Q with
  | refl => exact P
  | step _ he hl deg hc hr ih => exact .step ih he hl deg hc hr
theorem Path.mono {b b' : Nat} {s u : Sx} (P : Path p b s u) (h : b ≤ b') : Path p b' s u := by
  induction P with
  | refl => exact .refl _
  | step _ he hl deg hc hr ih => exact .step ih he hl deg (by omega) (by omega)
theorem next_of {s : Sx} {r c : Nat} (he : s.enter p = some c) (hl : s.leave p c = some r) : s.next p = some (s.piv r c) := by
  unfold Sx.next; rw [he]; dsimp only; rw [hl]
theorem ends_next {s s' : Sx} (h : s.next p = some s') (e : s'.ends p) : s.ends p := by
  obtain ⟨k, e⟩ := e
  refine ⟨k + 1, ?_⟩
  unfold Sx.stopsIn; rw [h]; exact e
theorem Path.ends {b : Nat} {s u : Sx} (P : Path p b s u) (e : u.ends p) : s.ends p := by
  induction P with
  | refl => exact e
  | step _ he hl deg hc hr ih => exact ih (ends_next (next_of he hl) e)
/-- what a place carries -/
def valOf (p : Pr) (s : Sx) (j : Nat) : Int := S p.m fun i => if s.B i = j then s.t i p.am else 0
theorem val_at {s : Sx} (O : Ok A W p s) {i : Nat} (hi : i < p.m) : valOf p s (s.B i) = s.t i p.am := by
  obtain ⟨e, G⟩ := O.good
  unfold valOf
  rw [S_only i hi fun k hk hki => if_neg fun h => hki (G.inj hk hi h), if_pos rfl]
theorem val_out {s : Sx} {j : Nat} (h : ∀ i, i < p.m → s.B i ≠ j) : valOf p s j = 0 := S_zero fun i hi => if_neg (h i hi)
theorem Ok.deg {s : Sx} (F : Fit W p) (O : Ok A W p s) {r c : Nat} (he : s.enter p = some c) (hl : s.leave p c = some r) (deg : s.t r p.am = 0) (j : Nat) : valOf p s j * (s.piv r c).d = valOf p (s.piv r c) j * s.d := by
  obtain ⟨h1, h2, h4, h5, h6, h7, h8⟩ := O.facts F he hl
  obtain ⟨O', P2, P3⟩ := O.piv F he hl
  show valOf p s j * s.t r c = _
  unfold valOf
  rw [← S_mulR, ← S_mulR]
  refine S_congr fun i hi => ?_
  show _ = (if put s.B r c i = j then (s.piv r c).t i p.am else 0) * s.d
  by_cases hir : i = r
  · subst hir
    rw [P3, deg]; simp
  · rw [put_ne _ _ hir]
    by_cases hj : s.B i = j
    · rw [if_pos hj, if_pos hj, Int.mul_comm _ s.d, P2 i (by omega) hir _ F.aW, deg]; omega
    · rw [if_neg hj, if_neg hj, Int.zero_mul, Int.zero_mul]
theorem Path.facts {b : Nat} {s u : Sx} (F : Fit W p) (P : Path p b s u) (O : Ok A W p s) : Ok A W p u ∧ (∀ j, b ≤ j → ((∃ i, i < p.m ∧ s.B i = j) ↔ ∃ i, i < p.m ∧ u.B i = j)) ∧ (∀ j, valOf p s j * u.d = valOf p u j * s.d) ∧ s.t p.num p.am * u.d = u.t p.num p.am * s.d := by
  induction P with
  | refl => exact ⟨O, fun _ _ => Iff.rfl, fun _ => rfl, rfl⟩
  | @step u P r c he hl deg hc hr ih =>
    obtain ⟨O1, h1, h2, h0⟩ := ih
    obtain ⟨O2, P2, P3⟩ := O1.piv F he hl
    obtain ⟨g1, g2, g4, g5, g6, g7, g8⟩ := O1.facts F he hl
    have hu := O1.good.pos
    refine ⟨O2, fun j hj => (h1 j hj).trans ⟨fun ⟨i, hi, e⟩ => ⟨i, hi, ?_⟩, fun ⟨i, hi, e⟩ => ?_⟩, fun j => ?_, ?_⟩
    · show put u.B r c i = j
      rw [put_ne _ _ (by intro z; subst z; omega)]; exact e
    · have e : put u.B r c i = j := e
      by_cases hir : i = r
      · subst hir; rw [put_same] at e; omega
      · rw [put_ne _ _ hir] at e; exact ⟨i, hi, e⟩
    · have q1 := h2 j
      have q2 := O1.deg F he hl deg j
      refine Int.eq_of_mul_eq_mul_right (show u.d ≠ 0 by omega) ?_
      calc valOf p s j * (u.piv r c).d * u.d = (valOf p s j * u.d) * (u.piv r c).d := by grind
        _ = valOf p u j * s.d * (u.piv r c).d := by rw [q1]
        _ = (valOf p u j * (u.piv r c).d) * s.d := by grind
        _ = valOf p (u.piv r c) j * u.d * s.d := by rw [q2]
        _ = _ := by grind
    · have q2 := P2 p.num (by have := F.nu; omega) (by have := F.nu; omega) p.am F.aW
      rw [deg, Int.mul_zero, Int.sub_zero] at q2
      refine Int.eq_of_mul_eq_mul_right (show u.d ≠ 0 by omega) ?_
      calc s.t p.num p.am * (u.piv r c).d * u.d = (s.t p.num p.am * u.d) * (u.piv r c).d := by grind
        _ = u.t p.num p.am * s.d * (u.piv r c).d := by rw [h0]
        _ = (u.t p.num p.am * u.t r c) * s.d := by show _ * _ * u.t r c = _; grind
        _ = (u.d * (u.piv r c).t p.num p.am) * s.d := by rw [q2]
        _ = _ := by grind
/-- from each state such a way leads to an end, a gain, or a place from the bound on -/
theorem way (F : Fit W p) : ∀ (b : Nat) (s : Sx), Ok A W p s → ∃ u, Path p b s u ∧ (u.next p = none ∨ ∃ r c, u.enter p = some c ∧ u.leave p c = some r ∧ (0 < u.t r p.am ∨ b ≤ c ∨ b ≤ u.B r))
  | 0, s, O => by
    refine ⟨s, .refl s, ?_⟩
    cases he : s.enter p with
    | none => left; unfold Sx.next; rw [he]
    | some c =>
      cases hl : s.leave p c with
      | none => left; unfold Sx.next; rw [he]; dsimp only; rw [hl]
      | some r => right; exact ⟨r, c, rfl, hl, .inr (.inl (by omega))⟩
  | b + 1, s, O => by
    obtain ⟨u, P, h⟩ := way F b s O
    rcases h with h | ⟨r, c, he, hl, h⟩
    · exact ⟨u, P.mono (by omega), .inl h⟩
    have O1 := (P.facts F O).1
    obtain ⟨g1, g2, g4, g5, g6, g7, g8⟩ := O1.facts F he hl
    by_cases hg : 0 < u.t r p.am
    · exact ⟨u, P.mono (by omega), .inr ⟨r, c, he, hl, .inl hg⟩⟩
    by_cases hb : b + 1 ≤ c ∨ b + 1 ≤ u.B r
    · exact ⟨u, P.mono (by omega), .inr ⟨r, c, he, hl, .inr hb⟩⟩
    have deg : u.t r p.am = 0 := by have := O1.feas r g4; omega
    -- the step with the bound's own place
    have P1 : Path p (b + 1) s (u.piv r c) := .step (P.mono (by omega)) he hl deg (by omega) (by omega)
    have O2 := (P1.facts F O).1
    obtain ⟨v, Q, k⟩ := way F b _ O2
    rcases k with k | ⟨r', c', he', hl', k⟩
    · exact ⟨v, P1.trans (Q.mono (by omega)), .inl k⟩
    by_cases hk : 0 < v.t r' p.am ∨ b + 1 ≤ c' ∨ b + 1 ≤ v.B r'
    · exact ⟨v, P1.trans (Q.mono (by omega)), .inr ⟨r', c', he', hl', hk⟩⟩
    exfalso
    obtain ⟨O3, q1, q2, _⟩ := Q.facts F O2
    obtain ⟨k1, k2, k4, k5, k6, k7, k8⟩ := O3.facts F he' hl'
    have deg' : v.t r' p.am = 0 := by have := O3.feas r' k4; omega
    -- the whole way between them
    have Pw : Path p (b + 1) u v := (Path.step (.refl u) he hl deg (by omega) (by omega)).trans (Q.mono (by omega))
    obtain ⟨_, w1, w2, _⟩ := Pw.facts F O1
    have du := O1.good.pos
    have dv := O3.good.pos
    have one : c = b ∨ u.B r = b := by omega
    have two : c' = b ∨ v.B r' = b := by omega
    rcases one with one | one
    · -- b comes in first: it is in the base behind
      have inn : ∃ i, i < p.m ∧ v.B i = b := (q1 b (Nat.le_refl _)).mp ⟨r, g4, by show put u.B r c r = b; rw [put_same]; exact one⟩
      rcases two with two | two
      · obtain ⟨i, hi, e⟩ := inn
        exact k8 i hi (by omega)
      · refine bland F O3 O1 he' hl' he (by omega) ?_ deg' fun i hi hn => ?_
        · have : v.B r' ≠ c' := k8 r' k4
          omega
        · refine ⟨?_, ?_⟩
          · refine Classical.byContradiction fun hh => ?_
            obtain ⟨k, hk, e⟩ := (w1 (v.B i) (by omega)).mpr ⟨i, hi, rfl⟩
            exact hn k hk e
          · have z := w2 (v.B i)
            rw [val_out hn, val_at O3 hi, Int.zero_mul] at z
            rcases Int.mul_eq_zero.mp z.symm with z | z <;> omega
    · -- b leaves first
      have out : ∀ i, i < p.m → v.B i ≠ b := fun i hi e => by
        obtain ⟨k, hk, e⟩ := (q1 b (Nat.le_refl _)).mpr ⟨i, hi, e⟩
        have e : put u.B r c k = b := e
        by_cases hkr : k = r
        · subst hkr
          rw [put_same] at e
          exact g8 k g4 (by omega)
        · rw [put_ne _ _ hkr] at e
          obtain ⟨ee, G⟩ := O1.good
          exact hkr (G.inj hk g4 (by omega))
      rcases two with two | two
      · refine bland F O1 O3 he hl he' (by omega) ?_ deg fun i hi hn => ?_
        · have : u.B r ≠ c := g8 r g4
          omega
        · refine ⟨?_, ?_⟩
          · refine Classical.byContradiction fun hh => ?_
            obtain ⟨k, hk, e⟩ := (w1 (u.B i) (by omega)).mp ⟨i, hi, rfl⟩
            exact hn k hk e
          · have z := w2 (u.B i)
            rw [val_out hn, val_at O1 hi, Int.zero_mul] at z
            rcases Int.mul_eq_zero.mp z with z | z <;> omega
      · exact out r' k4 two
theorem dvd_fac : ∀ {n k : Nat}, 1 ≤ k → k ≤ n → k ∣ fac n
  | 0, k, h1, h2 => by omega
  | n + 1, k, h1, h2 => by
    show k ∣ (n + 1) * fac n
    by_cases h : k = n + 1
    · subst h; exact Nat.dvd_mul_right _ _
    · exact Nat.dvd_trans (dvd_fac h1 (by omega)) (Nat.dvd_mul_left _ _)
/-- THE END: where what is gained is bounded, the steps end -/
theorem ends_all (F : Fit W p) {M : Nat} {U : Int} (hM : ∀ s : Sx, Ok A W p s → s.d ≤ M) (hU : ∀ s : Sx, Ok A W p s → s.t p.num p.am ≤ U * s.d) : ∀ s : Sx, Ok A W p s → s.ends p := by
  have hdv : ∀ s : Sx, Ok A W p s → ∃ q : Int, 0 < q ∧ (fac M : Int) = s.d * q ∧ (fac M : Int) / s.d = q := fun s O => by
    have hd := O.good.pos
    have h1 := hM s O
    have h2 : s.d.toNat ∣ fac M := dvd_fac (by omega) (by omega)
    obtain ⟨q, hq⟩ := h2
    have hN : 0 < fac M := by
      have : ∀ n, 0 < fac n := by
        intro n
        induction n with
        | zero => decide
        | succ n ih => exact Nat.mul_pos (by omega) ih
      exact this M
    have hq0 : 0 < q := by
      rcases Nat.eq_zero_or_pos q with z | z
      · subst z; omega
      · exact z
    have e : (fac M : Int) = s.d * (q : Int) := by
      rw [hq]; push_cast; rw [Int.toNat_of_nonneg (by omega)]
    refine ⟨q, by omega, e, ?_⟩
    rw [e]
    exact Int.mul_ediv_cancel_left _ (by omega)
  have key : ∀ (k : Nat) (s : Sx), Ok A W p s → U * (fac M : Int) - s.t p.num p.am * ((fac M : Int) / s.d) < k → s.ends p := by
    intro k
    induction k with
    | zero =>
      intro s O hk
      obtain ⟨q, q1, q2, q3⟩ := hdv s O
      have h1 := hU s O
      have h2 : s.t p.num p.am * q ≤ U * s.d * q := Int.mul_le_mul_of_nonneg_right h1 (by omega)
      rw [q3, q2] at hk
      rw [Int.mul_assoc] at h2
      omega
    | succ k ih =>
      intro s O hk
      obtain ⟨u, P, h⟩ := way F W s O
      rcases h with h | ⟨r, c, he, hl, h⟩
      · exact P.ends ⟨0, h⟩
      obtain ⟨O1, _, _, z⟩ := P.facts F O
      obtain ⟨g1, g2, g4, g5, g6, g7, g8⟩ := O1.facts F he hl
      obtain ⟨O2, P2, P3⟩ := O1.piv F he hl
      obtain ⟨e, G⟩ := id O1.good
      have hB := G.bw r g4
      have hg : 0 < u.t r p.am := by have := F.wa; have := F.aW; omega
      refine P.ends (ends_next (next_of he hl) (ih _ O2 ?_))
      obtain ⟨a, a1, a2, a3⟩ := hdv s O
      obtain ⟨b, b1, b2, b3⟩ := hdv u O1
      obtain ⟨q, q1, q2, q3⟩ := hdv _ O2
      have hs := O.good.pos
      have hu := O1.good.pos
      have hv := O2.good.pos
      have w := P2 p.num (by have := F.nu; omega) (by have := F.nu; omega) p.am F.aW
      rw [a3] at hk
      rw [q3]
      -- the same at u as at s
      have e1 : s.t p.num p.am * a = u.t p.num p.am * b := by
        refine Int.eq_of_mul_eq_mul_right (show s.d ≠ 0 by omega) (Int.eq_of_mul_eq_mul_right (show u.d ≠ 0 by omega) ?_)
        calc s.t p.num p.am * a * s.d * u.d = (s.t p.num p.am * u.d) * (s.d * a) := by grind
          _ = (u.t p.num p.am * s.d) * (fac M : Int) := by rw [z, a2]
          _ = (u.t p.num p.am * s.d) * (u.d * b) := by rw [b2]
          _ = _ := by grind
      have e2 : u.t p.num p.am * b < (u.piv r c).t p.num p.am * q := by
        refine Int.lt_of_mul_lt_mul_right (a := u.d * (u.piv r c).d) ?_ (Int.le_of_lt (Int.mul_pos hu hv))
        have l : u.t p.num p.am * b * (u.d * (u.piv r c).d) = (fac M : Int) * (u.t p.num p.am * u.t r c) := by
          rw [b2]; show _ * _ * (u.d * u.t r c) = _; grind
        have r' : (u.piv r c).t p.num p.am * q * (u.d * (u.piv r c).d) = (fac M : Int) * (u.t p.num p.am * u.t r c - u.t p.num c * u.t r p.am) := by
          rw [q2, ← w]; grind
        rw [l, r']
        refine Int.mul_lt_mul_of_pos_left ?_ (by rw [b2]; exact Int.mul_pos hu b1)
        have : u.t p.num c * u.t r p.am < 0 := Int.mul_neg_of_neg_of_pos g2 hg
        omega
      omega
  intro s O
  exact key ((U * (fac M : Int) - s.t p.num p.am * ((fac M : Int) / s.d)).toNat + 1) s O (by omega)
end
end TN
namespace TN

/-- the numbers of a tableau at the begin: rows, helpers, amounts, and the two lines -/
def A0 (rows : Nat → Nat → Int) (wide m : Nat) (amt w : Nat → Int) : Nat → Nat → Int := fun x j =>
  if x < m then (if j < wide then rows x j else if j < wide + m then (if x = j - wide then 1 else 0) else amt x)
  else if x = m then (if j < wide then - w j else 0)
  else (if j < wide then - S m (fun q => rows q j) else if j < wide + m then 0 else - S m amt)
def p1 (wide m : Nat) : Pr := ⟨m, wide, wide + m, m + 1⟩
def p2 (wide m : Nat) : Pr := ⟨m, wide, wide + m, m⟩
theorem fit1 (wide m : Nat) : Fit (wide + m + 1) (p1 wide m) := ⟨by show wide ≤ wide + m; omega, by show wide + m < wide + m + 1; omega, .inr rfl⟩
theorem fit2 (wide m : Nat) : Fit (wide + m + 1) (p2 wide m) := ⟨by show wide ≤ wide + m; omega, by show wide + m < wide + m + 1; omega, .inl rfl⟩
section
variable {A : Nat → Nat → Int} {m W : Nat} {t : Nat → Nat → Int} {d : Int} {B : Nat → Nat} {e : Int}
theorem GoodE.low (G : GoodE A m W t d B e) {num : Nat} (hn : num = m ∨ num = m + 1) {j : Nat} (hj : j < W) : d * A num j = (S m fun i => t i j * A num (B i)) + t num j := by
  have h := G.cr j (by omega) num (by omega)
  rw [C_lt hj] at h
  show d * (fun i => A i j) num = _
  rw [h, S_succ2]
  have e1 : (S m fun i => L A m W B e i (fun i => A i j) * Jv A m W B i num) = S m fun i => t i j * A num (B i) := S_congr fun i hi => by
    rw [G.tt i (by omega) j hj, C_lt hj, Jv_lt hi, C_lt (G.bw i hi)]
  rw [e1, Jv_m, Jv_m1]
  rcases hn with rfl | rfl
  · rw [G.tt num (by omega) j hj, C_lt hj]
    unfold unit; rw [if_pos rfl, if_neg (by omega)]; omega
  · rw [G.tt (m + 1) (by omega) j hj, C_lt hj]
    unfold unit; rw [if_neg (by omega), if_pos rfl]; omega
end
section
variable {rows : Nat → Nat → Int} {wide m : Nat} {amt w : Nat → Int} {s : Sx}
theorem A0_rows {x j : Nat} (hx : x < m) (hj : j < wide) : (A0 rows wide m amt w) x j = rows x j := by unfold A0; rw [if_pos hx, if_pos hj]
theorem A0_help {x j : Nat} (hx : x < m) (h1 : wide ≤ j) (h2 : j < wide + m) : (A0 rows wide m amt w) x j = if x = j - wide then 1 else 0 := by
  unfold A0; rw [if_pos hx, if_neg (by omega), if_pos h2]
theorem A0_amt {x : Nat} (hx : x < m) : (A0 rows wide m amt w) x (wide + m) = amt x := by unfold A0; rw [if_pos hx, if_neg (by omega), if_neg (by omega)]
theorem A0_gain {j : Nat} (hj : j < wide) : (A0 rows wide m amt w) m j = - w j := by unfold A0; rw [if_neg (by omega), if_pos rfl, if_pos hj]
theorem A0_gain0 {j : Nat} (hj : wide ≤ j) : (A0 rows wide m amt w) m j = 0 := by unfold A0; rw [if_neg (by omega), if_pos rfl, if_neg (by omega)]
theorem A0_lack {j : Nat} (hj : j < wide) : (A0 rows wide m amt w) (m + 1) j = - S m (fun q => rows q j) := by unfold A0; rw [if_neg (by omega), if_neg (by omega), if_pos hj]
theorem A0_lackH {j : Nat} (h1 : wide ≤ j) (h2 : j < wide + m) : (A0 rows wide m amt w) (m + 1) j = 0 := by unfold A0; rw [if_neg (by omega), if_neg (by omega), if_neg (by omega), if_pos h2]
theorem A0_lackA : (A0 rows wide m amt w) (m + 1) (wide + m) = - S m amt := by unfold A0; rw [if_neg (by omega), if_neg (by omega), if_neg (by omega), if_neg (by omega)]
theorem A0_unit : ∀ q, q < m → ∀ x, x < m + 2 → (A0 rows wide m amt w) x (wide + q) = unit q x := fun q hq x hx => by
  unfold unit
  by_cases h : x < m
  · rw [A0_help h (by omega) (by omega), show wide + q - wide = q by omega]
  · rw [if_neg (show ¬ x = q by omega)]
    by_cases h2 : x = m
    · subst h2; exact A0_gain0 (by omega)
    · have : x = m + 1 := by omega
      subst this; exact A0_lackH (by omega) (by omega)
theorem Ok.g1 {A : Nat → Nat → Int} (O : Ok A (wide + m + 1) (p1 wide m) s) : Good A m (wide + m + 1) s.t s.d s.B := O.good
theorem Ok.g2 {A : Nat → Nat → Int} (O : Ok A (wide + m + 1) (p2 wide m) s) : Good A m (wide + m + 1) s.t s.d s.B := O.good
/-- the begin of a tableau -/
def S0 (rows : Nat → Nat → Int) (wide m : Nat) (amt w : Nat → Int) : Sx := ⟨A0 rows wide m amt w, 1, fun i => wide + i⟩
theorem S0_ok (hb : ∀ x, x < m → 0 ≤ amt x) : Ok (A0 rows wide m amt w) (wide + m + 1) (p1 wide m) (S0 rows wide m amt w) where
  good := ⟨1, good_begin (m := m) (wide := wide) (by omega) A0_unit⟩
  feas := fun i hi => by have hi : i < m := hi; show 0 ≤ A0 rows wide m amt w i (wide + m); rw [A0_amt hi]; exact hb i hi
  bb := fun i hi => by show wide + i < wide + m; have hi : i < m := hi; omega
/-- the line of what lacks: less the helpers' rows -/
theorem lack_eq {e : Int} (G : GoodE (A0 rows wide m amt w) m (wide + m + 1) s.t s.d s.B e) (bb : ∀ i, i < m → s.B i < wide + m) {j : Nat} (hj : j < wide ∨ j = wide + m) : s.t (m + 1) j = - S m fun i => if wide ≤ s.B i then s.t i j else 0 := by
  have h := G.low (num := m + 1) (.inr rfl) (j := j) (by omega)
  have e1 : (S m fun i => s.t i j * (A0 rows wide m amt w) (m + 1) (s.B i)) = S m fun i => (if wide ≤ s.B i then s.t i j else 0) - s.t i j * S m (fun x => (A0 rows wide m amt w) x (s.B i)) := S_congr fun i hi => by
    by_cases hw : wide ≤ s.B i
    · rw [if_pos hw, A0_lackH hw (bb i hi)]
      have : S m (fun x => (A0 rows wide m amt w) x (s.B i)) = 1 := by
        rw [S_only (s.B i - wide) (by have := bb i hi; omega) fun x hx hne => by rw [A0_help hx hw (bb i hi), if_neg hne]]
        rw [A0_help (by have := bb i hi; omega) hw (bb i hi), if_pos rfl]
      rw [this]; omega
    · rw [if_neg hw, A0_lack (by omega)]
      have : S m (fun x => (A0 rows wide m amt w) x (s.B i)) = S m fun q => rows q (s.B i) := S_congr fun x hx => A0_rows hx (by omega)
      rw [this, Int.mul_neg]; omega
  rw [e1, S_sub] at h
  have e2 : (S m fun i => s.t i j * S m (fun x => (A0 rows wide m amt w) x (s.B i))) = s.d * S m fun x => (A0 rows wide m amt w) x j := by
    have : (S m fun i => s.t i j * S m (fun x => (A0 rows wide m amt w) x (s.B i))) = S m fun i => S m fun x => s.t i j * (A0 rows wide m amt w) x (s.B i) := S_congr fun i _ => (S_mul _ _ _).symm
    rw [this, S_swap, ← S_mul]
    exact S_congr fun x hx => (G.primal (by omega) hx).symm
  have e3 : (A0 rows wide m amt w) (m + 1) j = - S m fun x => (A0 rows wide m amt w) x j := by
    rcases hj with hj | hj
    · rw [A0_lack hj]; congr 1; exact S_congr fun x hx => (A0_rows hx hj).symm
    · subst hj; rw [A0_lackA]; congr 1; exact S_congr fun x hx => (A0_amt hx).symm
  rw [e2, e3, Int.mul_neg] at h
  omega
theorem next_none {p : Pr} (h : s.next p = none) : s.enter p = none ∨ ∃ c, s.enter p = some c ∧ s.leave p c = none := by
  unfold Sx.next at h
  cases he : s.enter p with
  | none => exact .inl rfl
  | some c =>
    rw [he] at h
    dsimp only at h
    cases hl : s.leave p c with
    | none => exact .inr ⟨c, rfl, hl⟩
    | some r => rw [hl] at h; cases h
/-- behind the first steps -/
theorem phase1_enter (O : Ok (A0 rows wide m amt w) (wide + m + 1) (p1 wide m) s) (h : s.next (p1 wide m) = none) : s.enter (p1 wide m) = none := by
  rcases next_none h with h | ⟨c, he, hl⟩
  · exact h
  · exfalso
    obtain ⟨e, G⟩ := O.g1
    obtain ⟨h1, h2, _⟩ := firstN_some he
    have h1 : c < wide := h1
    have h2 : s.t (m + 1) c < 0 := of_decide_eq_true h2
    have h3 : ∀ i, i < m → s.t i c ≤ 0 := leave_none hl
    rw [lack_eq G O.bb (.inl h1)] at h2
    have : S m (fun i => if wide ≤ s.B i then s.t i c else 0) ≤ S m fun _ => 0 := S_le fun i hi => by split; exact h3 i hi; exact Int.le_refl 0
    rw [S_zero fun _ _ => rfl] at this
    omega
theorem phase1 (O : Ok (A0 rows wide m amt w) (wide + m + 1) (p1 wide m) s) (h : s.next (p1 wide m) = none) {x0 : Nat → Int} (hx : ∀ j, j < wide → 0 ≤ x0 j) (hA : ∀ q, q < m → (S wide fun j => rows q j * x0 j) = amt q) :
    s.t (m + 1) (wide + m) = 0 ∧ ∀ i, i < m → wide ≤ s.B i → s.t i (wide + m) = 0 := by
  have he := phase1_enter O h
  obtain ⟨e, G⟩ := O.g1
  have h0 : ∀ j, j < wide → 0 ≤ s.t (m + 1) j := fun j hj => by
    have := of_decide_eq_false (firstN_none he j hj)
    have : ¬ s.t (m + 1) j < 0 := this
    omega
  have dl : ∀ j, j < wide + m + 1 → s.t (m + 1) j = (S m fun q => (A0 rows wide m amt w) q j * s.t (m + 1) (wide + q)) + s.d * (A0 rows wide m amt w) (m + 1) j := fun j hj => by
    have := GoodE.dual G (wide := wide) (by omega) A0_unit (i := m + 1) (by omega) hj
    rw [if_neg (by omega)] at this
    exact this
  -- by the solution
  have key : s.t (m + 1) (wide + m) = S wide fun j => x0 j * s.t (m + 1) j := by
    have e1 : (S wide fun j => x0 j * s.t (m + 1) j) = S wide fun j => (S m fun q => (rows q j * x0 j) * s.t (m + 1) (wide + q)) + s.d * (S m fun q => - (rows q j * x0 j)) := S_congr fun j hj => by
      rw [dl j (by omega), Int.mul_add, ← S_mul, A0_lack hj]
      congr 1
      · exact S_congr fun q hq => by rw [A0_rows hq hj]; grind
      · rw [← S_neg, Int.mul_comm (x0 j), Int.mul_assoc]
        congr 1
        rw [Int.mul_comm, ← S_mul]
        exact S_congr fun q _ => by grind
    rw [e1, S_add, S_swap wide m, S_mul, S_swap wide m, dl _ (by omega)]
    congr 1
    · exact S_congr fun q hq => by rw [S_mulR, hA q hq, A0_amt hq]
    · rw [A0_lackA, ← S_neg]
      congr 1
      exact S_congr fun q hq => by rw [S_neg, hA q hq]
  have k1 : 0 ≤ s.t (m + 1) (wide + m) := by
    rw [key]
    exact S_nonneg fun j hj => Int.mul_nonneg (hx j hj) (h0 j hj)
  have k2 := lack_eq G O.bb (j := wide + m) (.inr rfl)
  have k3 : ∀ i, i < m → 0 ≤ if wide ≤ s.B i then s.t i (wide + m) else 0 := fun i hi => by split; exact O.feas i hi; exact Int.le_refl 0
  have k4 := S_nonneg k3
  refine ⟨by omega, fun i hi hw => ?_⟩
  have := S_zero_of k3 (by omega) i hi
  rwa [if_pos hw] at this
theorem bound1 (O : Ok (A0 rows wide m amt w) (wide + m + 1) (p1 wide m) s) : s.t (p1 wide m).num (p1 wide m).am ≤ 0 * s.d := by
  obtain ⟨e, G⟩ := O.g1
  show s.t (m + 1) (wide + m) ≤ _
  rw [lack_eq G O.bb (.inr rfl)]
  have := S_nonneg (n := m) (f := fun i => if wide ≤ s.B i then s.t i (wide + m) else 0) fun i hi => by
    split; exact O.feas i hi; exact Int.le_refl 0
  omega
/-- the helpers that are left stand idle -/
def Dead (wide m : Nat) (s : Sx) : Prop := ∀ i, i < m → wide ≤ s.B i → s.t i (wide + m) = 0 ∧ ∀ j, j < wide → s.t i j = 0
/-- clearing: the rows below k -/
structure Clr (rows : Nat → Nat → Int) (wide m : Nat) (amt w : Nat → Int) (k : Nat) (s : Sx) : Prop where
  ok : Ok (A0 rows wide m amt w) (wide + m + 1) (p1 wide m) s
  nil : ∀ i, i < m → wide ≤ s.B i → s.t i (wide + m) = 0
  done : ∀ i, i < m → i < k → wide ≤ s.B i → ∀ j, j < wide → s.t i j = 0
/-- a row's line with its sign turned, if it is to be -/
def sgn (x : Int) : Int := if x < 0 then -1 else 1
def flipF (t : Nat → Nat → Int) (r : Nat) (q : Int) : Nat → Nat → Int := fun i j => if i = r then q * t r j else t i j
def Sx.clear1 (s : Sx) (wide : Nat) (r : Nat) : Sx := if wide ≤ s.B r then
    match firstN (fun j => decide (s.t r j ≠ 0)) wide with
    | none => s
    | some c => Sx.piv ⟨flipF s.t r (sgn (s.t r c)), s.d, s.B⟩ r c
  else s
def Sx.clears (s : Sx) (wide : Nat) : Nat → Sx
  | 0 => s
  | k + 1 => (s.clears wide k).clear1 wide k
theorem clear1_ok {k : Nat} (hk : k < m) (h : Clr rows wide m amt w k s) : Clr rows wide m amt w (k + 1) (s.clear1 wide k) := by
  unfold Sx.clear1
  by_cases hw : wide ≤ s.B k
  · rw [if_pos hw]
    cases hc : firstN (fun j => decide (s.t k j ≠ 0)) wide with
    | none =>
      refine ⟨h.ok, h.nil, fun i hi hik hwi j hj => ?_⟩
      by_cases e : i = k
      · subst e
        have := firstN_none hc j hj
        have := of_decide_eq_false this
        exact Classical.byContradiction fun z => this z
      · exact h.done i hi (by omega) hwi j hj
    | some c =>
      obtain ⟨h1, h2, _⟩ := firstN_some hc
      have h2 : s.t k c ≠ 0 := of_decide_eq_true h2
      dsimp only
      obtain ⟨e, G⟩ := h.ok.g1
      have hsg : sgn (s.t k c) = 1 ∨ sgn (s.t k c) = -1 := by unfold sgn; split <;> simp
      have hp : 0 < sgn (s.t k c) * s.t k c := by unfold sgn; split <;> omega
      have g1 : ∀ j, (Sx.piv ⟨flipF s.t k (sgn (s.t k c)), s.d, s.B⟩ k c).t k j = sgn (s.t k c) * s.t k j := fun j => by
        show stepF (flipF s.t k _) s.d k c k j = _
        unfold stepF flipF; rw [if_pos rfl, if_pos rfl]
      have g2 : ∀ i, i ≠ k → ∀ j, (Sx.piv ⟨flipF s.t k (sgn (s.t k c)), s.d, s.B⟩ k c).t i j = Int.fdiv (s.t i j * (sgn (s.t k c) * s.t k c) - s.t i c * (sgn (s.t k c) * s.t k j)) s.d := fun i hi j => by
        show stepF (flipF s.t k _) s.d k c i j = _
        unfold stepF flipF; rw [if_neg hi, if_neg hi, if_neg hi, if_pos rfl, if_pos rfl]
      have gd : (Sx.piv ⟨flipF s.t k (sgn (s.t k c)), s.d, s.B⟩ k c).d = sgn (s.t k c) * s.t k c := by
        show flipF s.t k _ k c = _
        unfold flipF; rw [if_pos rfl]
      have gB : (Sx.piv ⟨flipF s.t k (sgn (s.t k c)), s.d, s.B⟩ k c).B = put s.B k c := rfl
      generalize Sx.piv ⟨flipF s.t k (sgn (s.t k c)), s.d, s.B⟩ k c = u at g1 g2 gd gB
      obtain ⟨P1, P2⟩ := G.pivot (r := k) (c := c) (t' := u.t) hk (by omega) hsg hp (fun j _ => g1 j) (fun i _ hi j _ => g2 i hi j)
      have hd := G.pos
      have z := h.nil k hk hw
      -- the amounts of the others
      have am : ∀ i, i < m → i ≠ k → s.d * u.t i (wide + m) = s.t i (wide + m) * (sgn (s.t k c) * s.t k c) := fun i hi hik => by
        rw [P2 i (by omega) hik _ (by omega), z]; simp
      have am0 : u.t k (wide + m) = 0 := by rw [g1, z, Int.mul_zero]
      refine ⟨⟨⟨_, by rw [gd, gB]; exact P1⟩, fun i hi => ?_, fun i hi => ?_⟩, fun i hi hwi => ?_, fun i hi hik hwi j hj => ?_⟩
      · have hi : i < m := hi
        show 0 ≤ u.t i (wide + m)
        by_cases e : i = k
        · subst e; omega
        · refine Classical.byContradiction fun hn => ?_
          have a := am i hi e
          have b : 0 ≤ s.t i (wide + m) := h.ok.feas i hi
          have c1 : 0 ≤ s.t i (wide + m) * (sgn (s.t k c) * s.t k c) := Int.mul_nonneg b (by omega)
          have c2 : s.d * u.t i (wide + m) < 0 := Int.mul_neg_of_pos_of_neg hd (by omega)
          omega
      · rw [gB]
        show put s.B k c i < wide + m
        by_cases e : i = k
        · subst e; rw [put_same]; omega
        · rw [put_ne _ _ e]; exact h.ok.bb i hi
      · rw [gB] at hwi
        by_cases e : i = k
        · subst e; exact am0
        · rw [put_ne _ _ e] at hwi
          have a := am i hi e
          rw [h.nil i hi hwi, Int.zero_mul] at a
          rcases Int.mul_eq_zero.mp a with z | z
          · omega
          · exact z
      · rw [gB] at hwi
        by_cases e : i = k
        · subst e; rw [put_same] at hwi; omega
        · rw [put_ne _ _ e] at hwi
          have d1 := h.done i hi (by omega) hwi
          have a := P2 i (by omega) e j (by omega)
          rw [d1 j hj, d1 c h1, Int.zero_mul, Int.zero_mul] at a
          rcases Int.mul_eq_zero.mp (a.trans (Int.sub_self 0)) with z | z
          · omega
          · exact z
  · rw [if_neg hw]
    refine ⟨h.ok, h.nil, fun i hi hik hwi j hj => ?_⟩
    by_cases e : i = k
    · subst e; exact absurd hwi hw
    · exact h.done i hi (by omega) hwi j hj
theorem clears_ok (h : Clr rows wide m amt w 0 s) : ∀ k, k ≤ m → Clr rows wide m amt w k (s.clears wide k)
  | 0, _ => h
  | k + 1, hk => clear1_ok (by omega) (clears_ok h k (by omega))
theorem Clr.dead (h : Clr rows wide m amt w m s) : Dead wide m s := fun i hi hw => ⟨h.nil i hi hw, h.done i hi hi hw⟩
/-- the same for the other line -/
theorem Ok.two (O : Ok (A0 rows wide m amt w) (wide + m + 1) (p1 wide m) s) : Ok (A0 rows wide m amt w) (wide + m + 1) (p2 wide m) s := ⟨O.good, O.feas, O.bb⟩
/-- what is reached by steps -/
inductive Reach (p : Pr) : Sx → Sx → Prop
  | refl (s : Sx) : Reach p s s
  | step {s u v : Sx} (R : Reach p s u) (h : u.next p = some v) : Reach p s v
theorem next_some {p : Pr} {s v : Sx} (h : s.next p = some v) : ∃ c r, s.enter p = some c ∧ s.leave p c = some r ∧ v = s.piv r c := by
  unfold Sx.next at h
  cases he : s.enter p with
  | none => rw [he] at h; cases h
  | some c =>
    rw [he] at h
    dsimp only at h
    cases hl : s.leave p c with
    | none => rw [hl] at h; cases h
    | some r => rw [hl] at h; exact ⟨c, r, rfl, hl, (Option.some.inj h).symm⟩
theorem Reach.ok {A : Nat → Nat → Int} {W : Nat} {p : Pr} {s u : Sx} (F : Fit W p) (R : Reach p s u) (O : Ok A W p s) : Ok A W p u := by
  induction R with
  | refl => exact O
  | step _ h ih =>
    obtain ⟨c, r, he, hl, rfl⟩ := next_some h
    exact (ih.piv F he hl).1
theorem Reach.dead {A : Nat → Nat → Int} {u : Sx} (R : Reach (p2 wide m) s u) (O : Ok A (wide + m + 1) (p2 wide m) s) (D : Dead wide m s) : Dead wide m u := by
  induction R with
  | refl => exact D
  | @step u v R h ih =>
    have O1 := R.ok (fit2 wide m) O
    obtain ⟨c, r, he, hl, rfl⟩ := next_some h
    obtain ⟨h1, h2, h4, h5, h6, h7, h8⟩ := O1.facts (fit2 wide m) he hl
    obtain ⟨O2, P2, P3⟩ := O1.piv (fit2 wide m) he hl
    have hd := O1.good.pos
    have h1 : c < wide := h1
    intro i hi hw
    have hw : wide ≤ put u.B r c i := hw
    by_cases e : i = r
    · subst e; rw [put_same] at hw; omega
    · rw [put_ne _ _ e] at hw
      obtain ⟨a, b⟩ := ih i hi hw
      have q : ∀ j, j < wide + m + 1 → u.t i j = 0 → (u.piv r c).t i j = 0 := fun j hj z => by
        have := P2 i (by show i < m + 2; omega) e j hj
        rw [z, b c h1, Int.zero_mul, Int.zero_mul] at this
        rcases Int.mul_eq_zero.mp (this.trans (Int.sub_self 0)) with z | z
        · omega
        · exact z
      exact ⟨q _ (by omega) a, fun j hj => q j (by omega) (b j hj)⟩
/-- what the base carries -/
theorem carries (O : Ok (A0 rows wide m amt w) (wide + m + 1) (p2 wide m) s) (D : Dead wide m s) {q : Nat} (hq : q < m) : (S wide fun j => rows q j * valOf (p2 wide m) s j) = s.d * amt q := by
  obtain ⟨e, G⟩ := O.g2
  have h := G.primal (j := wide + m) (by show wide + m < wide + m + 1; omega) hq
  rw [A0_amt hq] at h
  rw [h]
  have e1 : ∀ j, j < wide → rows q j * valOf (p2 wide m) s j = S m fun i => if s.B i = j then s.t i (wide + m) * (A0 rows wide m amt w) q (s.B i) else 0 := fun j hj => by
    unfold valOf
    rw [← S_mul]
    refine S_congr fun i hi => ?_
    by_cases hb : s.B i = j
    · rw [if_pos hb, if_pos hb, hb, A0_rows hq hj, Int.mul_comm]; rfl
    · rw [if_neg hb, if_neg hb, Int.mul_zero]
  rw [S_congr e1, S_swap]
  refine S_congr fun i hi => ?_
  by_cases hb : s.B i < wide
  · rw [S_only (s.B i) hb fun j _ hj => if_neg (Ne.symm hj), if_pos rfl]
  · rw [S_zero fun j hj => if_neg (by omega), (D i hi (by omega)).1, Int.zero_mul]
theorem val_nonneg (O : Ok (A0 rows wide m amt w) (wide + m + 1) (p2 wide m) s) (j : Nat) : 0 ≤ valOf (p2 wide m) s j := S_nonneg fun i hi => by
  split; exact O.feas i hi; exact Int.le_refl 0
/-- what is carried has no price -/
theorem slack (O : Ok (A0 rows wide m amt w) (wide + m + 1) (p2 wide m) s) {j : Nat} (h : 0 < valOf (p2 wide m) s j) : s.t m j = 0 := by
  obtain ⟨e, G⟩ := O.g2
  obtain ⟨i, hi, hp⟩ := S_pos h
  have hp : 0 < if s.B i = j then s.t i (wide + m) else 0 := hp
  split at hp
  · rename_i hb
    rw [← hb]
    exact G.t_other (by show m < m + 2; omega) hi (by have hi : i < m := hi; omega)
  · omega
end
end TN
namespace TN

/-! the task of readings: u rows of numbers c, n readings, f columns g that let sums be below 0 -/
def rowsF (c g : Nat → Nat → Int) (u n : Nat) : Nat → Nat → Int := fun x j =>
  if x < u then (if j < n then c x j else if j < 2 * n then c x (j - n) else if j < 3 * n then 0 else g x (j - 3 * n))
  else (if j < n then (if x - u = j then 1 else 0) else if j < 2 * n then 0 else if j < 3 * n then (if x - u = j - 2 * n then 1 else 0) else 0)
def amtF (u : Nat) : Nat → Int := fun x => if x < u then 0 else 1
def worF (n : Nat) : Nat → Int := fun j => if j < n then 1 else 0
section
variable {c g : Nat → Nat → Int} {u n f : Nat} {s : Sx}
theorem amtF_nonneg : ∀ x, x < u + n → 0 ≤ amtF u x := fun x _ => by unfold amtF; split <;> decide
theorem R_lo {x j : Nat} (hx : x < u) (hj : j < n) : (rowsF c g u n) x j = c x j := by unfold rowsF; rw [if_pos hx, if_pos hj]
theorem R_lo2 {x j : Nat} (hx : x < u) (hj : j < n) : (rowsF c g u n) x (n + j) = c x j := by
  unfold rowsF; rw [if_pos hx, if_neg (by omega), if_pos (by omega), show n + j - n = j by omega]
theorem R_lo3 {x j : Nat} (hx : x < u) (hj : j < n) : (rowsF c g u n) x (2 * n + j) = 0 := by
  unfold rowsF; rw [if_pos hx, if_neg (by omega), if_neg (by omega), if_pos (by omega)]
theorem R_lo4 {x j : Nat} (hx : x < u) : (rowsF c g u n) x (3 * n + j) = g x j := by
  unfold rowsF; rw [if_pos hx, if_neg (by omega), if_neg (by omega), if_neg (by omega), show 3 * n + j - 3 * n = j by omega]
theorem R_hi {k j : Nat} (hj : j < n) : (rowsF c g u n) (u + k) j = if k = j then 1 else 0 := by
  unfold rowsF; rw [if_neg (by omega), if_pos hj, show u + k - u = k by omega]
theorem R_hi2 {k j : Nat} (hj : j < n) : (rowsF c g u n) (u + k) (n + j) = 0 := by
  unfold rowsF; rw [if_neg (by omega), if_neg (by omega), if_pos (by omega)]
theorem R_hi3 {k j : Nat} (hj : j < n) : (rowsF c g u n) (u + k) (2 * n + j) = if k = j then 1 else 0 := by
  unfold rowsF; rw [if_neg (by omega), if_neg (by omega), if_neg (by omega), if_pos (by omega), show u + k - u = k by omega, show 2 * n + j - 2 * n = j by omega]
theorem R_hi4 {k j : Nat} : (rowsF c g u n) (u + k) (3 * n + j) = 0 := by
  unfold rowsF; rw [if_neg (by omega), if_neg (by omega), if_neg (by omega), if_neg (by omega)]
theorem R_hi_nonneg {k j : Nat} : 0 ≤ (rowsF c g u n) (u + k) j := by
  unfold rowsF; rw [if_neg (by omega)]
  repeat' split
  all_goals omega
theorem A_hi_nonneg {k j : Nat} (hk : k < n) : 0 ≤ (A0 (rowsF c g u n) (3 * n + f) (u + n) (amtF u) (worF n)) (u + k) j := by
  unfold A0
  rw [if_pos (show u + k < u + n by omega)]
  split
  · exact R_hi_nonneg
  · split
    · split <;> omega
    · exact amtF_nonneg (n := n) _ (by omega)
/-- a sum over the wanted places, by their kinds -/
theorem S_wide (h : Nat → Int) : S (3 * n + f) h = (S n fun k => h k) + (S n fun k => h (n + k)) + (S n fun k => h (2 * n + k)) + S f fun q => h (3 * n + q) := by
  rw [S_split, show 3 * n = n + n + n by omega, S_split, S_split]
  congr 2
  congr 1
  funext k
  congr 1
  omega
/-- nought and the slacks solve the task -/
def X0 (n : Nat) : Nat → Int := fun j => if 2 * n ≤ j ∧ j < 3 * n then 1 else 0
theorem X0_nonneg : ∀ j, j < 3 * n + f → 0 ≤ X0 n j := fun j _ => by unfold X0; split <;> decide
theorem X0_solves : ∀ q, q < u + n → (S (3 * n + f) fun j => (rowsF c g u n) q j * X0 n j) = amtF u q := fun q hq => by
  rw [S_wide]
  have a : ∀ k, k < n → X0 n k = 0 := fun k hk => if_neg (by omega)
  have b : ∀ k, k < n → X0 n (n + k) = 0 := fun k hk => if_neg (by omega)
  have d : ∀ k, k < n → X0 n (2 * n + k) = 1 := fun k hk => if_pos (by omega)
  have e : ∀ k, X0 n (3 * n + k) = 0 := fun k => if_neg (by omega)
  rw [S_zero (f := fun k => (rowsF c g u n) q k * X0 n k) fun k hk => by rw [a k hk, Int.mul_zero], S_zero (f := fun k => (rowsF c g u n) q (n + k) * X0 n (n + k)) fun k hk => by rw [b k hk, Int.mul_zero],
    S_zero (f := fun k => (rowsF c g u n) q (3 * n + k) * X0 n (3 * n + k)) fun k hk => by rw [e k, Int.mul_zero]]
  unfold amtF
  by_cases h : q < u
  · rw [if_pos h, S_zero fun k hk => by rw [R_lo3 h hk, Int.zero_mul]]; rfl
  · rw [if_neg h, S_only (q - u) (by omega) fun k hk hne => by rw [show q = u + (q - u) by omega, R_hi3 hk, if_neg (by omega), Int.zero_mul]]
    rw [d _ (by omega)]
    have : (rowsF c g u n) q (2 * n + (q - u)) = 1 := by
      have := R_hi3 (c := c) (g := g) (u := u) (n := n) (k := q - u) (j := q - u) (by omega)
      rw [if_pos rfl, show u + (q - u) = q by omega] at this
      exact this
    rw [this]; rfl
theorem t_le {e : Int} (G : GoodE (A0 (rowsF c g u n) (3 * n + f) (u + n) (amtF u) (worF n)) (u + n) (3 * n + f + (u + n) + 1) s.t s.d s.B e) (fe : ∀ i, i < u + n → 0 ≤ s.t i (3 * n + f + (u + n))) {i : Nat} (hi : i < u + n) (hb : s.B i < n) : s.t i (3 * n + f + (u + n)) ≤ s.d := by
  have h := G.primal (j := 3 * n + f + (u + n)) (x := u + s.B i) (by omega) (by omega)
  rw [A0_amt (by omega)] at h
  have e1 : amtF u (u + s.B i) = 1 := if_neg (by omega)
  rw [e1, Int.mul_one] at h
  rw [h]
  have : (S (u + n) fun k => if k = i then s.t i (3 * n + f + (u + n)) else 0) ≤ S (u + n) fun k => s.t k (3 * n + f + (u + n)) * (A0 (rowsF c g u n) (3 * n + f) (u + n) (amtF u) (worF n)) (u + s.B i) (s.B k) := S_le fun k hk => by
    by_cases e : k = i
    · subst e
      rw [if_pos rfl, A0_rows (by omega) (by omega), R_hi hb, if_pos rfl, Int.mul_one]; exact Int.le_refl _
    · rw [if_neg e]
      exact Int.mul_nonneg (fe k hk) (A_hi_nonneg hb)
  rw [S_only i hi fun k _ hk => if_neg hk, if_pos rfl] at this
  exact this
theorem gain_eq {e : Int} (G : GoodE (A0 (rowsF c g u n) (3 * n + f) (u + n) (amtF u) (worF n)) (u + n) (3 * n + f + (u + n) + 1) s.t s.d s.B e) {j : Nat} (hj : j < 3 * n + f + (u + n) + 1) : s.t (u + n) j = s.d * (A0 (rowsF c g u n) (3 * n + f) (u + n) (amtF u) (worF n)) (u + n) j + S (u + n) fun i => if s.B i < n then s.t i j else 0 := by
  have h := G.low (num := u + n) (.inl rfl) hj
  have e1 : (S (u + n) fun i => s.t i j * (A0 (rowsF c g u n) (3 * n + f) (u + n) (amtF u) (worF n)) (u + n) (s.B i)) = S (u + n) fun i => - (if s.B i < n then s.t i j else 0) := S_congr fun i hi => by
    by_cases hb : s.B i < n
    · rw [if_pos hb, A0_gain (by omega)]
      unfold worF; rw [if_pos hb]; omega
    · rw [if_neg hb]
      by_cases hw : s.B i < 3 * n + f
      · rw [A0_gain hw]; unfold worF; rw [if_neg hb]; simp
      · rw [A0_gain0 (by omega)]; simp
  rw [e1, S_neg] at h
  omega
theorem bound2 (O : Ok (A0 (rowsF c g u n) (3 * n + f) (u + n) (amtF u) (worF n)) (3 * n + f + (u + n) + 1) (p2 (3 * n + f) (u + n)) s) : s.t (p2 (3 * n + f) (u + n)).num (p2 (3 * n + f) (u + n)).am ≤ ((u + n : Nat) : Int) * s.d := by
  obtain ⟨e, G⟩ := O.g2
  have hd := G.pos
  show s.t (u + n) (3 * n + f + (u + n)) ≤ _
  rw [gain_eq G (by omega), A0_gain0 (by omega), Int.mul_zero, Int.zero_add, ← S_const]
  refine S_le fun i hi => ?_
  split
  · exact t_le G O.feas hi (by assumption)
  · omega
/-- the second steps end where nothing is gained any more -/
theorem phase2_enter (O : Ok (A0 (rowsF c g u n) (3 * n + f) (u + n) (amtF u) (worF n)) (3 * n + f + (u + n) + 1) (p2 (3 * n + f) (u + n)) s) (h : s.next (p2 (3 * n + f) (u + n)) = none) : s.enter (p2 (3 * n + f) (u + n)) = none := by
  rcases next_none h with h | ⟨k, he, hl⟩
  · exact h
  · exfalso
    obtain ⟨e, G⟩ := O.g2
    have hd := G.pos
    obtain ⟨h1, h2, _⟩ := firstN_some he
    have h1 : k < 3 * n + f := h1
    have h2 : s.t (u + n) k < 0 := of_decide_eq_true h2
    have h3 : ∀ i, i < u + n → s.t i k ≤ 0 := leave_none hl
    -- all rows that bound a share have nought there
    have z : ∀ q, q < n → (A0 (rowsF c g u n) (3 * n + f) (u + n) (amtF u) (worF n)) (u + q) k = 0 ∧ ∀ i, i < u + n → s.t i k * (A0 (rowsF c g u n) (3 * n + f) (u + n) (amtF u) (worF n)) (u + q) (s.B i) = 0 := fun q hq => by
      have p := G.primal (j := k) (x := u + q) (by omega) (by omega)
      have a := A_hi_nonneg (c := c) (g := g) (u := u) (n := n) (f := f) (k := q) (j := k) hq
      have nn : ∀ i, i < u + n → 0 ≤ - (s.t i k * (A0 (rowsF c g u n) (3 * n + f) (u + n) (amtF u) (worF n)) (u + q) (s.B i)) := fun i hi => by
        rw [← Int.neg_mul]
        exact Int.mul_nonneg (by have := h3 i hi; omega) (A_hi_nonneg hq)
      have b := S_nonneg nn
      rw [S_neg] at b
      have c1 : 0 ≤ s.d * (A0 (rowsF c g u n) (3 * n + f) (u + n) (amtF u) (worF n)) (u + q) k := Int.mul_nonneg (by omega) a
      have c2 : s.d * (A0 (rowsF c g u n) (3 * n + f) (u + n) (amtF u) (worF n)) (u + q) k = 0 := by omega
      refine ⟨by rcases Int.mul_eq_zero.mp c2 with z | z; omega; exact z, fun i hi => ?_⟩
      have c3 := S_zero_of nn (by rw [S_neg]; omega) i hi
      omega
    rw [gain_eq G (by omega), A0_gain h1] at h2
    have hk : ¬ k < n := fun hk => by
      have := (z k hk).1
      rw [A0_rows (by omega) h1, R_hi hk, if_pos rfl] at this
      omega
    have e1 : worF n k = 0 := if_neg hk
    rw [e1, Int.neg_zero, Int.mul_zero, S_zero fun i hi => ?_] at h2
    · omega
    · split
      · rename_i hb
        have := (z (s.B i) hb).2 i hi
        rw [A0_rows (by omega) (by omega), R_hi hb, if_pos rfl, Int.mul_one] at this
        exact this
      · rfl
/-- THE ANSWER: what shares and prices are at the end -/
structure Ans (c g : Nat → Nat → Int) (u n f : Nat) (d : Int) (X Y : Nat → Int) : Prop where
  dpos : 0 < d
  x0 : ∀ j, 0 ≤ X j
  flow : ∀ x, x < u → (S n fun k => c x k * (X k + X (n + k))) + (S f fun q => g x q * X (3 * n + q)) = 0
  p0 : ∀ k, k < n → 0 ≤ S u fun x => c x k * Y x
  pk : ∀ k, k < n → 0 < X k → (S u fun x => c x k * Y x) = 0
  pn : ∀ k, k < n → X k = 0 → 0 < S u fun x => c x k * Y x
  far : ∀ q, q < f → 0 ≤ S u fun x => g x q * Y x
theorem answer (O : Ok (A0 (rowsF c g u n) (3 * n + f) (u + n) (amtF u) (worF n)) (3 * n + f + (u + n) + 1) (p2 (3 * n + f) (u + n)) s) (D : Dead (3 * n + f) (u + n) s) (h : s.next (p2 (3 * n + f) (u + n)) = none) :
    Ans c g u n f s.d (valOf (p2 (3 * n + f) (u + n)) s) (fun q => s.t (u + n) (3 * n + f + q)) := by
  have he := phase2_enter O h
  obtain ⟨e, G⟩ := id O.g2
  have hd := G.pos
  have h0 : ∀ j, j < 3 * n + f → 0 ≤ s.t (u + n) j := fun j hj => by
    have := of_decide_eq_false (firstN_none he j hj)
    have : ¬ s.t (u + n) j < 0 := this
    omega
  have ca : ∀ q, q < u + n → _ := fun q hq => carries O D hq
  have x0 : ∀ j, 0 ≤ valOf (p2 (3 * n + f) (u + n)) s j := val_nonneg O
  have sl : ∀ j, 0 < valOf (p2 (3 * n + f) (u + n)) s j → s.t (u + n) j = 0 := fun j hj => slack O hj
  generalize valOf (p2 (3 * n + f) (u + n)) s = X at ca x0 sl
  -- the rows
  have fl : ∀ x, x < u → (S n fun k => c x k * (X k + X (n + k))) + (S f fun q => g x q * X (3 * n + q)) = 0 := fun x hx => by
    have h := ca x (by omega)
    rw [S_wide] at h
    have e1 : amtF u x = 0 := if_pos hx
    rw [e1, Int.mul_zero, S_congr (f := fun k => (rowsF c g u n) x k * X k) fun k hk => by rw [R_lo hx hk], S_congr (f := fun k => (rowsF c g u n) x (n + k) * X (n + k)) fun k hk => by rw [R_lo2 hx hk],
      S_zero (f := fun k => (rowsF c g u n) x (2 * n + k) * X (2 * n + k)) fun k hk => by rw [R_lo3 hx hk, Int.zero_mul], S_congr (f := fun q => (rowsF c g u n) x (3 * n + q) * X (3 * n + q)) fun q hq => by rw [R_lo4 hx]] at h
    rw [S_congr (fun k (hk : k < n) => Int.mul_add (c x k) (X k) (X (n + k))), S_add]
    omega
  have sh : ∀ k, k < n → X k + X (2 * n + k) = s.d := fun k hk => by
    have h := ca (u + k) (by omega)
    rw [S_wide] at h
    have e1 : amtF u (u + k) = 1 := if_neg (by omega)
    rw [e1, Int.mul_one, S_only (f := fun q => (rowsF c g u n) (u + k) q * X q) k hk fun q hq hne => by rw [R_hi hq, if_neg (Ne.symm hne), Int.zero_mul], R_hi hk, if_pos rfl,
      S_zero (f := fun q => (rowsF c g u n) (u + k) (n + q) * X (n + q)) fun q hq => by rw [R_hi2 hq, Int.zero_mul],
      S_only (f := fun q => (rowsF c g u n) (u + k) (2 * n + q) * X (2 * n + q)) k hk fun q hq hne => by rw [R_hi3 hq, if_neg (Ne.symm hne), Int.zero_mul], R_hi3 hk, if_pos rfl,
      S_zero (f := fun q => (rowsF c g u n) (u + k) (3 * n + q) * X (3 * n + q)) fun q hq => by rw [R_hi4, Int.zero_mul]] at h
    omega
  -- the prices
  have du : ∀ j, j < 3 * n + f → s.t (u + n) j = (S u fun x => (rowsF c g u n) x j * s.t (u + n) (3 * n + f + x)) + (S n fun k => (rowsF c g u n) (u + k) j * s.t (u + n) (3 * n + f + (u + k))) - s.d * worF n j := fun j hj => by
    have h := G.dual (wide := 3 * n + f) (by omega) A0_unit (i := u + n) (by omega) (j := j) (by omega)
    rw [if_neg (by omega), S_split, A0_gain hj] at h
    rw [S_congr (f := fun q => (A0 (rowsF c g u n) (3 * n + f) (u + n) (amtF u) (worF n)) q j * s.t (u + n) (3 * n + f + q)) fun x hx => by rw [A0_rows (by omega) hj], S_congr (f := fun q => (A0 (rowsF c g u n) (3 * n + f) (u + n) (amtF u) (worF n)) (u + q) j * s.t (u + n) (3 * n + f + (u + q))) fun x hx => by rw [A0_rows (by omega) hj]] at h
    rw [Int.mul_neg] at h
    omega
  have y1 : ∀ k, k < n → s.t (u + n) k = (S u fun x => c x k * s.t (u + n) (3 * n + f + x)) + s.t (u + n) (3 * n + f + (u + k)) - s.d := fun k hk => by
    rw [du k (by omega), S_congr (f := fun x => (rowsF c g u n) x k * s.t (u + n) (3 * n + f + x)) fun x hx => by rw [R_lo hx hk],
      S_only (f := fun q => (rowsF c g u n) (u + q) k * s.t (u + n) (3 * n + f + (u + q))) k hk fun q hq hne => by rw [R_hi hk, if_neg hne, Int.zero_mul], R_hi hk, if_pos rfl]
    have e1 : worF n k = 1 := if_pos hk
    rw [e1]; omega
  have y2 : ∀ k, k < n → s.t (u + n) (n + k) = S u fun x => c x k * s.t (u + n) (3 * n + f + x) := fun k hk => by
    rw [du (n + k) (by omega), S_congr (f := fun x => (rowsF c g u n) x (n + k) * s.t (u + n) (3 * n + f + x)) fun x hx => by rw [R_lo2 hx hk],
      S_zero (f := fun q => (rowsF c g u n) (u + q) (n + k) * s.t (u + n) (3 * n + f + (u + q))) fun q hq => by rw [R_hi2 hk, Int.zero_mul]]
    have e1 : worF n (n + k) = 0 := if_neg (by omega)
    rw [e1]; omega
  have y3 : ∀ k, k < n → s.t (u + n) (2 * n + k) = s.t (u + n) (3 * n + f + (u + k)) := fun k hk => by
    rw [du (2 * n + k) (by omega), S_zero (f := fun x => (rowsF c g u n) x (2 * n + k) * s.t (u + n) (3 * n + f + x)) fun x hx => by rw [R_lo3 hx hk, Int.zero_mul],
      S_only (f := fun q => (rowsF c g u n) (u + q) (2 * n + k) * s.t (u + n) (3 * n + f + (u + q))) k hk fun q hq hne => by rw [R_hi3 hk, if_neg hne, Int.zero_mul], R_hi3 hk, if_pos rfl]
    have e1 : worF n (2 * n + k) = 0 := if_neg (by omega)
    rw [e1]; omega
  have y4 : ∀ q, q < f → s.t (u + n) (3 * n + q) = S u fun x => g x q * s.t (u + n) (3 * n + f + x) := fun k hk => by
    rw [du (3 * n + k) (by omega), S_congr (f := fun x => (rowsF c g u n) x (3 * n + k) * s.t (u + n) (3 * n + f + x)) fun x hx => by rw [R_lo4 hx],
      S_zero (f := fun q => (rowsF c g u n) (u + q) (3 * n + k) * s.t (u + n) (3 * n + f + (u + q))) fun q hq => by rw [R_hi4, Int.zero_mul]]
    have e1 : worF n (3 * n + k) = 0 := if_neg (by omega)
    rw [e1]; omega
  have p0 : ∀ k, k < n → 0 ≤ S u fun x => c x k * s.t (u + n) (3 * n + f + x) := fun k hk => by rw [← y2 k hk]; exact h0 _ (by omega)
  have fa : ∀ q, q < f → 0 ≤ S u fun x => g x q * s.t (u + n) (3 * n + f + x) := fun k hk => by rw [← y4 k hk]; exact h0 _ (by omega)
  generalize hY : (fun q => s.t (u + n) (3 * n + f + q)) = Y at *
  have hY' : ∀ q, s.t (u + n) (3 * n + f + q) = Y q := fun q => congrFun hY q
  simp only [hY'] at p0 fa y1 y2 y3 y4
  refine ⟨hd, x0, fl, p0, fun k hk hX => ?_, fun k hk hX => ?_, fa⟩
  · -- summed with the flow
    have tot : (S n fun k => (X k + X (n + k)) * S u fun x => c x k * Y x) + (S f fun q => X (3 * n + q) * S u fun x => g x q * Y x) = 0 := by
      have e1 : (S n fun k => (X k + X (n + k)) * S u fun x => c x k * Y x) = S u fun x => Y x * S n fun k => c x k * (X k + X (n + k)) := by
        rw [S_congr (fun k (hk : k < n) => (S_mul u (X k + X (n + k)) (fun x => c x k * Y x)).symm), S_swap]
        exact S_congr fun x hx => by rw [← S_mul]; exact S_congr fun k hk => by grind
      have e2 : (S f fun q => X (3 * n + q) * S u fun x => g x q * Y x) = S u fun x => Y x * S f fun q => g x q * X (3 * n + q) := by
        rw [S_congr (fun q (hq : q < f) => (S_mul u (X (3 * n + q)) (fun x => g x q * Y x)).symm), S_swap]
        exact S_congr fun x hx => by rw [← S_mul]; exact S_congr fun k hk => by grind
      rw [e1, e2, ← S_add]
      refine S_zero fun x hx => ?_
      rw [← Int.mul_add, fl x hx, Int.mul_zero]
    have n1 : ∀ k, k < n → 0 ≤ (X k + X (n + k)) * S u fun x => c x k * Y x := fun k hk => Int.mul_nonneg (by have := x0 k; have := x0 (n + k); omega) (p0 k hk)
    have n2 : ∀ q, q < f → 0 ≤ X (3 * n + q) * S u fun x => g x q * Y x := fun q hq => Int.mul_nonneg (x0 _) (fa q hq)
    have a := S_nonneg n1
    have b := S_nonneg n2
    have z := S_zero_of n1 (by omega) k hk
    rcases Int.mul_eq_zero.mp z with z | z
    · have := x0 (n + k); omega
    · exact z
  · have a := sh k hk
    have b := sl (2 * n + k) (by omega)
    have e1 := y1 k hk
    have e3 := y3 k hk
    have e0 := h0 k (by omega)
    omega
end
end TN
namespace TN
open L2
/-! ### numbers: greatest common divisors, sizes -/
/-- numbers of fewer than k bits -/
def Bits (k : Nat) (x : Int) : Prop := x.natAbs < 2 ^ k
theorem gcd_pos (x : Int) {d : Int} (hd : 0 < d) : (0 : Int) < (Int.gcd x d : Int) := by
  have : Int.gcd x d ≠ 0 := fun h => by
    have := (Int.gcd_eq_zero_iff.mp h).2
    omega
  omega
theorem gcd_le (x : Int) {d : Int} (hd : 0 < d) : (Int.gcd x d : Int) ≤ d := Int.le_of_dvd hd (Int.gcd_dvd_right ..)
theorem Bits.mono {a b : Nat} {x : Int} (h : Bits a x) (l : a ≤ b) : Bits b x := Nat.lt_of_lt_of_le h (Nat.pow_le_pow_right (by decide) l)
theorem Bits.le {a : Nat} {x y : Int} (h0 : 0 ≤ x) (h : x ≤ y) (hb : Bits a y) : Bits a x := wide_le h0 h hb
theorem Bits.mul {a b : Nat} {x y : Int} (h : Bits a x) (h' : Bits b y) : Bits (a + b) (x * y) := wide_lt h h'
theorem Bits.add {a : Nat} {x y : Int} (h : Bits a x) (h' : Bits a y) : Bits (a + 1) (x + y) := by
  unfold Bits at *
  rw [Nat.pow_succ]
  omega
theorem Bits.neg {a : Nat} {x : Int} (h : Bits a x) : Bits a (-x) := by
  unfold Bits at *
  rw [Int.natAbs_neg]; exact h
theorem Bits.sub {a : Nat} {x y : Int} (h : Bits a x) (h' : Bits a y) : Bits (a + 1) (x - y) := by
  rw [Int.sub_eq_add_neg]; exact h.add h'.neg
theorem bits_of {a : Nat} {x : Int} (m : Nat) (h : x.natAbs ≤ m) (hm : m < 2 ^ a) : Bits a x := Nat.lt_of_le_of_lt h hm
theorem mulW {a b : Nat} {x y : Int} (h : Bits a x) (h' : Bits b y) (l : 0 < a ∧ 0 < b ∧ a + b ≤ 1000000) : CMulW x y := wide_mul h h' l.1 l.2.1 l.2.2
theorem divW {b : Nat} {x y : Int} (h0 : 0 < y) (h : Bits b y) (l : 0 < b ∧ b ≤ 9000) : CDivW x y := wide_div h0 h l.1 l.2
theorem gcd_bits {x d : Int} {a : Nat} (hd : 0 < d) (h : Bits a d) : Bits a (Int.gcd x d : Int) := h.le (Int.natCast_nonneg _) (gcd_le x hd)
theorem div_bits {x d : Int} {a : Nat} (hx : 0 ≤ x) (hd : 0 < d) (h : Bits a x) : Bits a (x / d) := h.le (Int.ediv_nonneg hx (by omega)) (Int.ediv_le_self d hx)
theorem divS_bits {x d : Int} {a : Nat} (hd : 0 < d) (h : Bits a x) : Bits a (x / d) := by
  unfold Bits at *
  refine Nat.lt_of_le_of_lt ?_ h
  have h1 := Int.ediv_mul_le x (Int.ne_of_gt hd)
  have h2 : x < (x / d + 1) * d := by
    have := Int.lt_ediv_add_one_mul_self x hd
    exact this
  by_cases hx : 0 ≤ x
  · have := Int.ediv_nonneg hx (Int.le_of_lt hd)
    have := Int.ediv_le_self d hx
    omega
  · have h3 : x / d < 0 := Int.ediv_neg_of_neg_of_pos (by omega) hd
    have h4 : x ≤ x / d := by
      have h5 : x / d * d ≤ x / d * 1 := Int.mul_le_mul_of_nonpos_left (by omega) (by omega)
      -- from x < (x / d + 1) * d and x / d + 1 ≤ 0
      have h6 : (x / d + 1) * d ≤ (x / d + 1) * 1 := Int.mul_le_mul_of_nonpos_left (by omega) (by omega)
      omega
    omega
theorem gcd_step {x y : Int} (hx : 0 ≤ x) (hy : 0 < y) : Int.gcd y (x % y) = Int.gcd x y := by
  obtain ⟨a, rfl⟩ := Int.eq_ofNat_of_zero_le hx
  obtain ⟨b, rfl⟩ := Int.eq_ofNat_of_zero_le (Int.le_of_lt hy)
  show Nat.gcd b ((a : Int) % b).natAbs = Nat.gcd a b
  rw [← Int.natCast_emod, Int.natAbs_natCast, Nat.gcd_comm a b, Nat.gcd_comm b (a % b), ← Nat.gcd_rec]
end TN
namespace TN
/-! ### the steps on the task: they end, with small numbers, at one end -/
/-- the numbers of a tableau are small enough -/
def Small (wide m : Nat) (s : Sx) : Prop := 0 < s.d ∧ Bits 4000 s.d ∧ ∀ i, i < m + 2 → ∀ j, j < wide + m + 1 → Bits 4000 (s.t i j)
/-- the end of the steps -/
def FinU (rows : Nat → Nat → Int) (wide m : Nat) (amt w : Nat → Int) (u : Sx) : Prop := ∃ u1, Reach (p1 wide m) (S0 rows wide m amt w) u1 ∧ u1.next (p1 wide m) = none ∧ Reach (p2 wide m) (u1.clears wide m) u ∧ u.next (p2 wide m) = none
theorem Reach.head {p : Pr} {s u : Sx} (R : Reach p s u) : u = s ∨ ∃ w, s.next p = some w ∧ Reach p w u := by
  induction R with
  | refl => exact .inl rfl
  | @step x v R h ih =>
    rcases ih with rfl | ⟨w, h1, h2⟩
    · exact .inr ⟨v, h, .refl v⟩
    · exact .inr ⟨w, h1, .step h2 h⟩
theorem Reach.last {p : Pr} {s u v : Sx} (R : Reach p s u) (R' : Reach p s v) : Reach p u v ∨ Reach p v u := by
  induction R with
  | refl => exact .inl R'
  | @step x w R h ih =>
    rcases ih with ih | ih
    · rcases ih.head with rfl | ⟨y, h1, h2⟩
      · exact .inr (.step (.refl v) h)
      · rw [h] at h1
        obtain rfl := Option.some.inj h1
        exact .inl h2
    · exact .inr (.step ih h)
theorem Reach.stuck {p : Pr} {u v : Sx} (R : Reach p u v) (h : u.next p = none) : v = u := by
  rcases R.head with e | ⟨w, h1, _⟩
  · exact e
  · rw [h] at h1; cases h1
theorem Reach.one {p : Pr} {s u v : Sx} (R : Reach p s u) (h : u.next p = none) (R' : Reach p s v) (h' : v.next p = none) : u = v := by
  rcases R.last R' with e | e
  · exact (e.stuck h).symm
  · exact e.stuck h'
theorem FinU.one {rows : Nat → Nat → Int} {wide m : Nat} {amt w : Nat → Int} {u v : Sx} (h : FinU rows wide m amt w u) (h' : FinU rows wide m amt w v) : u = v := by
  obtain ⟨u1, a1, a2, a3, a4⟩ := h
  obtain ⟨v1, b1, b2, b3, b4⟩ := h'
  obtain rfl := a1.one a2 b1 b2
  exact a3.one a4 b3 b4
theorem fac_pow : ∀ k, fac k ≤ k ^ k
  | 0 => by decide
  | k + 1 => by
    show (k + 1) * fac k ≤ (k + 1) ^ (k + 1)
    rw [Nat.pow_succ, Nat.mul_comm]
    exact Nat.mul_le_mul_right _ (Nat.le_trans (fac_pow k) (Nat.pow_le_pow_left (by omega) k))
theorem pow_few {k : Nat} (hk : k ≤ 58) : fac k * (2 ^ 46) ^ k < 2 ^ 4000 := by
  have h1 : fac k * (2 ^ 46) ^ k ≤ (k * 2 ^ 46) ^ k := by
    rw [Nat.mul_pow]
    exact Nat.mul_le_mul_right _ (fac_pow k)
  have h2 : (k * 2 ^ 46) ^ k ≤ (2 ^ 52) ^ k := Nat.pow_le_pow_left (by
    have : k * 2 ^ 46 ≤ 64 * 2 ^ 46 := Nat.mul_le_mul_right _ (by omega)
    exact Nat.le_trans this (by decide)) k
  have h3 : (2 ^ 52) ^ k ≤ (2 ^ 52) ^ 58 := Nat.pow_le_pow_right (by decide) hk
  have h4 : (2 ^ 52) ^ 58 < 2 ^ 4000 := by
    rw [← Nat.pow_mul]
    exact Nat.pow_lt_pow_right (by decide) (by decide)
  omega
/-- the task's numbers -/
structure Lim (cc gg : Nat → Nat → Int) (u n f : Nat) : Prop where
  n1 : 1 ≤ n
  n36 : n ≤ 36
  f4 : f ≤ 4
  u20 : u ≤ 20
  c : ∀ x, x < u → ∀ k, k < n → (cc x k).natAbs ≤ 1000000000000
  g : ∀ x, x < u → ∀ k, k < f → (gg x k).natAbs ≤ 1
section
variable {cc gg : Nat → Nat → Int} {u n f : Nat} {s : Sx}
abbrev AT' (cc gg : Nat → Nat → Int) (u n f : Nat) : Nat → Nat → Int := A0 (rowsF cc gg u n) (3 * n + f) (u + n) (amtF u) (worF n)
theorem rowsF_le (L : Lim cc gg u n f) {x j : Nat} (hx : x < u + n) (hj : j < 3 * n + f) : (rowsF cc gg u n x j).natAbs ≤ 1000000000000 := by
  unfold rowsF
  split
  · split
    · exact L.c _ (by assumption) _ (by assumption)
    · split
      · exact L.c _ (by assumption) _ (by omega)
      · split
        · decide
        · exact Nat.le_trans (L.g _ (by assumption) _ (by omega)) (by decide)
  · repeat' split
    all_goals decide
theorem amtF_le {x : Nat} : (amtF u x).natAbs ≤ 1 := by
  unfold amtF; split <;> decide
theorem worF_le {j : Nat} : (- worF n j).natAbs ≤ 1 := by
  unfold worF; split <;> decide
theorem A0_le (L : Lim cc gg u n f) : ∀ x, x < u + n + 2 → ∀ j, j < 3 * n + f + (u + n) + 1 → (AT' cc gg u n f x j).natAbs ≤ 2 ^ 46 := fun x hx j hj => by
  have n36 := L.n36
  have u20 := L.u20
  have hm : (u + n) * 1000000000000 ≤ 56 * 1000000000000 := Nat.mul_le_mul_right _ (by omega)
  unfold AT' A0
  split
  · split
    · exact Nat.le_trans (rowsF_le L (by assumption) (by assumption)) (by decide)
    · split
      · split <;> decide
      · exact Nat.le_trans amtF_le (by decide)
  · split
    · split
      · exact Nat.le_trans worF_le (by decide)
      · decide
    · split
      · rw [Int.natAbs_neg]
        refine Nat.le_trans (S_abs fun q hq => rowsF_le L hq (by assumption)) (Nat.le_trans hm (by decide))
      · split
        · decide
        · rw [Int.natAbs_neg]
          refine Nat.le_trans (S_abs (b := 1000000000000) fun q hq => Nat.le_trans amtF_le (by decide)) (Nat.le_trans hm (by decide))
theorem Ok.small (L : Lim cc gg u n f) {p : Pr} (hp : p.m = u + n) (O : Ok (AT' cc gg u n f) (3 * n + f + (u + n) + 1) p s) : Small (3 * n + f) (u + n) s := by
  have n36 := L.n36
  have u20 := L.u20
  obtain ⟨e, G⟩ := O.good
  rw [hp] at G
  have ⟨b1, b2⟩ := G.bound (b := 2 ^ 46) (by decide) (A0_le L)
  have few := pow_few (k := u + n + 2) (by omega)
  exact ⟨G.pos, Nat.lt_of_le_of_lt b1 few, fun i hi j hj => Nat.lt_of_le_of_lt (b2 i hi j hj) few⟩
theorem Ok.most (L : Lim cc gg u n f) {p : Pr} (hp : p.m = u + n) (O : Ok (AT' cc gg u n f) (3 * n + f + (u + n) + 1) p s) : s.d ≤ ((2 ^ 4000 : Nat) : Int) := by
  have ⟨h1, h2, _⟩ := O.small L hp
  unfold Bits at h2
  generalize (2 : Nat) ^ 4000 = M at *
  omega
theorem begins (L : Lim cc gg u n f) : Ok (AT' cc gg u n f) (3 * n + f + (u + n) + 1) (p1 (3 * n + f) (u + n)) (S0 (rowsF cc gg u n) (3 * n + f) (u + n) (amtF u) (worF n)) := S0_ok (amtF_nonneg (n := n))
theorem phase_a (L : Lim cc gg u n f) : (S0 (rowsF cc gg u n) (3 * n + f) (u + n) (amtF u) (worF n)).ends (p1 (3 * n + f) (u + n)) ∧ ∀ v, Reach (p1 (3 * n + f) (u + n)) (S0 (rowsF cc gg u n) (3 * n + f) (u + n) (amtF u) (worF n)) v → Small (3 * n + f) (u + n) v :=
  ⟨ends_all (fit1 _ _) (M := 2 ^ 4000) (U := 0) (fun s O => O.most L rfl) (fun s O => bound1 O) _ (begins L), fun v R => (R.ok (fit1 _ _) (begins L)).small L rfl⟩
theorem cleared (L : Lim cc gg u n f) {v : Sx} (R : Reach (p1 (3 * n + f) (u + n)) (S0 (rowsF cc gg u n) (3 * n + f) (u + n) (amtF u) (worF n)) v) (h : v.next (p1 (3 * n + f) (u + n)) = none) : v.t (u + n + 1) (3 * n + f + (u + n)) = 0 ∧ ∀ k, k ≤ u + n → Clr (rowsF cc gg u n) (3 * n + f) (u + n) (amtF u) (worF n) k (v.clears (3 * n + f) k) := by
  have O := R.ok (fit1 _ _) (begins L)
  have ⟨h1, h2⟩ := phase1 O h (X0_nonneg (n := n) (f := f)) (X0_solves (c := cc) (g := gg) (u := u) (n := n) (f := f))
  exact ⟨h1, clears_ok ⟨O, h2, fun i _ hi => absurd hi (Nat.not_lt_zero _)⟩⟩
theorem phase_b (L : Lim cc gg u n f) {v : Sx} (R : Reach (p1 (3 * n + f) (u + n)) (S0 (rowsF cc gg u n) (3 * n + f) (u + n) (amtF u) (worF n)) v) (h : v.next (p1 (3 * n + f) (u + n)) = none) :
    v.t (u + n + 1) (3 * n + f + (u + n)) = 0 ∧ (∀ k, k ≤ u + n → Small (3 * n + f) (u + n) (v.clears (3 * n + f) k)) ∧ (v.clears (3 * n + f) (u + n)).ends (p2 (3 * n + f) (u + n)) ∧ ∀ w, Reach (p2 (3 * n + f) (u + n)) (v.clears (3 * n + f) (u + n)) w → Small (3 * n + f) (u + n) w := by
  have ⟨h1, h2⟩ := cleared L R h
  have O := (h2 (u + n) (Nat.le_refl _)).ok.two
  exact ⟨h1, fun k hk => (h2 k hk).ok.small L rfl, ends_all (fit2 _ _) (M := 2 ^ 4000) (fun s O => O.most L rfl) (fun s O => bound2 O) _ O, fun w R => (R.ok (fit2 _ _) O).small L rfl⟩
/-- at the end -/
structure Done (cc gg : Nat → Nat → Int) (u n f : Nat) (w : Sx) : Prop where
  enter : w.enter (p2 (3 * n + f) (u + n)) = none
  small : Small (3 * n + f) (u + n) w
  inj : ∀ i j, i < u + n → j < u + n → w.B i = w.B j → i = j
  ok : Ok (AT' cc gg u n f) (3 * n + f + (u + n) + 1) (p2 (3 * n + f) (u + n)) w
  ans : Ans cc gg u n f w.d (valOf (p2 (3 * n + f) (u + n)) w) fun q => w.t (u + n) (3 * n + f + q)
theorem FinU.done (L : Lim cc gg u n f) {w : Sx} (h : FinU (rowsF cc gg u n) (3 * n + f) (u + n) (amtF u) (worF n) w) : Done cc gg u n f w := by
  obtain ⟨v, a1, a2, a3, a4⟩ := h
  have ⟨h1, h2⟩ := cleared L a1 a2
  have O := (h2 (u + n) (Nat.le_refl _)).ok.two
  have O2 := a3.ok (fit2 _ _) O
  have D := a3.dead O (h2 (u + n) (Nat.le_refl _)).dead
  obtain ⟨e, G⟩ := O2.g2
  exact ⟨phase2_enter O2 a4, O2.small L rfl, fun i j hi hj e => G.inj hi hj e, O2, answer O2 D a4⟩
end
end TN
namespace TW
open PySem L2 Evl
/-! ### the text -/
def top (i : Nat) : Stmt := PySem.Challenge.pw_turnsneeded_k37_whole_great_programs.main.body.getD i (.Pass ⟨0, 0, 0, 0⟩)
abbrev FnP (K : PySem.W.Frag) (x q : Str) (st : Stmt) (f : Addr) (fd : FuncData) : Prop := FunD K x q (defArgs st) (defBody st) (defScope st) [] [] f fd
/-! ### what is called: a def, a method, a class -/
structure Cal (P : Program) (w : World) (K : PySem.W.Frag) (mg : Str → Option Value) (base : Heap) (x : Str) (k : Nat) (ps : List Str) (sp : Sp) : Prop where
  ex : ∃ (f : Addr) (fd : FuncData), FnOk P w K mg base CX0 k f fd ps sp ∧ mg x = some (.ref f) ∧ PySem.W.keepIn K (.ref f) = true ∧ Binds K fd ps []
structure MCal (P : Program) (w : World) (K : PySem.W.Frag) (mg : Str → Option Value) (base : Heap) (C : Addr) (m : Str) (k : Nat) (ps : List Str) (sp : Sp) : Prop where
  ex : ∃ (f : Addr) (fd : FuncData), FnOk P w K mg base CX0 k f fd ps sp ∧ Meth K C m f ∧ Binds K fd ps []
structure KCal (P : Program) (w : World) (K : PySem.W.Frag) (mg : Str → Option Value) (base : Heap) (C : Addr) (x : Str) (k : Nat) (ps : List Str) (sp : Sp) : Prop where
  ex : ∃ (f : Addr) (fd : FuncData), FnOk P w K mg base CX0 k f fd ps sp ∧ Mk K C f ∧ mg x = some (.ref C) ∧ Binds K fd ps []
section
variable {X : Cx} {x m : Str} {k : Nat} {ps : List Str} {sp : Sp} {e o : Expr} {es : List Expr} {t : TA} {ta : TE} {p pos apos : Pos} {C : Addr}
theorem pe_cal (c : Cal X.prog X.w X.K X.mg X.base x k ps sp) (hr : Room k X.A) (hg : Gl X x) (ha : PA X (e :: es) t) (hdb : (x == ("__debug__" : Str)) = false := by decide)
    (he : starEach (e :: es) X.env = (false, eval e X.env) :: starEach es X.env := by rfl) (hpl : (backTo pos (starEach es X.env)).any (·.1) = false := by rfl) : PE X (.Call (.Name x p) (e :: es) [] pos) (tCall sp [] E0 t) := by
  obtain ⟨f, fd, G, hm, hk, hb⟩ := c.ex
  exact pe_call G hr hg hm hk hb .nil pass0 ha hdb he hpl
theorem pe_mcal {pl : Sem Bool} (he : PE X o ta) (cl : Cls X.K C) (c : MCal X.prog X.w X.K X.mg X.base C m k ps sp) (hr : Room k X.A) (ha : PA X (e :: es) t)
    (hst : starEach (e :: es) X.env = (false, eval e X.env) :: starEach es X.env := by rfl) (hpl : (backTo pos (starEach es X.env)).any (·.1) = false := by rfl)
    (ht : eval (.Call (.Attribute o m apos) (e :: es) [] pos) X.env = (do
      let ov ← eval o X.env
      standAt apos.atName
      let (f, first) ← holding [ov] (getMethod ov m pl)
      callWith pos f first (backTo pos (starEach (e :: es) X.env)) (backToKw pos (keywordEach [] X.env))) := by rfl) :
    PE X (.Call (.Attribute o m apos) (e :: es) [] pos) (tMeth C m sp [] E0 ta t) := by
  obtain ⟨f, fd, G, hm, hb⟩ := c.ex
  exact pe_meth (pl := pl) he cl hm G hr hb .nil pass0 ha hst hpl ht
theorem pe_mcal0 {pl : Sem Bool} (he : PE X o ta) (cl : Cls X.K C) (c : MCal X.prog X.w X.K X.mg X.base C m k ps sp) (hr : Room k X.A)
    (ht : eval (.Call (.Attribute o m apos) [] [] pos) X.env = (do
      let ov ← eval o X.env
      standAt apos.atName
      let (f, first) ← holding [ov] (getMethod ov m pl)
      callWith pos f first (backTo pos (starEach [] X.env)) (backToKw pos (keywordEach [] X.env))) := by rfl) :
    PE X (.Call (.Attribute o m apos) [] [] pos) (tMeth C m sp [] E0 ta tNil) := by
  obtain ⟨f, fd, G, hm, hb⟩ := c.ex
  exact pe_meth0 (pl := pl) he cl hm G hr hb .nil pass0 ht
theorem pe_kcal (c : KCal X.prog X.w X.K X.mg X.base C x k ps sp) (hr : Room (k + 1) X.A) (hg : Gl X x) (ha : PA X (e :: es) t) (hdb : (x == ("__debug__" : Str)) = false := by decide)
    (he : starEach (e :: es) X.env = (false, eval e X.env) :: starEach es X.env := by rfl) (hpl : (backTo pos (starEach es X.env)).any (·.1) = false := by rfl) : PE X (.Call (.Name x p) (e :: es) [] pos) (tMake C sp [] E0 t) := by
  obtain ⟨f, fd, G, M, hm, hb⟩ := c.ex
  exact pe_make M G hr hg hm hb .nil pass0 ha hdb he hpl
end
/-! ### the operators' relations by short names -/
abbrev rAddI : R2 := rI0 fun i j => .int (i + j)
abbrev rSubI : R2 := rI0 fun i j => .int (i - j)
abbrev rMulI : R2 := rI CMulW fun i j => .int (i * j)
abbrev rDivI : R2 := rI CDivW fun i j => .int (i / j)
abbrev rModI : R2 := rI (fun _ j => 0 < j) fun i j => .int (i % j)
abbrev rPowI : R2 := rI CPow fun i j => .int (i ^ j.toNat)
abbrev rLtI : R2 := rI0 fun i j => .bl (decide (i < j))
abbrev rLeI : R2 := rI0 fun i j => .bl (decide (i ≤ j))
abbrev rGtI : R2 := rI0 fun i j => .bl (decide (j < i))
abbrev rGeI : R2 := rI0 fun i j => .bl (decide (j ≤ i))
abbrev rNegI : V → Hp → VK → Prop := rU fun i => .int (-i)
def rIsNo : R2 := fun x y H Q => y = .non ∧ Q (.bl (decide (x = .non))) H
def rNotNo : R2 := fun x y H Q => y = .non ∧ Q (.bl (!decide (x = .non))) H
def rLn (K : PySem.W.Frag) : List V → Hp → VK → Prop := fun xs H Q => ∃ p ys, xs = [.ref p] ∧ (SqL K H p ys ∨ SqT K H p ys) ∧ Q (.int ys.length) H
def rTupOf (K : PySem.W.Frag) : List V → Hp → VK → Prop := fun xs H Q => ∃ p ys, xs = [.ref p] ∧ ((SqL K H p ys ∧ ∀ l, H l = none → Q (.ref l) (upd H l (.tup ys))) ∨ (SqT K H p ys ∧ Q (.ref p) H))
def rLstOf (K : PySem.W.Frag) : List V → Hp → VK → Prop := fun xs H Q => ∃ p ys, xs = [.ref p] ∧ (SqL K H p ys ∨ SqT K H p ys) ∧ ∀ l, H l = none → Q (.ref l) (upd H l (.lst ys))
def rInt1 : List V → Hp → VK → Prop := fun xs H Q => (∃ i, xs = [.int i] ∧ Q (.int i) H) ∨ ∃ k, xs = [.bl k] ∧ Q (.int (if k then 1 else 0)) H
def rAbs1 : List V → Hp → VK → Prop := fun xs H Q => ∃ i, xs = [.int i] ∧ Q (.int (if i < 0 then -i else i)) H
section
variable {X : Cx}
theorem o_isN : OpR X (compareOp .Is) rIsNo := op_isN
theorem o_notN : OpR X (compareOp .IsNot) rNotNo := op_notN
theorem c_len : CallR X (.builtin "len") (rLn X.K) := call_len_seq
theorem c_tup : CallR X (.type "tuple") (rTupOf X.K) := call_tuple_of
theorem c_lst : CallR X (.type "list") (rLstOf X.K) := call_list_of
theorem c_int : CallR X (.type "int") rInt1 := call_int1
theorem c_abs : CallR X (.builtin "abs") rAbs1 := call_abs
end
/-! ### the built-ins' names are free, the constants stand -/
structure Txt (K : PySem.W.Frag) (mg : Str → Option Value) : Prop where
  len : mg "len" = none
  isinstance : mg "isinstance" = none
  int : mg "int" = none
  bool : mg "bool" = none
  tuple : mg "tuple" = none
  str : mg "str" = none
  all : mg "all" = none
  abs : mg "abs" = none
  range : mg "range" = none
  enumerate : mg "enumerate" = none
  sum : mg "sum" = none
  sorted : mg "sorted" = none
  set : mg "set" = none
  list : mg "list" = none
  zip : mg "zip" = none
  mSides : ∃ t, mg "MOST_SIDES" = some (.int 4 t)
  mTables : ∃ t, mg "MOST_TABLES" = some (.int 8 t)
  mReadings : ∃ t, mg "MOST_READINGS" = some (.int 24 t)
  mStep : ∃ t, mg "MOST_STEP" = some (.int 1000000000000 t)
  worlds : ∃ a, mg "WORLDS" = some (.ref a) ∧ ∀ H, SqT K H a [.str "boxes", .str "corner"]
end TW
namespace TW
open PySem L2 PySem.Spec PyProof.Rows
/-! ### xs[i] as what an augmented store reads -/
theorem get_list {X : Cx} : PGet X (rIxL X.K) := by
  intro pins s σ H x y v u Q I rx ry h
  obtain ⟨p, xs, i, z, rfl, rfl, hq, he, q⟩ := h
  cases rx
  obtain ⟨t, rfl⟩ := ry
  obtain ⟨its, r, pl, hz⟩ := I.list hq
  obtain ⟨j, h1, h2, h3, h4, h5⟩ := atI_get he
  obtain ⟨e, ew, re⟩ := r.get h2
  have hl := r.length
  have h63 := line63
  have good : EP X pins σ Q e s := ⟨z, H, I, re, q⟩
  by_cases h0 : 0 ≤ i
  · have hj : i.toNat = j := Option.some.inj ((seqIndex_of h0 h5).symm.trans h1)
    exact wpAny_getItem_list pl.isList h0 (by omega) (by rw [hj]; simpa using ew) good
  · have hj : (i + (its.toArray.size : Int)).toNat = j := by
      rw [seqIndex_neg (by omega) h4] at h1
      rw [List.size_toArray, ← hl]; exact Option.some.inj h1
    exact wpAny_getItem_list_neg pl.isList (by omega) (by rw [List.size_toArray] <;> omega) (by omega) (by rw [hj]; simpa using ew) good
/-! ### for i, x in enumerate(t), t a tuple -/
theorem enum_new_tup (t : Addr) (items : Array Value) (n : Nat) (dct : Option Addr) (sl : Array (Option Value)) :
    Meets (Builtin.«enumerate.__new__» ⟨[.type "enumerate", .ref t], []⟩) (fun _ R s => s.heap.get? t = some { cls := .type "tuple", dict := dct, data := .seq items n, slots := sl } ∧
      R (.ok (.ret (.ref (s.heap.push { cls := .type "tuple_iterator", data := .fields #[.ref t, .int 0 0] }).objs.size)))
        { s with heap := (s.heap.push { cls := .type "tuple_iterator", data := .fields #[.ref t, .int 0 0] }).push { cls := .type "enumerate", data := .fields #[.none, .bool false, .ref s.heap.objs.size, rawInt 0, .none, .none] } }) :=
  .of_wp fun prog w A R s h => by
    obtain ⟨hp, gs, dr, tk, os⟩ := s
    obtain ⟨hl, h⟩ := h
    have hsub := sub_enumerate
    have hT : Heap.IsTuple (Shared.heap ⟨hp, gs, dr, tk, os⟩) t items := ⟨_, hl, rfl, n, rfl⟩
    wp_walk using wpAny_loadPart' hl
    refine wpAny_stack_any fun st => wpAny_pure ?_
    split
    · rename_i c _ _ _ _ _
      cases (c == Value.type "enumerate") <;> (wp_walk using wpAny_loadPart' hl, wpAny_pyIter_tuple hT; exact ⟨_, rfl, h⟩)
    · wp_walk using wpAny_loadPart' hl, wpAny_pyIter_tuple hT
      exact ⟨_, rfl, h⟩
section
variable {prog : Program} {w : World} {A : Around} {E : Value → Shared → Prop} {s : Shared}
theorem call_enum_tup {t : Addr} {items : Array Value} {Q : Value → Shared → Prop} (hT : s.heap.IsTuple t items)
    (h : ∀ h', IsEnum h' (s.heap.objs.size + 1) s.heap.objs.size 0 .none → h'.IsTupleIter s.heap.objs.size t 0 → h'.objs.size = s.heap.objs.size + 2 →
      (∀ b o, s.heap.get? b = some o → h'.get? b = some o) → Q (.ref (s.heap.objs.size + 1)) { s with heap := h' }) :
    wpAny (model prog w) A (call (.type "enumerate") [.ref t]) Q E s := by
  obtain ⟨⟨c, dct, dt, sl⟩, ho, hc, n, hd⟩ := hT
  replace hc : c = .type "tuple" := hc
  replace hd : dt = .seq items n := hd
  subst hc hd
  refine callType_new F.called_enumerate (by decide) (F.typeCall_enumerate_1 _) (F.newCall_enumerate_1 _) (fun obj => F.args_object_init_2 obj _) F.entry_enumerate_new
    (enum_new_tup t items n dct sl) ⟨ho, ?_⟩
  have sz : (s.heap.push { cls := .type "tuple_iterator", data := .fields #[.ref t, .int 0 0] }).objs.size = s.heap.objs.size + 1 := Heap.size_push ..
  show _ ∧ _
  rw [sz]
  have e1 : IsEnum ((s.heap.push { cls := .type "tuple_iterator", data := .fields #[.ref t, .int 0 0] }).push
      { cls := .type "enumerate", data := .fields #[.none, .bool false, .ref s.heap.objs.size, rawInt 0, .none, .none] }) (s.heap.objs.size + 1) s.heap.objs.size 0 .none := by
    have q := Heap.get?_push_size (s.heap.push { cls := .type "tuple_iterator", data := .fields #[.ref t, .int 0 0] })
      (o := { cls := .type "enumerate", data := .fields #[.none, .bool false, .ref s.heap.objs.size, rawInt 0, .none, .none] }) rfl
    rw [sz] at q
    exact q
  refine ⟨⟨_, e1, rfl⟩, h _ e1 ⟨_, Heap.get?_push_of_some _ (Heap.get?_push_size _ rfl), rfl, rfl⟩ ?_ fun b o q => Heap.get?_push_of_some _ (Heap.get?_push_of_some _ q)⟩
  rw [Heap.size_push, sz]
end
def IteT (K : PySem.W.Frag) (a : Addr) : It :=
  ⟨fun i H => ∃ (xs : List V) (x : V), SqT K H a xs ∧ xs[i]? = some x,
   fun i H v H' => ∃ T x, v = .ref T ∧ H T = none ∧ H' = upd H T (.tup [.int (i : Nat), x]) ∧ ∀ xs, SqT K H a xs → xs[i]? = some x,
   fun i H => ∃ xs : List V, SqT K H a xs ∧ xs.length ≤ i⟩
theorem turn_enumT {P : Program} {w : World} {K : PySem.W.Frag} {elts : List Expr} {kk : Nat} {tpos : Pos} (a e it : Addr) :
    Turn P w K (.Tuple elts kk tpos) (IteT K a) [e, it] e (fun i h => (∃ old, IsEnum h e it ((i : Nat) : Int) old) ∧ h.IsTupleIter it a i ∧ e ≠ it ∧ a ≠ it ∧ e ≠ a) where
  mem := by simp
  obj := fun i h st b hb => by
    obtain ⟨⟨old, he⟩, ⟨o, ho, hc, hd⟩, _⟩ := st
    rcases (show b = e ∨ b = it by simpa using hb) with z | z <;> subst z
    · exact ⟨_, he, fun v q => nomatch q⟩
    · exact ⟨o, ho, fun v q => by rw [hd] at q; cases q⟩
  keep := fun i h h' st k => by
    obtain ⟨⟨old, he⟩, hi, hne⟩ := st
    exact ⟨⟨old, k e (by simp) _ he⟩, hi.at fun o q => k it (by simp) o q, hne⟩
  item := by
    intro X hP hw hK hc i pins s σ H E I hf st hg
    subst hP hw hK
    obtain ⟨⟨old, he⟩, hit, hne, hai, hea⟩ := st
    obtain ⟨xs, x, hq, hx⟩ := hg
    obtain ⟨its, rv, p, hz⟩ := I.tuple hq
    obtain ⟨u, hu, ru⟩ := rv.get hx
    have hil : i < its.toArray.size := by
      have := (List.getElem?_eq_some_iff.mp hu).1
      simpa using this
    have hel : e < s.heap.objs.size := Heap.lt_size he
    have hitl : it < s.heap.objs.size := by obtain ⟨_, q, _⟩ := hit; exact Heap.lt_size q
    have pT : s.heap.IsTuple a its.toArray := p
    have D : Draws X.prog X.w X.A.in1 it [it, a] its.toArray.size (fun i v => its.toArray[i]? = some v) (fun i h => h.IsTupleIter it a i ∧ h.IsTuple a its.toArray) := Draws.tuple (A := X.A.in1) (I.ok.hd hc) it a hai its.toArray
    refine wpAny_pyNext_enum_itemC D he ⟨hit, pT⟩ hil hne (by simp [hne, hea]) fun v h' tk hP ho hs' hT hsz hk => ?_
    have ev : v = u := by
      have : its[i]? = some v := by simpa using hP
      rw [hu] at this; exact (Option.some.inj this).symm
    subst ev
    refine ⟨_, rfl, wpAny_letOwnedTupleGo_enum (s := { s with heap := h', toks := tk + 1 }) ho fun h'' he' sb => ?_⟩
    have hT2 : h''.get? s.heap.objs.size = some { cls := .type "tuple", data := .seq #[.int i tk, v] } := (sb.2 _ (Nat.ne_of_gt hel)).trans hT
    have new : ObjOk X.prog X.w (upd H s.heap.objs.size (.tup [.int (i : Nat), x])) h'' s.heap.objs.size (.tup [.int (i : Nat), x]) :=
      ⟨by show 2 ≤ sizeLine; decide, [.int i tk, v], .cons ⟨_, rfl⟩ (.cons ru .nil), ⟨_, hT2, rfl, _, rfl⟩⟩
    have I1 : Inv X pins σ (upd H s.heap.objs.size (.tup [.int (i : Nat), x])) { s with heap := h'', toks := tk + 1 } :=
      I.turnedNew (ch := [e, it]) (fun b ob hb q => (sb.2 b fun z => hb (by simp [z])).trans (hk b ob (fun z => hb (by simp [z])) (fun z => hb (by simp [z])) q)) hf (Nat.le_refl _) new
    refine ⟨.ref s.heap.objs.size, _, I1, rfl, ⟨_, x, rfl, I.hok.fresh (Nat.le_refl _), rfl, fun ys hy => by rw [I.tuple_inj hy hq]; exact hx⟩, ⟨⟨v, ?_⟩, hs'.1.at fun o q => (sb.2 it (Ne.symm hne)).trans q, hne, hai, hea⟩, fun b hb => ?_⟩
    · rw [show ((i + 1 : Nat) : Int) = (i : Int) + 1 by omega]; exact he'
    · have hb' : b < s.heap.objs.size := by
        rcases (show b = e ∨ b = it by simpa using hb) with z | z <;> subst z
        · exact hel
        · exact hitl
      rw [upd_ne (Nat.ne_of_lt hb')]
      exact (hf b hb).1
  done := by
    intro X hP hw hK hc i pins s σ H E I hf st hg
    subst hP hw hK
    obtain ⟨⟨old, he⟩, hit, hne, hai, hea⟩ := st
    obtain ⟨xs, hq, hx⟩ := hg
    obtain ⟨its, rv, p, hz⟩ := I.tuple hq
    obtain ⟨f0, f1, f2, f3, f4, f5⟩ := hf it (by simp)
    have pT : s.heap.IsTuple a its.toArray := p
    have hT : s.TypeIs (.ref e) "enumerate" := ⟨_, he, rfl⟩
    unfold pyNext
    refine wpAny_bind (wpAny_attempt (wpAny_callSpecial?_slot (name := Str.ofString "__next__") hT F.slot_enumerate_next
      (wpAny_call_entry F.slot_enumerate_next hT F.entry_enumerate_next ?_ (F.args_enumerate_next_1 _))))
    show wpAny _ _ (field (.ref e) 2 >>= _) _ _ _
    refine wpAny_bind (wpAny_field he rfl (x := .ref it) rfl ?_)
    refine wpAny_bind (wpAny_nextOf_tuple_end (I.ok.hd hc) hit pT (by have := rv.length; simp; omega) fun h' x he' hx' => ?_)
    obtain ⟨o, ho, hcl⟩ := hx'
    refine wpAny_bind (wpAny_isInstance (T := "StopIteration") (b := true) ⟨o, ho, hcl⟩ isSubtype_stop ?_)
    exact wpAny_pure ⟨rfl, I.turned (t' := s.toks) (fun b o hb q => he' b o hb q) f0 f1 f3 f4 f5⟩
  self := fun A i s Q E st h => by
    obtain ⟨⟨_, he⟩, _⟩ := st
    exact wpAny_pyIter_enum he h
def iEnumT (K : PySem.W.Frag) (ta : TA) : TI := fun σ H R => ta σ H fun vs H1 => ∃ a xs, vs = [.ref a] ∧ SqT K H1 a xs ∧ R (IteT K a) H1
theorem pi_enumT {X : Cx} {e : Expr} {ta : TA} {p pos tpos : Pos} {elts : List Expr} {kk : Nat} (hg : Gl X "enumerate") (hm : X.mg "enumerate" = none) (ha : PA X [e] ta) (hs : starEach [e] X.env = [(false, eval e X.env)] := by rfl) :
    PI X (.Tuple elts kk tpos) (.Call (.Name "enumerate" p) [e] [] pos) (iEnumT X.K ta) := by
  refine ⟨fun pins s σ H R I h => ?_⟩
  refine Call_ (ld_blt I hg hm boot_enumerate (PyProof.Rows.callWith_type1 (thn (ha.run pos pins s σ H _ I h) fun us s1 ⟨vs, H1, I1, r1, q1⟩ => ?_) hs rfl))
  obtain ⟨a, xs, ex, hq, q⟩ := q1
  subst ex
  cases r1 with
  | cons r rr =>
    cases rr
    cases r
    obtain ⟨its, rv, p', hz⟩ := I1.tuple hq
    have pT : s1.heap.IsTuple a its.toArray := p'
    have al : a < s1.heap.objs.size := by obtain ⟨_, q, _⟩ := pT; exact Heap.lt_size q
    refine call_enum_tup pT fun h' he hit hsz hk => wpAny_pyIter_enum he ?_
    have I2 : Inv X pins σ H1 { s1 with heap := h' } := I1.kept (t' := s1.toks) hk
    refine ⟨s1.heap.objs.size + 1, [s1.heap.objs.size + 1, s1.heap.objs.size], _, _, H1, rfl, I2, turn_enumT a (s1.heap.objs.size + 1) s1.heap.objs.size, ⟨⟨.none, he⟩, hit, Nat.succ_ne_self _, Nat.ne_of_lt al, (Nat.ne_of_lt (Nat.lt_succ_of_lt al)).symm⟩, fun b hb => ?_, q⟩
    have hle : s1.heap.objs.size ≤ b := by
      rcases (show b = s1.heap.objs.size + 1 ∨ b = s1.heap.objs.size by simpa using hb) with z | z <;> subst z
      · exact Nat.le_add_right _ _
      · exact Nat.le_refl _
    exact I1.fpOk hle (I1.hok.fresh hle)
end TW
namespace TW
open PySem L2 PySem.Spec PyProof.Rows
/-! ### a tuple of one item times 0, times 1 -/
theorem tup_mul1 (l : Addr) (items : Array Value) (n : Nat) (dd : Option Addr) (sl : Array (Option Value)) (u : Tok) :
    Meets (Builtin.«tuple.__mul__» ⟨[.ref l, .int 1 u], []⟩) (fun _ R s => s.heap.get? l = some { cls := .type "tuple", dict := dd, data := .seq items n, slots := sl } ∧ R (.ok (.ret (.ref l))) s) :=
  .of_wp fun prog w A R s h => by
    obtain ⟨hp, g, d, tk, os⟩ := s
    obtain ⟨hl, h⟩ := h
    have f1 := AutoSeq1.idx_int
    have c1 : (items.isEmpty || (1 : Int) == 1) = true := by simp
    wp_walk using wpAny_loadPart' hl
    exact ⟨_, rfl, h⟩
theorem tup_mul0 (l : Addr) (items : Array Value) (n : Nat) (dd : Option Addr) (sl : Array (Option Value)) (u : Tok) (he : items.isEmpty = false) :
    Meets (Builtin.«tuple.__mul__» ⟨[.ref l, .int 0 u], []⟩) (fun _ R s => s.heap.get? l = some { cls := .type "tuple", dict := dd, data := .seq items n, slots := sl } ∧
      R (.ok (.ret (Value.ref s.heap.objs.size))) { s with heap := s.heap.push { cls := Value.type "tuple", data := .seq #[] } }) :=
  .of_wp fun prog w A R s h => by
    obtain ⟨hp, g, d, tk, os⟩ := s
    obtain ⟨hl, h⟩ := h
    have f1 := AutoSeq1.idx_int
    have c1 : (items.isEmpty || (0 : Int) == 1) = false := by rw [he]; decide
    wp_walk using wpAny_loadPart' hl
    exact ⟨_, rfl, h⟩
def rRepTT (K : PySem.W.Frag) : R2 := fun x y H Q => ∃ l k xs, x = .ref l ∧ y = .int k ∧ SqT K H l xs ∧ xs ≠ [] ∧ 0 ≤ k ∧ k ≤ 1000 ∧ xs.length ≤ 1000 ∧
  (k = 1 → Q (.ref l) H) ∧ (k ≠ 1 → ∀ p, H p = none → Q (.ref p) (upd H p (.tup (List.replicate k.toNat xs).flatten)))
theorem o_repT {X : Cx} : OpR X (binaryOp .Mult) (rRepTT X.K) := by
  intro pins s σ H x y v u Q I rx ry h
  obtain ⟨l, k, xs, ex, ey, hT, hne, h0, h1, hz, q1, q2⟩ := h
  by_cases k2 : 2 ≤ k
  · exact op_repT pins s σ H x y v u Q I rx ry ⟨l, k, xs, ex, ey, hT, hne, k2, h1, hz, q2 (by omega)⟩
  subst ex ey
  cases rx
  obtain ⟨t, rfl⟩ := ry
  obtain ⟨its, r, ⟨⟨cls, dd, data, sl⟩, ho, hc, n, hd⟩, hs⟩ := I.tuple hT
  simp only at hc hd
  subst hc hd
  have hi : its.toArray.isEmpty = false := by
    have hl := r.length
    cases its with
    | nil => exact absurd (List.eq_nil_of_length_eq_zero hl) hne
    | cons a b => rfl
  by_cases k1 : k = 1
  · subst k1
    refine wpAny_binaryOp_repeat_ref (T := "tuple") (U := "int") (by decide) ⟨_, ho, rfl⟩ (fun s' => typeIs_int s' 1 t) noFill_tuple_mul F.fills_int_mul F.slot_int_rmul repeat_tuple F.slot_int_index.lookup
      (call_meets F.slot_int_rmul (typeIs_int s 1 t) F.entry_int_rmul (F.args_int_rmul_2 _ _) (int_rmul_tuple 1 t l its.toArray n dd sl)
        ⟨ho, rfl, ⟨_, ho, rfl⟩, call_meets F.slot_tuple_mul ⟨_, ho, rfl⟩ F.entry_tuple_mul (F.args_tuple_mul_2 _ _) (tup_mul1 l its.toArray n dd sl t) ⟨ho, ?_⟩⟩)
    exact ⟨.ref l, H, I, rfl, q1 rfl⟩
  · have k0 : k = 0 := by omega
    subst k0
    refine wpAny_binaryOp_repeat_ref (T := "tuple") (U := "int") (by decide) ⟨_, ho, rfl⟩ (fun s' => typeIs_int s' 0 t) noFill_tuple_mul F.fills_int_mul F.slot_int_rmul repeat_tuple F.slot_int_index.lookup
      (call_meets F.slot_int_rmul (typeIs_int s 0 t) F.entry_int_rmul (F.args_int_rmul_2 _ _) (int_rmul_tuple 0 t l its.toArray n dd sl)
        ⟨ho, rfl, ⟨_, ho, rfl⟩, call_meets F.slot_tuple_mul ⟨_, ho, rfl⟩ F.entry_tuple_mul (F.args_tuple_mul_2 _ _) (tup_mul0 l its.toArray n dd sl t hi) ⟨ho, ?_⟩⟩)
    refine ⟨.ref s.heap.objs.size, _, I.laid (t' := s.toks) (o := .tup []) (fun b ob q => Heap.get?_push_of_some _ q) (Nat.le_refl _) ?_, rfl, q2 k1 _ (I.hok.fresh (Nat.le_refl _))⟩
    exact ⟨Nat.zero_le _, [], .nil, IsTup.new _ _⟩
end TW
namespace RS
open PySem L2 PySem.Spec PyProof.Rows
/-! ### sets of things at addresses whose == and hash are told by a kind -/
structure Mild {P : Program} {w : World} {κ : Type} [DecidableEq κ] (Z : HeapKind P w κ) (good : κ → Prop) : Prop where
  stays : Z.Stays
  noCls : ∀ {A : Around} {E : Value → Shared → Prop} {s : Shared} {k : κ} {b : Addr} {Q : Bool → Shared → Prop}, good k → Z.is s.heap k b → Q false s → wpAny (model P w) A (ofAClassStatement 8 (.ref b)) Q E s
  byVal : ∀ {A : Around} {E : Value → Shared → Prop} {s : Shared} {k : κ} {b : Addr} {Q : Bool → Shared → Prop}, good k → Z.is s.heap k b → Q true s → wpAny (model P w) A (hashByValue 8 (.ref b)) Q E s
section
variable {P : Program} {w : World} {κ : Type} [DecidableEq κ] {Z : HeapKind P w κ} {good : κ → Prop}
abbrev hashes (Z : HeapKind P w κ) (L : List (Addr × κ)) : List Int := L.map fun q => Z.hash q.2
abbrev entries (Z : HeapKind P w κ) (L : List (Addr × κ)) : List (Int × Value) := L.map fun q => (Z.hash q.2, Value.ref q.1)
abbrev keys (L : List (Addr × κ)) : List κ := L.map (·.2)
/-- at a in the heap h stands a set; its things are L, in the table's order -/
structure RSet (Z : HeapKind P w κ) (good : κ → Prop) (h : Heap) (a : Addr) (L : List (Addr × κ)) (es : Array (Int × Value)) (ep : Nat) (t : SetTable) : Prop where
  obj : ∃ o, h.get? a = some o ∧ o.ExactSet ∧ o.data = .set es ep t
  ents : es.toList = entries Z L
  tbl : TabOk t (hashes Z L)
  one : (keys L).Nodup
  are : ∀ q ∈ L, good q.2 ∧ Z.is h q.2 q.1
  pln : t.plain = true
  ldd : w.params.followText "set-order" = true ∨ t.led = true
  rm : L.length * 5 < t.mask * 3
  sml : L.length < 64
variable {A : Around} {E : Value → Shared → Prop} {s : Shared} {a : Addr} {L : List (Addr × κ)} {es : Array (Int × Value)} {ep : Nat} {t : SetTable}
namespace RSet
theorem cnt (R : RSet Z good s.heap a L es ep t) : es.size = L.length := by
  have := congrArg List.length R.ents
  simpa using this
theorem fitting (R : RSet Z good s.heap a L es ep t) : t.fits es.size = true := by
  have h1 : t.place.size = L.length := by simpa using R.tbl.sz
  have h2 := R.cnt
  have h3 := R.rm
  unfold SetTable.fits SetTable.fill
  rw [R.tbl.dm, Bool.and_eq_true, beq_iff_eq, decide_eq_true_eq]
  show t.place.size = es.size ∧ t.place.size + 0 ≤ t.mask
  omega
theorem ent (R : RSet Z good s.heap a L es ep t) {i : Nat} {q : Addr × κ} (h : L[i]? = some q) : es[i]? = some (Z.hash q.2, Value.ref q.1) := by
  have e : es.toList[i]? = (entries Z L)[i]? := by rw [R.ents]
  rw [Array.getElem?_toList, List.getElem?_map, h] at e
  exact e
theorem stood (R : RSet Z good s.heap a L es ep t) : ¬ t.gaveWay = true := by
  unfold SetTable.gaveWay
  rw [mask_odd R.tbl.mok]
  decide
end RSet
/-- the c-th look of the search for a hash -/
abbrev look (t : SetTable) (h : Int) (c : Nat) : SetTable.Probe := nth t.mask (runAt t.mask (SetTable.bits h % (t.mask + 1)) (SetTable.bits h)) c
theorem look_dummy (t : SetTable) (h : Int) (c : Nat) : (look t h c).dummy = none := by
  have all : ∀ (n : Nat) (p : SetTable.Probe), p.dummy = none → (nth t.mask p n).dummy = none := by
    intro n
    induction n with
    | zero => exact fun _ h => h
    | succ n ih => exact fun p h => ih (adv t.mask p) (by unfold adv; split <;> exact h)
  exact all c _ rfl
theorem look_on (t : SetTable) (h : Int) (c q : Nat) : nth t.mask (look t h c) q = look t h (c + q) := (nth_add t.mask c _ q).symm
/-- asked among such things, nothing shows -/
theorem unseen (M : Mild Z good) {k : κ} {b : Addr} (gk : good k) (hk : Z.is s.heap k b) {ys : List Value} (hy : ∀ y ∈ ys, ∃ k' c, y = Value.ref c ∧ good k' ∧ Z.is s.heap k' c) {Q : Bool → Shared → Prop} (h : Q false s) :
    wpAny (model P w) A (searchCouldBeSeen (.ref b) ys) Q E s := by
  unfold searchCouldBeSeen
  refine wpAny_bind ?_
  refine wpAny_forIn_list _ (fun rest r s' => r.1 = none ∧ s' = s ∧ ∀ y ∈ rest, ∃ k' c, y = Value.ref c ∧ good k' ∧ Z.is s.heap k' c) _ ?_ ?_ _ _ ⟨rfl, rfl, hy⟩
  · rintro v rest r s' ⟨_, rfl, all⟩
    obtain ⟨k', c, rfl, g', hc⟩ := all v List.mem_cons_self
    have tl : ∀ y ∈ rest, ∃ k' c, y = Value.ref c ∧ good k' ∧ Z.is s'.heap k' c := fun u hu => all u (List.mem_cons_of_mem _ hu)
    dsimp only
    by_cases hv : (b == c || (carriedByValue (.ref b) && carriedByValue (.ref c))) = true
    · exact wp_if_pos hv (wpAny_pure ⟨rfl, rfl, tl⟩)
    · refine wp_if_neg hv (wpAny_bind (Z.quiet hk ?_))
      simp only [Bool.not_true, Bool.false_eq_true, if_false]
      refine wpAny_bind (Z.quiet hc ?_)
      simp only [Bool.not_true, Bool.false_eq_true, if_false]
      refine wpAny_bind (M.noCls gk hk ?_)
      simp only [Bool.false_eq_true, if_false]
      refine wpAny_bind (M.noCls g' hc ?_)
      simp only [Bool.false_eq_true, if_false]
      exact wpAny_pure ⟨rfl, rfl, tl⟩
  · rintro ⟨r1, r2⟩ s' ⟨hr, rfl, _⟩
    simp only at hr
    subst hr
    exact wpAny_pure h
/-- the search, from its c-th look on; K is its first empty slot -/
theorem find_from (M : Mild Z good) (R : RSet Z good s.heap a L es ep t) {x : Addr} {k : κ} (gk : good k) (hx : Z.is s.heap k x) (hu : Z.room A) {K : Nat} (kf : K < 10 * SetTable.turns t.mask)
    (kn : way t.mask (Z.hash k) K ∉ t.place.toList) (kb : ∀ c, c < K → way t.mask (Z.hash k) c ∈ t.place.toList) {Q : SetFound → Shared → Prop}
    (yes : k ∈ keys L → Q (.there none) s) (no : k ∉ keys L → Q (.free (way t.mask (Z.hash k) K) false) s) :
    ∀ (f c : Nat) (stand : Option SetTable.Probe), stand.getD (t.probeStart (Z.hash k)) = look t (Z.hash k) c → c ≤ K → K - c < f →
      (∀ (i : Nat) q, L[i]? = some q → q.2 = k → ∃ c', c ≤ c' ∧ c' < K ∧ t.place.toList[i]? = some (way t.mask (Z.hash k) c')) →
      wpAny (model P w) A (setSearchFrom a (.ref x) (Z.hash k) true f stand) Q E s
  | 0, c, stand, _, _, hf, _ => absurd hf (Nat.not_lt_zero _)
  | f + 1, c, stand, hst, hc, hf, ahead => by
    obtain ⟨o, ho, hex, hd⟩ := R.obj
    rw [setSearchFrom_succ]
    refine wpAny_bind (wpAny_setState_of ho hd R.fitting ?_)
    dsimp only
    refine wp_if_neg R.stood ?_
    try refine wpAny_bind (wpAny_pure ?_)
    have hj : ∀ q, (nth t.mask (look t (Z.hash k) c) q).j = way t.mask (Z.hash k) (c + q) := fun q => congrArg SetTable.Probe.j (look_on t (Z.hash k) c q)
    have hof : ∀ (i : Nat) q, L[i]? = some q → (fun i => (es[i]?.map (·.1)).getD 0) i = Z.hash q.2 := fun i q hq => by
      show (es[i]?.map (·.1)).getD 0 = _
      rw [R.ent hq] <;> rfl
    rcases go_spec t R.tbl.ris R.tbl.dm (fun i => (es[i]?.map (·.1)).getD 0) (Z.hash k) (10 * SetTable.turns t.mask) (K - c) (look t (Z.hash k) c) (look_dummy _ _ _) (by omega)
        (fun q hq => by rw [hj]; exact kb (c + q) (by omega)) (by rw [hj, show c + (K - c) = K by omega]; exact kn) with ⟨q, i, hq, hi, _, first, pr⟩ | ⟨first, pr⟩
    · rw [look_on, look_on] at pr
      have pr' : t.probe (fun i => (es[i]?.map (·.1)).getD 0) (Z.hash k) (stand.getD (t.probeStart (Z.hash k))) = some (.candidate (way t.mask (Z.hash k) (c + q)) i (look t (Z.hash k) (c + (q + 1)))) := by
        rw [hst]; exact pr
      rw [pr']
      dsimp only
      rw [hj] at hi
      have hil : i < L.length := by
        have h1 := (List.getElem?_eq_some_iff.mp hi).1
        have h2 : t.place.size = L.length := by simpa using R.tbl.sz
        rw [Array.length_toList] at h1
        omega
      obtain ⟨q0, hq0⟩ : ∃ q0, L[i]? = some q0 := ⟨_, List.getElem?_eq_getElem hil⟩
      have mem := List.mem_of_getElem? hq0
      obtain ⟨_, hq0is⟩ := R.are q0 mem
      have later : wpAny (model P w) A (searchRest a (.ref x) (Z.hash k) true f es t (way t.mask (Z.hash k) (c + q)) i (look t (Z.hash k) (c + (q + 1)))) Q E s := by
        unfold searchRest
        rw [R.ent hq0]
        dsimp only
        refine wpAny_bind (wpAny_holding (Z.eqBool hu hq0is hx ?_))
        refine wpAny_bind (wpAny_setState_of ho hd R.fitting ?_)
        dsimp only
        by_cases same : q0.2 = k
        · exact wp_if_pos (by simp [same]) (wpAny_pure (yes (List.mem_map.mpr ⟨q0, mem, same⟩)))
        · refine wp_if_neg (by simp [same]) ?_
          try refine wpAny_bind (wpAny_pure ?_)
          rw [sameMem]
          dsimp only
          have sl : t.slot (way t.mask (Z.hash k) (c + q)) = .live i := slot_live R.tbl.ris hi
          simp only [if_true, sl, R.ent hq0]
          refine wpAny_bind (wpAny_isSame_ref_self (wpAny_bind (wpAny_pure ?_)))
          simp only [if_true]
          refine wp_if_neg (by simp [same]) ?_
          refine find_from M R gk hx hu kf kn kb yes no f (c + (q + 1)) _ rfl (by omega) (by omega) fun i1 q1 h1 hk1 => ?_
          obtain ⟨c', b1, b2, b3⟩ := ahead i1 q1 h1 hk1
          refine ⟨c', ?_, b2, b3⟩
          refine Classical.byContradiction fun hcc => ?_
          by_cases lt : c' < c + q
          · exact first (c' - c) i1 (by omega) (by rw [hj, show c + (c' - c) = c' by omega]; exact b3) ((hof i1 q1 h1).trans (congrArg Z.hash hk1))
          · have ec : c' = c + q := by omega
            rw [ec] at b3
            have s0 := slot_live R.tbl.ris b3
            rw [sl] at s0
            injection s0 with s0
            rw [← s0, hq0] at h1
            exact same ((congrArg Prod.snd (Option.some.inj h1)).trans hk1)
      by_cases hl : t.led = true
      · refine wp_if_neg (by simp [hl]) ?_
        try refine wpAny_bind (wpAny_pure ?_)
        exact later
      · refine wp_if_pos (by simp [hl]) (wpAny_bind (unseen M gk hx (fun y hy => ?_) ?_))
        · obtain ⟨e, he, rfl⟩ := List.mem_map.mp hy
          have he : e ∈ es.toList := by
            have : e ∈ es ∧ e.1 = Z.hash k := by simpa using he
            simpa using this.1
          rw [R.ents] at he
          obtain ⟨q2, hq2, rfl⟩ := List.mem_map.mp he
          exact ⟨q2.2, q2.1, rfl, R.are q2 hq2⟩
        · refine wp_if_neg (by decide) ?_
          try refine wpAny_bind (wpAny_pure ?_)
          exact later
    · rw [look_on, show c + (K - c) = K by omega] at pr
      have pr' : t.probe (fun i => (es[i]?.map (·.1)).getD 0) (Z.hash k) (stand.getD (t.probeStart (Z.hash k))) = some (.empty (way t.mask (Z.hash k) K) none) := by
        rw [hst]; exact pr
      rw [pr']
      dsimp only
      refine wpAny_pure (no fun hm => ?_)
      obtain ⟨q1, m1, hk1⟩ := List.mem_map.mp hm
      obtain ⟨i1, hi1, e1⟩ := List.getElem_of_mem m1
      have h1 : L[i1]? = some q1 := by rw [List.getElem?_eq_getElem hi1, e1]
      obtain ⟨c', b1, b2, b3⟩ := ahead i1 q1 h1 hk1
      exact first (c' - c) i1 (by omega) (by rw [hj, show c + (c' - c) = c' by omega]; exact b3) ((hof i1 q1 h1).trans (congrArg Z.hash hk1))
theorem find_it (M : Mild Z good) (R : RSet Z good s.heap a L es ep t) {x : Addr} {k : κ} (gk : good k) (hx : Z.is s.heap k x) (hu : Z.room A) {Q : SetFound → Shared → Prop}
    (yes : k ∈ keys L → Q (.there none) s)
    (no : ∀ K, k ∉ keys L → way t.mask (Z.hash k) K ∉ t.place.toList → (∀ c, c < K → way t.mask (Z.hash k) c ∈ t.place.toList) → Q (.free (way t.mask (Z.hash k) K) false) s) :
    wpAny (model P w) A (setSearch a (.ref x) (Z.hash k) true) Q E s := by
  have h3 := R.rm
  obtain ⟨K, kf, kn, kb⟩ := R.tbl.first (by rw [List.length_map]; omega) (Z.hash k)
  have small : 10 * SetTable.turns t.mask ≤ 1420 := by
    unfold SetTable.turns
    rcases R.tbl.mok with e | e | e <;> omega
  unfold setSearch
  refine find_from M R gk hx hu kf kn kb yes (fun hn => no K hn kn kb) 100000 0 none rfl (Nat.zero_le _) (by omega) fun i q hq hk => ?_
  have hi : (hashes Z L)[i]? = some (Z.hash k) := by rw [List.getElem?_map, hq, ← hk] <;> rfl
  have hil : i < t.place.toList.length := by
    have h1 := (List.getElem?_eq_some_iff.mp hq).1
    have h2 : t.place.size = L.length := by simpa using R.tbl.sz
    rw [Array.length_toList]; omega
  obtain ⟨c, hc, e⟩ := R.tbl.before kn hi (List.getElem?_eq_getElem hil)
  exact ⟨c, Nat.zero_le _, hc, by rw [List.getElem?_eq_getElem hil, e]⟩

theorem stays_put (M : Mild Z good) {g : Heap} {k : κ} {b : Addr} {o : Obj} (hb : Z.is s.heap k b) (ho : s.heap.get? a = some o) (hd : o.data = .set es ep t) (sb : Heap.SameBut a s.heap g) : Z.is g k b := by
  refine M.stays.stays (fun c u vs n hc hu => ?_) hb
  refine (sb.2 c ?_).trans hc
  rintro rfl
  obtain rfl : u = o := Option.some.inj (hc.symm.trans ho)
  rw [hd] at hu
  exact nomatch hu
theorem stays_all (M : Mild Z good) {g g' : Heap} {k : κ} {b : Addr} (hb : Z.is g k b) (hk : ∀ c o, g.get? c = some o → g'.get? c = some o) : Z.is g' k b := M.stays.stays (fun c o _ _ e _ => hk c o e) hb
theorem filterMap_range {α : Type} (l : List α) : ∀ n, n ≤ l.length → (List.range n).filterMap (fun i => l[i]?) = l.take n
  | 0, _ => rfl
  | n + 1, h => by
    rw [List.range_succ, List.filterMap_append, filterMap_range l n (by omega), List.take_succ, List.getElem?_eq_getElem (by omega : n < l.length), List.filterMap_cons_some (List.getElem?_eq_getElem (by omega : n < l.length))]
    rfl
/-- the entries in another order -/
theorem reorder (order : Array Nat) (hr : es.toList = entries Z L) (hp : order.toList.Perm (List.range L.length)) :
    ∃ L2, (order.filterMap (es[·]?)).toList = entries Z L2 ∧ L2.Perm L ∧ hashes Z L2 = order.toList.map fun i => (es.map (·.1)).getD i 0 := by
  have at_ : ∀ i (hi : i < L.length), es[i]? = some (Z.hash (L[i]).2, Value.ref (L[i]).1) := fun i hi => by
    rw [← Array.getElem?_toList, hr, List.getElem?_map, List.getElem?_eq_getElem hi] <;> rfl
  have step : ∀ l : List Nat, (∀ i ∈ l, i < L.length) → l.filterMap (fun i => es[i]?) = entries Z (l.filterMap fun i => L[i]?) ∧ hashes Z (l.filterMap fun i => L[i]?) = l.map fun i => (es.map (·.1)).getD i 0 := by
    intro l
    induction l with
    | nil => exact fun _ => ⟨rfl, rfl⟩
    | cons i l ih =>
      intro hl
      have hi := hl i List.mem_cons_self
      have ⟨e1, e2⟩ := ih fun j hj => hl j (List.mem_cons_of_mem _ hj)
      rw [List.filterMap_cons_some (at_ i hi), List.filterMap_cons_some (List.getElem?_eq_getElem hi), e1]
      refine ⟨rfl, ?_⟩
      rw [List.map_cons]
      have e4 : (es.map (·.1)).getD i 0 = Z.hash (L[i]).2 := by
        have e5 : (es.map (·.1))[i]? = some (Z.hash (L[i]).2) := by rw [Array.getElem?_map, at_ i hi] <;> rfl
        simp [Array.getD_eq_getD_getElem?, e5]
      rw [e4, ← e2]
      rfl
  have ⟨e1, e2⟩ := step order.toList fun i hi => List.mem_range.mp (hp.mem_iff.mp hi)
  refine ⟨_, by first | (rw [Array.toList_filterMap]; exact e1) | simpa using e1, ?_, e2⟩
  have h1 := hp.filterMap fun i => L[i]?
  rw [filterMap_range L L.length (Nat.le_refl _), List.take_length] at h1
  exact h1
/-- what a set may become -/
def Then (Z : HeapKind P w κ) (good : κ → Prop) (s : Shared) (a : Addr) (ok : List (Addr × κ) → Prop) (g : Heap) : Prop := Heap.SameBut a s.heap g ∧ ∃ L' es' ep' t', RSet Z good g a L' es' ep' t' ∧ ok L'
theorem relay (M : Mild Z good) {o : Obj} (ho : s.heap.get? a = some o) (hex : o.ExactSet) (hd : o.data = .set es ep t) (he : es.toList = entries Z L) (hz : t.place.size = es.size) (hm : t.dummies = #[]) (hf : es.size ≤ t.mask)
    (nd : (keys L).Nodup) (are : ∀ q ∈ L, good q.2 ∧ Z.is s.heap q.2 q.1) (hp : t.plain = true) (hl : w.params.followText "set-order" = true ∨ t.led = true) (sm : L.length < 64) {n m : Nat}
    (e1 : SetTable.sizeAbove n - 1 = m) (e2 : MaskOk m) (e3 : SetTable.sizeAbove n ≤ 128) (e4 : L.length * 5 < m * 3) {Q : Unit → Shared → Prop}
    (hQ : ∀ g, Then Z good s a (List.Perm L) g → Q () { s with heap := g }) : wpAny (model P w) A (setRelay a n) Q E s := by
  have hs : es.size = L.length := by simpa using congrArg List.length he
  have fit : t.fits es.size = true := by
    unfold SetTable.fits SetTable.fill
    rw [hm, Bool.and_eq_true, beq_iff_eq, decide_eq_true_eq]
    show t.place.size = es.size ∧ t.place.size + 0 ≤ t.mask
    omega
  obtain ⟨t2, ord, r, pm, T, x1, x2, x3, x4⟩ := relaid_ok t (hs := es.map (·.1)) (wanted := n) e1 e2 (by rw [Array.size_map, hs]; omega)
  rw [Array.size_map, hs] at pm
  obtain ⟨L2, y1, y2, y3⟩ := reorder (Z := Z) ord he pm
  rw [← y3] at T
  have hz2 : (ord.filterMap (es[·]?)).size = es.size := by
    have h := congrArg List.length y1
    rw [Array.length_toList, List.length_map] at h
    rw [h, y2.length_eq, hs]
  rw [setRelay_eq]
  refine wpAny_bind (wpAny_setState_of ho hd fit ?_)
  dsimp only
  refine wp_if_neg (by rw [sizeLine_eq]; omega) ?_
  try refine wpAny_bind (wpAny_pure ?_)
  rw [r]
  dsimp only
  refine wpAny_bind ?_
  refine wp_if_neg (by rw [hz2]; simp) ?_
  try refine wpAny_bind (wpAny_pure ?_)
  refine wpAny_pure ?_
  dsimp only
  refine wpAny_storeSet_of ho hd ?_ (by rw [hz2, hs, sizeLine_eq]; omega)
  have sb : Heap.SameBut a s.heap (s.heap.update a (Obj.putSet (ord.filterMap (es[·]?)) t2)) := Heap.SameBut.update ..
  exact hQ _ ⟨sb, L2, ord.filterMap (es[·]?), ep + 1, t2, ⟨⟨_, store_at ho hd, ⟨hex.1, hex.2.1, hex.2.2⟩, rfl⟩, y1, T, (y2.map (·.2)).nodup_iff.mpr nd, fun q hq => ⟨(are q (y2.mem_iff.mp hq)).1, stays_put M (are q (y2.mem_iff.mp hq)).2 ho hd sb⟩,
    by rw [x3]; exact hp, by rw [x2]; exact hl, by rw [y2.length_eq, x1]; exact e4, by rw [y2.length_eq]; exact sm⟩, y2.symm⟩
/-- after adding x, which is k -/
def Added (x : Addr) (k : κ) (L L' : List (Addr × κ)) : Prop := (k ∈ keys L ∧ L' = L) ∨ (k ∉ keys L ∧ L'.Perm ((x, k) :: L))
theorem adds (M : Mild Z good) (R : RSet Z good s.heap a L es ep t) {x : Addr} {k : κ} (gk : good k) (hx : Z.is s.heap k x) (hu : Z.room A) (hn : L.length + 1 < 64) {Q : Bool → Shared → Prop}
    (hQ : ∀ b g, Then Z good s a (Added x k L) g → Q b { s with heap := g }) : wpAny (model P w) A (setAddHashed a (.ref x) (Z.hash k)) Q E s := by
  obtain ⟨o, ho, hex, hd⟩ := R.obj
  have hs := R.cnt
  have hr := R.rm
  unfold setAddHashed
  refine wpAny_holding ?_
  rw [show (100000 : Nat) = 99999 + 1 from rfl, setAddHashedIn_succ]
  refine wpAny_bind (wpAny_setState_of ho hd R.fitting ?_)
  dsimp only
  refine wp_if_neg (by simp [byScan, Value.scannable]) ?_
  try refine wpAny_bind (wpAny_pure ?_)
  refine wpAny_bind (find_it M R gk hx hu (fun hm => ?_) fun K hm hK hb => ?_)
  · dsimp only
    exact wpAny_pure (hQ false s.heap ⟨Heap.SameBut.refl a s.heap, L, es, ep, t, R, .inl ⟨hm, rfl⟩⟩)
  dsimp only
  refine wpAny_bind (wpAny_setState_of ho hd R.fitting ?_)
  dsimp only
  obtain ⟨q1, q2, q3, q4, q5, q6, q7, q8, q9⟩ := R.tbl.put hK hb
  have hp1 : (t.put (way t.mask (Z.hash k) K)).1.plain = true := by rw [q6]; exact R.pln
  generalize hpt : t.put (way t.mask (Z.hash k) K) = pt at q1 q3 q4 q5 q6 q7 q8 q9 hp1 ⊢
  obtain ⟨t1, p⟩ := pt
  dsimp only at q1 q3 q4 q5 q6 q7 q8 q9 hp1 ⊢
  subst q1
  first
    | (refine wpAny_bind ?_; refine wp_if_pos hp1 ?_; refine M.byVal gk hx ?_)
    | refine wp_if_pos hp1 (wpAny_bind (M.byVal gk hx ?_))
  simp only [if_true]
  have ins : (SetTable.insertAt es (SetTable.below t.place (way t.mask (Z.hash k) K)) (Z.hash k, Value.ref x)).toList = entries Z (L.take (SetTable.below t.place (way t.mask (Z.hash k) K)) ++ (x, k) :: L.drop (SetTable.below t.place (way t.mask (Z.hash k) K))) := by
    rw [SetTable.toList_insertAt, R.ents]
    simp [entries, List.map_take, List.map_drop]
  generalize SetTable.below t.place (way t.mask (Z.hash k) K) = p at q2 q3 ins ⊢
  have pm := put_perm L p (x, k)
  have ln : (L.take p ++ (x, k) :: L.drop p).length = L.length + 1 := pm.length_eq
  have hh : hashes Z (L.take p ++ (x, k) :: L.drop p) = (hashes Z L).take p ++ Z.hash k :: (hashes Z L).drop p := by
    simp [hashes, List.map_take, List.map_drop]
  rw [← hh] at q3
  have one1 : (keys (L.take p ++ (x, k) :: L.drop p)).Nodup := (pm.map (·.2)).nodup_iff.mpr (by rw [List.map_cons]; exact List.nodup_cons.mpr ⟨hm, R.one⟩)
  have sz : (SetTable.insertAt es p (Z.hash k, Value.ref x)).size = L.length + 1 := by
    have h := congrArg List.length ins
    rw [Array.length_toList, List.length_map, ln] at h
    exact h
  generalize SetTable.insertAt es p (Z.hash k, Value.ref x) = es1 at ins sz ⊢
  generalize L.take p ++ (x, k) :: L.drop p = L1 at pm ln q3 one1 ins
  refine wpAny_bind (wpAny_storeSet_of ho hd ?_ (by rw [sz, sizeLine_eq]; omega))
  have sb : Heap.SameBut a s.heap (s.heap.update a (Obj.putSet es1 t1)) := Heap.SameBut.update ..
  have ho1 := store_at (es' := es1) (t' := t1) ho hd
  have are1 : ∀ q ∈ L1, good q.2 ∧ Z.is (s.heap.update a (Obj.putSet es1 t1)) q.2 q.1 := fun q hq => by
    rcases List.mem_cons.mp (pm.mem_iff.mp hq) with e | hq
    · rw [e]; exact ⟨gk, stays_put M hx ho hd sb⟩
    · exact ⟨(R.are q hq).1, stays_put M (R.are q hq).2 ho hd sb⟩
  generalize s.heap.update a (Obj.putSet es1 t1) = g1 at sb ho1 are1 ⊢
  have ld1 : w.params.followText "set-order" = true ∨ t1.led = true := by rw [q5]; exact R.ldd
  by_cases hf : t1.tooFull = true
  · first
      | (refine wpAny_bind ?_; refine wp_if_pos (by simp [hf]) ?_)
      | (refine wp_if_pos (by simp [hf]) ?_; refine wpAny_bind ?_)
    have full : (L.length + 1) * 5 ≥ t1.mask * 3 := by
      have h := hf
      unfold SetTable.tooFull at h
      rw [decide_eq_true_eq, q9, List.length_map] at h
      exact h
    rw [hs]
    have hz1 : t1.place.size = es1.size := by
      have h := q3.sz
      rw [List.length_map, ln] at h
      rw [h, sz]
    have two : (t.mask = 7 ∧ L.length = 4) ∨ (t.mask = 31 ∧ L.length = 18) := by
      rcases R.tbl.mok with e | e | e
      · exact .inl (by rw [q4, e] at full; rw [e] at hr; exact ⟨e, by omega⟩)
      · exact .inr (by rw [q4, e] at full; rw [e] at hr; exact ⟨e, by omega⟩)
      · exfalso; rw [q4, e] at full; omega
    have go : ∀ m, SetTable.sizeAbove (SetTable.grown (L.length + 1)) - 1 = m → MaskOk m → SetTable.sizeAbove (SetTable.grown (L.length + 1)) ≤ 128 → (L.length + 1) * 5 < m * 3 →
        wpAny (model P w) A (setRelay a (SetTable.grown (L.length + 1))) (fun _ s' => wpAny (model P w) A (pure true) Q E s') E { s with heap := g1 } := fun m z1 z2 z3 z4 => by
      refine relay M (s := { s with heap := g1 }) ho1 ⟨hex.1, hex.2.1, hex.2.2⟩ rfl ins hz1 q3.dm (by rw [sz, q4]; rcases two with ⟨e, e2⟩ | ⟨e, e2⟩ <;> omega) one1 are1 hp1 ld1 (by rw [ln]; exact hn) z1 z2 z3 (by rw [ln]; exact z4) ?_
      rintro g2 ⟨sb2, L2, es2, ep2, t2, R2, pm2⟩
      exact wpAny_pure (hQ true g2 ⟨sb.trans sb2, L2, es2, ep2, t2, R2, .inr ⟨hm, pm2.symm.trans pm⟩⟩)
    rcases two with ⟨_, e2⟩ | ⟨_, e2⟩
    · exact go 31 (by rw [e2, size_20]) (.inr (.inl rfl)) (by rw [e2, size_20]; decide) (by omega)
    · exact go 127 (by rw [e2, size_76]) (.inr (.inr rfl)) (by rw [e2, size_76]; decide) (by omega)
  · first
      | refine wp_if_neg (by simp [hf]) ?_
      | (refine wpAny_bind ?_; refine wp_if_neg (by simp [hf]) ?_; refine wpAny_pure ?_)
    refine wpAny_pure (hQ true g1 ⟨sb, L1, es1, ep + 1, t1, ⟨⟨_, ho1, ⟨hex.1, hex.2.1, hex.2.2⟩, rfl⟩, ins, q3, one1, are1, hp1, ld1, ?_, by rw [ln]; exact hn⟩, .inr ⟨hm, pm⟩⟩)
    have h := hf
    unfold SetTable.tooFull at h
    rw [decide_eq_true_eq, q9, List.length_map] at h
    rw [ln]
    omega
end
end RS
namespace RS
open PySem L2 PySem.Spec PyProof.Rows
section
variable {P : Program} {w : World} {κ : Type} [DecidableEq κ] {Z : HeapKind P w κ} {good : κ → Prop}
variable {A : Around} {E : Value → Shared → Prop} {s : Shared}
/-- what the first i things ks have brought -/
structure Brought (ks : List (Addr × κ)) (i : Nat) (L : List (Addr × κ)) : Prop where
  of : ∀ q ∈ L, q ∈ ks.take i
  every : ∀ q ∈ ks.take i, q.2 ∈ keys L
  most : L.length ≤ i
theorem Brought.none (ks : List (Addr × κ)) : Brought ks 0 [] := ⟨nofun, by simp, Nat.le_refl _⟩
theorem Brought.next {ks L L' : List (Addr × κ)} {i : Nat} {x : Addr × κ} (g : Brought ks i L) (h : ks[i]? = some x) (a : Added x.1 x.2 L L') : Brought ks (i + 1) L' := by
  have e : ks.take (i + 1) = ks.take i ++ [x] := by rw [List.take_succ, h] <;> rfl
  rcases a with ⟨hm, rfl⟩ | ⟨_, pm⟩
  · refine ⟨fun q hq => ?_, fun q hq => ?_, Nat.le_succ_of_le g.most⟩
    · rw [e]; exact List.mem_append_left _ (g.of q hq)
    · rw [e] at hq
      rcases List.mem_append.mp hq with z | z
      · exact g.every q z
      · rw [List.mem_singleton.mp z]; exact hm
  · refine ⟨fun q hq => ?_, fun q hq => ?_, by rw [pm.length_eq]; exact Nat.succ_le_succ g.most⟩
    · rw [e]
      rcases List.mem_cons.mp (pm.mem_iff.mp hq) with z | z
      · rw [z]; exact List.mem_append_right _ (List.mem_singleton.mpr rfl)
      · exact List.mem_append_left _ (g.of q z)
    · rw [e] at hq
      rw [(pm.map (·.2)).mem_iff, List.map_cons]
      rcases List.mem_append.mp hq with z | z
      · exact List.mem_cons_of_mem _ (g.every q z)
      · rw [List.mem_singleton.mp z]; exact List.mem_cons_self
theorem RSet.move {g g' : Heap} {a : Addr} {L : List (Addr × κ)} {es : Array (Int × Value)} {ep : Nat} {t : SetTable} (M : Mild Z good) (R : RSet Z good g a L es ep t) (hk : ∀ o, g.get? a = some o → g'.get? a = some o) (are : ∀ q ∈ L, Z.is g' q.2 q.1) : RSet Z good g' a L es ep t := by
  obtain ⟨o, ho, r⟩ := R.obj
  exact ⟨⟨o, hk o ho, r⟩, R.ents, R.tbl, R.one, fun q hq => ⟨(R.are q hq).1, are q hq⟩, R.pln, R.ldd, R.rm, R.sml⟩
theorem RSet.new {g : Heap} {a : Addr} (ho : g.get? a = some { cls := .type "set", dict := none, data := .set #[] 0 (.fresh 0 0 (!w.params.followText "set-order")) }) : RSet Z good g a [] #[] 0 (.fresh 0 0 (!w.params.followText "set-order")) := by
  refine ⟨⟨_, ho, ⟨rfl, rfl, rfl⟩, rfl⟩, rfl, ⟨.nil, rfl, rfl, .inl rfl, nofun, fun i h j hi => ?_⟩, List.nodup_nil, nofun, rfl, ?_, ?_, ?_⟩
  · simp at hi
  · show _ ∨ (!w.params.followText "set-order") = true
    cases w.params.followText "set-order"
    · exact .inr rfl
    · exact .inl rfl
  · show 0 * 5 < 7 * 3
    decide
  · show 0 < 64
    decide
/-- filling the set S -/
theorem fills (M : Mild Z good) {I : Addr} {fp wr : List Addr} {G : Array GenState → Array GenState → Prop} {n : Nat} {Pv : Nat → Value → Prop} {St : Nat → Shared → Prop} {R : Result → Shared → Prop}
    (W : WalksS P w A.in1 I fp wr G n Pv St) (S : Addr) (hSf : S ∉ fp) (ks : List (Addr × κ)) (hn : n = ks.length) (hfew : ks.length < 64) (hval : ∀ i v, Pv i v → ∃ q, ks[i]? = some q ∧ v = .ref q.1)
    (h0 : Heap) (hk : ∀ q ∈ ks, good q.2 ∧ Z.is h0 q.2 q.1) (hS0 : h0.get? S = none) (hw0 : ∀ b ∈ wr, h0.get? b = none) (hu : Z.room A.in1) :
    ∀ (d i : Nat) (s : Shared), n - i = d → i ≤ n → St i s → (∀ b o, h0.get? b = some o → s.heap.get? b = some o) → (∃ L es ep t, RSet Z good s.heap S L es ep t ∧ Brought ks i L) →
      (∀ s' L es ep t, Moved (S :: wr) G s s' → RSet Z good s'.heap S L es ep t → Brought ks n L → (∀ b o, h0.get? b = some o → s'.heap.get? b = some o) → R (.ok (.ret .none)) s') →
      codeAny (model P w) A (.builtin "set.update.loop" ⟨[.ref S, .ref I], []⟩) R s := by
  have out : S ∉ wr := fun h => hSf (W.sub _ h)
  have more : ∀ b ∈ wr, b ∈ S :: wr := fun b hb => List.mem_cons_of_mem _ hb
  have still : ∀ {s s' : Shared}, Moved wr G s s' → (∀ b o, h0.get? b = some o → s.heap.get? b = some o) → ∀ b o, h0.get? b = some o → s'.heap.get? b = some o := fun hm hkp b o e =>
    hm.heap b o (fun hb => by rw [hw0 b hb] at e; cases e) (hkp b o e)
  intro d
  induction d with
  | zero =>
    intro i s hd hi hst hkp ⟨L, es, ep, t, hS, g⟩ hR
    obtain rfl : i = n := by omega
    refine codeAny_builtin F.entry_set_update_loop ?_
    rw [Around.under_plainId F.plain_set_update_loop _]
    show wpAny _ A.in1 (pyNext (.ref I) >>= _) _ _ s
    refine wpAny_bind (W.done s _ _ hst fun s' hm => ?_)
    show wpAny _ A.in1 (ret Value.none) _ _ s'
    have kp := still hm hkp
    exact wpAny_pure (hR s' L es ep t (hm.mono more) (hS.move M (fun o e => hm.heap S o out e) fun q hq => stays_all M (hk q (List.mem_of_mem_take (g.of q hq))).2 kp) g kp)
  | succ d ih =>
    intro i s hd hi hst hkp ⟨L, es, ep, t, hS, g⟩ hR
    have hlt : i < n := by omega
    refine codeAny_builtin F.entry_set_update_loop ?_
    rw [Around.under_plainId F.plain_set_update_loop _]
    show wpAny _ A.in1 (pyNext (.ref I) >>= _) _ _ s
    refine wpAny_bind (W.item i s _ _ hlt hst fun v s' hP hst' hm => ?_)
    obtain ⟨q, hq, rfl⟩ := hval i v hP
    have kp := still hm hkp
    have hS' : RSet Z good s'.heap S L es ep t := hS.move M (fun o e => hm.heap S o out e) fun r hr => stays_all M (hk r (List.mem_of_mem_take (g.of r hr))).2 kp
    have ⟨gx, hx0⟩ := hk q (List.mem_of_getElem? hq)
    have hx : Z.is s'.heap q.2 q.1 := stays_all M hx0 kp
    show wpAny _ A.in1 (holding [Value.ref q.1] (setAdd S (.ref q.1)) >>= _) _ _ s'
    refine wpAny_bind (wpAny_holding ?_)
    unfold setAdd
    refine wpAny_holding ?_
    refine wpAny_bind (Z.pyHash hu hx ?_)
    refine adds M (s := { s' with toks := s'.toks + Z.draws q.2 }) hS' gx hx hu (by have := g.most; omega) fun b h2 ⟨hsb, L', es', ep', t', hS2, ad⟩ => ?_
    have kp2 : ∀ b o, h0.get? b = some o → h2.get? b = some o := fun b o e => (hsb.2 b (fun z => by rw [z, hS0] at e; cases e)).trans (kp b o e)
    refine wpAny_pure ⟨plainId_quiet F.plain_set_update_loop _, ih (i + 1) _ (by omega) hlt (W.frame _ s' _ _ hst' (Nat.le_add_right _ _) fun b hb o e => ?_) kp2 ⟨L', es', ep', t', hS2, g.next hq ad⟩ fun s2 L2 es2 ep2 t2 hm2 hS3 g2 kp3 => ?_⟩
    · rw [hsb.2 b (fun h : b = S => hSf (by rw [← h]; exact hb))]; exact e
    · refine hR s2 L2 es2 ep2 t2 (Moved.trans W.gtrans ((hm.mono more).then_heap (Nat.le_add_right _ _) fun b o hb e => ?_) hm2) hS3 g2 kp3
      rw [hsb.2 b (fun h : b = S => hb (by rw [h]; exact List.mem_cons_self))]; exact e
abbrev bornSet (w : World) : Obj := { cls := .type "set", dict := none, data := .set #[] 0 (.fresh 0 0 (!w.params.followText "set-order")) }
/-- set(xs), xs a list of such things -/
theorem sets (M : Mild Z good) {l : Addr} {items : Array Value} (ks : List (Addr × κ)) {Q : Value → Shared → Prop} (hh : A.handled = none) (hl : s.heap.IsList l items) (hit : items.toList = ks.map fun q => Value.ref q.1)
    (hk : ∀ q ∈ ks, good q.2 ∧ Z.is s.heap q.2 q.1) (hfew : ks.length < 64) (hu : Z.room A.in1.in1.in1)
    (h : ∀ (g : Heap) (tk : Nat) L es ep t, RSet Z good g s.heap.objs.size L es ep t → Brought ks ks.length L → (∀ b o, s.heap.get? b = some o → g.get? b = some o) → Q (.ref s.heap.objs.size) { s with heap := g, toks := tk }) :
    wpAny (model P w) A (call (.type "set") [.ref l]) Q E s := by
  have hz : items.size = ks.length := by
    have q := congrArg List.length hit
    rw [Array.length_toList, List.length_map] at q
    exact q
  obtain ⟨c, tl, hmro⟩ := F.called_set.mro
  have hmade := F.called_set.made
  have hsub := F.called_set.sub
  refine wpAny_call (codeAny_of_tree ?_)
  show wpAny _ _ (callAny (.type "set") _) _ _ _
  refine wpAny_pure ⟨Code.quiet_builtin _ (by decide +kernel), codeAny_builtin F.entry_type_call ?_⟩
  rw [Around.under_plain (weight_type_call_type "set" [.ref l] []) rfl]
  have h1 := F.called_set.notType
  have h2 := F.called_set.canCreate
  have hct := F.typeCall_set_1 (.ref l)
  repeat (any_goals (first | assumption | wp_step))

  refine codeAny_mono (code_set_led1 (.ref l) (E := E) (Q₁ := fun obj s₁ => obj = .ref s.heap.objs.size ∧ s₁ = { s with heap := s.heap.push (bornSet w) }) ⟨rfl, rfl⟩) fun r s₁ hr => ?_
  cases r with
  | error e => exact hr
  | ok fl =>
    cases fl with
    | ret obj =>
      obtain ⟨rfl, rfl⟩ := hr
      have hS : (s.heap.push (bornSet w)).get? s.heap.objs.size = some (bornSet w) := Heap.get?_push_size _ rfl
      have hT : Shared.TypeIs { s with heap := s.heap.push (bornSet w) } (.ref s.heap.objs.size) "set" := ⟨_, hS, rfl⟩
      have hli := F.called_set.init.lookup
      have hbi := F.called_set.init.bind (.ref s.heap.objs.size)
      repeat (any_goals (first | assumption | wp_step))

      refine codeAny_mono (codeAny_call_builtin (R := wants (fun r s₂ => r = .none ∧ ∃ g tk L es ep t, s₂ = { s with heap := g, toks := tk } ∧ RSet Z good g s.heap.objs.size L es ep t ∧ Brought ks ks.length L ∧
          (∀ b o, s.heap.get? b = some o → g.get? b = some o)) E) F.called_set.init.plain F.entry_set_init (check_set_init_1 hT ?_)) fun r₂ s₂ hr₂ => ?_
      · obtain ⟨ol, hol, hcl, nl, hdl⟩ := hl
        obtain ⟨ocls, odict, odata, oslots⟩ := ol
        simp only at hcl hdl
        subst hcl; subst hdl
        have hol2 : (s.heap.push (bornSet w)).get? l = some { cls := .type "list", dict := odict, data := .seq items nl, slots := oslots } := Heap.get?_push_of_some _ hol
        have hsls := F.sub_list_set
        have hslf := F.sub_list_frozenset
        have hne : (Value.type "list" == Value.type "dict") = false := by decide
        have hl1 : (s.heap.push (bornSet w)).IsList l items := ⟨_, hol2, rfl, nl, rfl⟩
        unfold Builtin.«set.__init__» noKeywords Builtin.Frozenset.updateFrom
        generalize hPI : pyIter = PI
        wp_walk
        subst hPI

        refine wpAny_pyIter_list hl1 ?_
        refine wpAny_bind (wpAny_runValue ?_)
        have hlS : l < s.heap.objs.size := Heap.lt_size hol
        have hh3 : A.in1.in1.in1.handled = none := by simp [hh]
        have hneI : l ≠ (s.heap.push (bornSet w)).objs.size := by
          rw [Heap.size_push]; exact Nat.ne_of_lt (Nat.lt_succ_of_lt hlS)
        have hSf : s.heap.objs.size ∉ [(s.heap.push (bornSet w)).objs.size, l] := by
          rw [Heap.size_push]; simp only [List.mem_cons, List.mem_singleton, List.not_mem_nil, or_false, not_or]
          exact ⟨Nat.ne_of_lt (Nat.lt_succ_self _), Nat.ne_of_gt hlS⟩
        have hval : ∀ (i : Nat) (v : Value), items[i]? = some v → ∃ q, ks[i]? = some q ∧ v = .ref q.1 := fun i v hv => by
          have q : items.toList[i]? = some v := by rw [Array.getElem?_toList]; exact hv
          rw [hit, List.getElem?_map] at q
          cases hq : ks[i]? with
          | none => rw [hq] at q; cases q
          | some p =>
            rw [hq] at q
            exact ⟨p, rfl, (Option.some.inj q).symm⟩
        have above : ∀ b, s.heap.objs.size ≤ b → s.heap.get? b = none := fun b hb => by
          cases q : s.heap.get? b with
          | none => rfl
          | some o => exact absurd (Nat.lt_of_lt_of_le (Heap.lt_size q) hb) (Nat.lt_irrefl _)
        refine fills M ((Walks.list hh3 _ l hneI items).toS) s.heap.objs.size
          hSf ks hz hfew hval s.heap hk (above _ (Nat.le_refl _)) (fun b hb => above b (by
            rw [List.mem_singleton.mp hb, Heap.size_push]
            exact Nat.le_succ _)) hu (items.size - 0) 0 _ (by omega) (Nat.zero_le _)
          ⟨⟨_, Heap.get?_push_size _ rfl, rfl, rfl⟩, (hl1.push _)⟩ (fun b o e => Heap.get?_push_of_some _ (Heap.get?_push_of_some _ e)) ?hS0 ?hR
        case hS0 =>
          exact ⟨[], #[], 0, _, RSet.new (Heap.get?_push_of_some _ hS), Brought.none ks⟩
        case hR =>
          intro s' L es ep t hm hS' g' hkp
          obtain ⟨h', g2, d', tk', os'⟩ := s'
          have eg : g2 = s.gens := hm.gens
          have ed : d' = s.drawn := hm.drawn
          have eo : os' = s.os := hm.os
          subst eg; subst ed; subst eo
          show wpAny _ _ _ _ _ _
          refine wpAny_pure ?_
          show wpAny _ _ (ret Value.none) _ _ _
          rw [hz] at g'
          exact wpAny_pure ⟨rfl, h', tk', L, es, ep, t, rfl, hS', g', hkp⟩

      · cases r₂ with
        | error e => exact hr₂
        | ok fl₂ =>
          cases fl₂ with
          | ret r =>
            obtain ⟨rfl, g, tk, L, es, ep, t, rfl, hS', g', hk'⟩ := hr₂
            repeat (any_goals (first | assumption | wp_step))
            exact h _ _ _ _ _ _ hS' g' hk'
          | _ => exact hr₂.elim
    | _ => exact hr.elim
end
end RS
/-- a reading: who reads, what is read, the step -/
abbrev Rdg := Int × Int × List Int
namespace RS
open PySem L2 PySem.Spec PyProof.Rows PySem.W
def key (r : Rdg) : NestedKey := .tup [.num r.1, .num r.2.1, .tup (r.2.2.map .num)]
def dat (r : Rdg) : PyData := .tuple [.int r.1, .int r.2.1, .tuple (r.2.2.map .int)]
theorem num_inj : ∀ {a b : List Int}, a.map NestedKey.num = b.map NestedKey.num → a = b
  | [], [], _ => rfl
  | [], _ :: _, h => nomatch h
  | _ :: _, [], h => nomatch h
  | x :: a, y :: b, h => by
    injection h with h1 h2
    injection h1 with h1
    rw [h1, num_inj h2]
theorem key_inj {r r' : Rdg} (h : key r = key r') : r = r' := by
  obtain ⟨x, y, s⟩ := r
  obtain ⟨x', y', s'⟩ := r'
  unfold key at h
  simp only [NestedKey.tup.injEq, List.cons.injEq, NestedKey.num.injEq, and_true] at h
  rw [h.1, h.2.1, num_inj h.2.2]
theorem deep_nums : ∀ l : List Int, NestedKey.depthAll (l.map .num) = 0
  | [] => rfl
  | _ :: l => by
    show max 0 (NestedKey.depthAll (l.map .num)) = 0
    rw [deep_nums l] <;> rfl
theorem deep_key (r : Rdg) : (key r).depth = 2 := by
  unfold key
  simp [NestedKey.depth, NestedKey.depthAll, deep_nums]
theorem deep_ints : ∀ l : List Int, PyData.depthAll (l.map .int) = 0
  | [] => by simp [PyData.depthAll]
  | _ :: l => by
    show PyData.depthAll (.int _ :: l.map .int) = 0
    rw [PyData.depthAll, deep_ints l] <;> simp [PyData.depth]
theorem deep_dat (r : Rdg) : (dat r).depth = 2 := by
  unfold dat
  simp [PyData.depth, PyData.depthAll, deep_ints]
mutual
def nums : NestedKey → Bool
  | .num _ => true
  | .tup ks => numsAll ks
  | _ => false
def numsAll : List NestedKey → Bool
  | [] => true
  | k :: ks => nums k && numsAll ks
end
theorem numsAll_map : ∀ l : List Int, numsAll (l.map .num) = true
  | [] => rfl
  | _ :: l => by
    show (true && numsAll (l.map .num)) = true
    rw [numsAll_map l] <;> rfl
theorem nums_key (r : Rdg) : nums (key r) = true := by
  unfold key
  simp [nums, numsAll, numsAll_map]
section
variable {P : Program} {w : World} {E : Value → Shared → Prop} {s : Shared} {A : Around}
mutual
theorem no_class : ∀ (k : NestedKey) (v : Value) (n : Nat) (Q : Bool → Shared → Prop), nums k = true → NestedIs s.heap k v → k.depth ≤ n → Q false s → wpAny (model P w) A (ofAClassStatement n v) Q E s
  | .none, _, _, _, hn, _, _, _ => nomatch hn
  | .text _, _, _, _, hn, _, _, _ => nomatch hn
  | .num i, _, n, Q, _, x, _, h => by
    cases x with
    | bool e => cases n <;> exact wpAny_pure h
    | int _ t => cases n <;> exact wpAny_pure h
  | .tup ks, _, n, Q, hn, x, hd, h => by
    cases x with
    | @tup a o vs m _ h1 h2 h3 h4 =>
      obtain ⟨n, rfl⟩ : ∃ m, n = m + 1 := ⟨n - 1, by simp only [NestedKey.depth] at hd; omega⟩
      have hT : s.TypeIs (.ref a) "tuple" := ⟨o, h1, h2⟩
      unfold ofAClassStatement
      refine wpAny_bind (wpAny_typeOf hT ?_)
      dsimp only
      have e : (("tuple" : String) == "tuple") = true := by decide
      simp only [e, if_true, Bool.not_true, Bool.false_eq_true, if_false]
      try refine wpAny_bind (wpAny_pure ?_)
      try simp only [Bool.not_true, Bool.false_eq_true, if_false]
      show wpAny _ _ (seqItems? (.ref a) >>= _) _ _ s
      refine wpAny_bind (wpAny_seqItems h1 h3 ?_)
      dsimp only
      refine wpAny_bind ?_
      show wpAny _ _ (forIn vs _ _) _ _ s
      rw [← Array.forIn_toList]
      have all := no_classes ks vs.toList n (by simpa [nums] using hn) h4 (by simp only [NestedKey.depth] at hd; omega)
      refine wpAny_forIn_list _ (fun rest r s' => r.1 = none ∧ s' = s ∧ ∀ v ∈ rest, ∀ Q : Bool → Shared → Prop, Q false s → wpAny (model P w) A (ofAClassStatement n v) Q E s) _ ?_ ?_ _ _ ⟨rfl, rfl, all⟩
      · rintro v rest r s' ⟨hr, rfl, hall⟩
        refine wpAny_bind (hall v List.mem_cons_self _ ?_)
        simp only [Bool.false_eq_true, if_false]
        exact wpAny_pure ⟨rfl, rfl, fun u hu' => hall u (List.mem_cons_of_mem _ hu')⟩
      · rintro ⟨r1, r2⟩ s' ⟨hr, rfl, _⟩
        simp only at hr
        subst hr
        exact wpAny_pure h
theorem no_classes : ∀ (ks : List NestedKey) (vs : List Value) (n : Nat), numsAll ks = true → NestedAll s.heap ks vs → NestedKey.depthAll ks ≤ n → ∀ v ∈ vs, ∀ Q : Bool → Shared → Prop, Q false s → wpAny (model P w) A (ofAClassStatement n v) Q E s
  | [], _, _, _, x, _, v, hv => by cases x; cases hv
  | k :: ks, _, n, hn, x, hd, v, hv => by
    cases x with
    | cons x1 x2 =>
      simp only [NestedKey.depthAll] at hd
      simp only [numsAll, Bool.and_eq_true] at hn
      rcases List.mem_cons.mp hv with e | hv
      · intro Q h; rw [e]; exact no_class k _ n Q hn.1 x1 (by omega) h
      · exact no_classes ks _ n hn.2 x2 (by omega) v hv
end
mutual
theorem by_value : ∀ (k : NestedKey) (v : Value) (n : Nat) (Q : Bool → Shared → Prop), nums k = true → NestedIs s.heap k v → k.depth ≤ n → Q true s → wpAny (model P w) A (hashByValue n v) Q E s
  | .none, _, _, _, hn, _, _, _ => nomatch hn
  | .text _, _, _, _, hn, _, _, _ => nomatch hn
  | .num i, _, n, Q, _, x, _, h => by
    cases x with
    | bool e => cases n <;> exact wpAny_pure h
    | int _ t => cases n <;> exact wpAny_pure h
  | .tup ks, _, n, Q, hn, x, hd, h => by
    cases x with
    | @tup a o vs m _ h1 h2 h3 h4 =>
      obtain ⟨n, rfl⟩ : ∃ m, n = m + 1 := ⟨n - 1, by simp only [NestedKey.depth] at hd; omega⟩
      have hT : s.TypeIs (.ref a) "tuple" := ⟨o, h1, h2⟩
      unfold hashByValue
      refine wpAny_bind (wpAny_specialOf hT F.slot_tuple_hash.lookup ?_)
      show wpAny _ _ (seqItems? (.ref a) >>= _) _ _ s
      refine wpAny_bind (wpAny_seqItems h1 h3 ?_)
      refine wpAny_bind ?_
      show wpAny _ _ (forIn vs _ _) _ _ s
      rw [← Array.forIn_toList]
      have all := by_values ks vs.toList n (by simpa [nums] using hn) h4 (by simp only [NestedKey.depth] at hd; omega)
      refine wpAny_forIn_list _ (fun rest r s' => r.1 = none ∧ s' = s ∧ ∀ v ∈ rest, ∀ Q : Bool → Shared → Prop, Q true s → wpAny (model P w) A (hashByValue n v) Q E s) _ ?_ ?_ _ _ ⟨rfl, rfl, all⟩
      · rintro v rest r s' ⟨hr, rfl, hall⟩
        refine wpAny_bind (hall v List.mem_cons_self _ ?_)
        simp only [Bool.not_true, Bool.false_eq_true, if_false]
        exact wpAny_pure ⟨rfl, rfl, fun u hu' => hall u (List.mem_cons_of_mem _ hu')⟩
      · rintro ⟨r1, r2⟩ s' ⟨hr, rfl, _⟩
        simp only at hr
        subst hr
        exact wpAny_pure h
theorem by_values : ∀ (ks : List NestedKey) (vs : List Value) (n : Nat), numsAll ks = true → NestedAll s.heap ks vs → NestedKey.depthAll ks ≤ n → ∀ v ∈ vs, ∀ Q : Bool → Shared → Prop, Q true s → wpAny (model P w) A (hashByValue n v) Q E s
  | [], _, _, _, x, _, v, hv => by cases x; cases hv
  | k :: ks, _, n, hn, x, hd, v, hv => by
    cases x with
    | cons x1 x2 =>
      simp only [NestedKey.depthAll] at hd
      simp only [numsAll, Bool.and_eq_true] at hn
      rcases List.mem_cons.mp hv with e | hv
      · intro Q h; rw [e]; exact by_value k _ n Q hn.1 x1 (by omega) h
      · exact by_values ks _ n hn.2 x2 (by omega) v hv
end
end
/-- readings as a kind of keys -/
def rdKind (P : Program) (w : World) : HeapKind P w Rdg where
  is := fun h r a => (nestedKind P w).is h (key r) a
  hash := fun r => (nestedKind P w).hash (key r)
  draws := fun r => (nestedKind P w).draws (key r)
  room := fun A => (nestedKind P w).room A
  inj := fun hx hy => key_inj ((nestedKind P w).inj hx hy)
  keeps := fun x ho hd hs => (nestedKind P w).keeps x ho hd hs
  pyHash := fun hu hk h => (nestedKind P w).pyHash hu hk h
  eqBool := fun {A E s x y a b Q} hu hx hy h => (nestedKind P w).eqBool hu hx hy (by
    have e : decide (key x = key y) = decide (x = y) := by
      by_cases q : x = y
      · rw [decide_eq_true q, decide_eq_true (congrArg key q)]
      · rw [decide_eq_false q, decide_eq_false fun z => q (key_inj z)]
    rw [e]; exact h)
  quiet := fun hk h => (nestedKind P w).quiet hk h
theorem mild {P : Program} {w : World} : Mild (rdKind P w) fun _ => True where
  stays := ⟨fun hk x => (nestedKind_stays (prog := P) (w := w)).stays hk x, fun x => (nestedKind_stays (prog := P) (w := w)).tuple x⟩
  noCls := fun {A E s k b Q} _ hk h => no_class (key k) _ 8 Q (nums_key k) hk.1 (by rw [deep_key]; decide) h
  byVal := fun {A E s k b Q} _ hk h => by_value (key k) _ 8 Q (nums_key k) hk.1 (by rw [deep_key]; decide) h
/-! ### the order -/
def dLt (p q : Rdg) : Prop := p.1 < q.1 ∨ (p.1 = q.1 ∧ (p.2.1 < q.2.1 ∨ (p.2.1 = q.2.1 ∧ p.2.2 < q.2.2)))
instance (p q : Rdg) : Decidable (dLt p q) := by unfold dLt; exact inferInstance
theorem alike_dat (p q : Rdg) : alike (dat p) (dat q) = true := by
  unfold dat
  simp [alike, alikeAll, alike_ints]
theorem eqv_ints : ∀ {a b : List Int}, PyData.eqvAll (a.map .int) (b.map .int) = decide (a = b)
  | [], [] => by simp [PyData.eqvAll]
  | [], _ :: _ => by simp [PyData.eqvAll]
  | _ :: _, [] => by simp [PyData.eqvAll]
  | x :: a, y :: b => by
    show PyData.eqvAll (.int x :: a.map .int) (.int y :: b.map .int) = _
    rw [eqv_all_cons, eqv_ints]
    by_cases h1 : x = y <;> by_cases h2 : a = b <;> simp [PyData.eqv, h1, h2]
theorem lex_none : PyProof.Rows.lexLt itemOrd (keyToksAll []) (keyToksAll []) = false := lex_irrefl _
theorem dLt_dat (p q : Rdg) : dataLt (dat p) (dat q) = decide (dLt p q) := by
  obtain ⟨x, y, s⟩ := p
  obtain ⟨x', y', s'⟩ := q
  unfold dat
  rw [dataLt_tuple, dataLt_cons (by simp [alike]), dataLt_cons (by simp [alike]), dataLt_cons (by simp [alike, alike_ints]), dataLt_int, dataLt_int, dataLt_tuple, lex_none]
  have e1 : PyData.eqv (.tuple (s.map .int)) (.tuple (s'.map .int)) = decide (s = s') := by rw [← eqv_ints]; simp [PyData.eqv]
  have e2 : PyProof.Rows.lexLt itemOrd (keyToksAll (s.map .int)) (keyToksAll (s'.map .int)) = decide (s < s') := dataLt_ints s s'
  rw [e1, e2]
  simp only [PyData.eqv, beq_iff_eq]
  have irr : ¬ s' < s' := List.lt_irrefl _
  by_cases h1 : x = x'
  · by_cases h2 : y = y'
    · by_cases h3 : s = s'
      · subst h1; subst h2; subst h3
        simp [dLt, irr]
      · subst h1; subst h2
        simp [dLt, h3]
    · subst h1
      simp [dLt, h2]
  · simp [dLt, h1]
theorem dLt_irrefl (p : Rdg) : ¬ dLt p p := by
  have h : ¬ p.2.2 < p.2.2 := List.lt_irrefl _
  rintro (e | ⟨_, e | ⟨_, e⟩⟩)
  · omega
  · omega
  · exact h e
theorem dLt_trans {p q r : Rdg} (h : dLt p q) (h' : dLt q r) : dLt p r := by
  have t : p.2.2 < q.2.2 → q.2.2 < r.2.2 → p.2.2 < r.2.2 := fun a b => List.lt_trans a b
  rcases h with a | ⟨a, b | ⟨b, c⟩⟩ <;> rcases h' with a' | ⟨a', b' | ⟨b', c'⟩⟩
  · exact .inl (by omega)
  · exact .inl (by omega)
  · exact .inl (by omega)
  · exact .inl (by omega)
  · exact .inr ⟨by omega, .inl (by omega)⟩
  · exact .inr ⟨by omega, .inl (by omega)⟩
  · exact .inl (by omega)
  · exact .inr ⟨by omega, .inl (by omega)⟩
  · exact .inr ⟨by omega, .inr ⟨by omega, t c c'⟩⟩
theorem dLt_total (p q : Rdg) : dLt p q ∨ p = q ∨ dLt q p := by
  obtain ⟨x, y, s⟩ := p
  obtain ⟨x', y', s'⟩ := q
  have t : s < s' ∨ s = s' ∨ s' < s := by
    rcases Classical.em (s < s') with h | h
    · exact .inl h
    · rcases Classical.em (s' < s) with h' | h'
      · exact .inr (.inr h')
      · exact .inr (.inl (List.le_antisymm (List.not_lt.mp h') (List.not_lt.mp h)))
  by_cases h1 : x = x'
  · by_cases h2 : y = y'
    · subst h1; subst h2
      rcases t with t | t | t
      · exact .inl (.inr ⟨rfl, .inr ⟨rfl, t⟩⟩)
      · exact .inr (.inl (by rw [t]))
      · exact .inr (.inr (.inr ⟨rfl, .inr ⟨rfl, t⟩⟩))
    · subst h1
      rcases Int.lt_or_gt_of_ne h2 with t | t
      · exact .inl (.inr ⟨rfl, .inl t⟩)
      · exact .inr (.inr (.inr ⟨rfl, .inl t⟩))
  · rcases Int.lt_or_gt_of_ne h1 with t | t
    · exact .inl (.inl t)
    · exact .inr (.inr (.inl t))
/-- one row sorted strictly -/
theorem only_one {l m : List Rdg} (h : l.Perm m) (hl : l.Pairwise dLt) (hm : m.Pairwise dLt) : l = m :=
  h.eq_of_pairwise (fun a b _ _ h1 h2 => absurd (dLt_trans h1 h2) (dLt_irrefl a)) hl hm
def enc (q : Addr × Rdg) : PyData := dat q.2
theorem sorted_strict {L : List (Addr × Rdg)} (nd : (keys L).Nodup) : (L.mergeSort (dataLe false enc)).Perm L ∧ (keys (L.mergeSort (dataLe false enc))).Pairwise dLt := by
  have pm := List.mergeSort_perm L (dataLe false enc)
  have e : ∀ a b, dataLe false enc a b = !decide (dLt b.2 a.2) := fun a b => by
    rw [dataLe_eq]
    show (!dataLt (dat b.2) (dat a.2)) = _
    rw [dLt_dat]
  have pw := List.pairwise_mergeSort (le := dataLe false enc) (fun a b c h1 h2 => by
    rw [e, Bool.not_eq_true', decide_eq_false_iff_not] at *
    intro h3
    rcases dLt_total b.2 a.2 with h | h | h
    · exact h1 h
    · rw [h] at h2; exact h2 h3
    · exact h2 (dLt_trans h3 h)) (fun a b => by
    rw [e, e, Bool.or_eq_true, Bool.not_eq_true', Bool.not_eq_true', decide_eq_false_iff_not, decide_eq_false_iff_not]
    rcases Classical.em (dLt b.2 a.2) with h | h
    · exact .inr fun z => dLt_irrefl _ (dLt_trans h z)
    · exact .inl h) L
  have nd2 : (keys (L.mergeSort (dataLe false enc))).Nodup := (pm.map (·.2)).nodup_iff.mpr nd
  refine ⟨pm, ?_⟩
  rw [keys, List.pairwise_map]
  have nd3 : (L.mergeSort (dataLe false enc)).Pairwise fun a b => a.2 ≠ b.2 := List.pairwise_map.mp nd2
  refine (pw.and nd3).imp fun {a b} ⟨h1, h2⟩ => ?_
  rw [e, Bool.not_eq_true', decide_eq_false_iff_not] at h1
  rcases dLt_total a.2 b.2 with h | h | h
  · exact h
  · exact absurd h h2
  · exact absurd h h1
end RS
namespace TW
open PySem L2 Evl RS PySem.Spec PyProof.Rows PySem.W PySem.Calls
/-- at a stands the reading r -/
def RdAt (K : PySem.W.Frag) (H : Hp) (a : Addr) (r : Rdg) : Prop := ∃ c, SqT K H a [.int r.1, .int r.2.1, .ref c] ∧ SqT K H c (r.2.2.map V.int)
section
variable {X : Cx} {pins : List (Addr × Obj)} {σ : L2.St} {H : Hp} {s : Shared}
theorem nested_ints {h : Heap} : ∀ {l : List Int} {its : List Value}, Vals (l.map V.int) its → NestedAll h (l.map .num) its
  | [], _, .nil => .nil
  | n :: l, _, .cons r t => by
    obtain ⟨u, rfl⟩ := r
    exact .cons (.int n u) (nested_ints t)
theorem reads_ints {h : Heap} : ∀ {l : List Int} {its : List Value}, Vals (l.map V.int) its → ReadsAll h its (l.map .int) []
  | [], _, .nil => .nil
  | n :: l, _, .cons r t => by
    obtain ⟨u, rfl⟩ := r
    have e : ([] : List Addr) = [] ++ [] := rfl
    rw [e]
    exact .cons (.int n u) (reads_ints t)
theorem Inv.rd {a : Addr} {r : Rdg} (I : L2.Inv X pins σ H s) (h : RdAt X.K H a r) : (rdKind X.prog X.w).is s.heap r a ∧ Reads s.heap (.ref a) (dat r) [] := by
  obtain ⟨c, h1, h2⟩ := h
  obtain ⟨its, v1, ⟨o, ho, hc, n, hd⟩, _⟩ := I.tuple h1
  obtain ⟨jts, v2, ⟨o', ho', hc', n', hd'⟩, _⟩ := I.tuple h2
  cases v1 with
  | cons a1 v1 => cases v1 with
    | cons a2 v1 => cases v1 with
      | cons a3 v1 =>
        cases v1
        obtain ⟨t1, rfl⟩ := a1
        obtain ⟨t2, rfl⟩ := a2
        cases a3
        refine ⟨⟨.tup ho hc hd (.cons (.int _ _) (.cons (.int _ _) (.cons (.tup ho' hc' hd' ?_) .nil))), ?_⟩, ?_⟩
        · exact nested_ints (by simpa using v2)
        · rw [deep_key]; decide
        · have e : ([] : List Addr) = [] ++ ([] ++ ([] ++ [])) := rfl
          rw [e]
          exact .tuple ho hc hd (.cons (.int _ _) (.cons (.int _ _) (.cons (.tuple ho' hc' hd' (reads_ints (by simpa using v2))) .nil)))
end
/-! ### set(xs) of readings, and its members in order -/
def RSet0 (P : Program) (w : World) (h : Heap) (a : Addr) (L : List (Addr × Rdg)) : Prop := ∃ (es : Array (Int × Value)) (ep : Nat) (t : SetTable), (∃ o, h.get? a = some o ∧ o.ExactSet ∧ o.data = .set es ep t) ∧ es.toList = entries (rdKind P w) L ∧ TabOk t (hashes (rdKind P w) L) ∧ (keys L).Nodup ∧
  t.plain = true ∧ (w.params.followText "set-order" = true ∨ t.led = true) ∧ L.length * 5 < t.mask * 3 ∧ L.length < 64
def RSetO (P : Program) (w : World) (a : Addr) (L : List (Addr × Rdg)) : HO := .ext fun h => RSet0 P w h a L
theorem rset_ok {P : Program} {w : World} {H : Hp} {h : Heap} {a : Addr} {L : List (Addr × Rdg)} (R : RSet0 P w h a L) : ObjOk P w H h a (RSetO P w a L) := by
  have ⟨es, ep, t, ⟨o, ho, r⟩, q⟩ := R
  refine ⟨R, ⟨o, ho⟩, fun h1 h2 p k => ?_⟩
  have ⟨es', ep', t', ⟨o', ho', r'⟩, q'⟩ := p
  exact ⟨es', ep', t', ⟨o', k o' ho', r'⟩, q'⟩
def rSetR (K : PySem.W.Frag) (P : Program) (w : World) : List V → Hp → VK → Prop := fun xs H Q => ∃ (l : Addr) (ks : List (Addr × Rdg)), xs = [.ref l] ∧ SqL K H l (ks.map fun q => V.ref q.1) ∧ (∀ q ∈ ks, RdAt K H q.1 q.2) ∧ ks.length < 64 ∧
  ∀ a L, H a = none → (∀ q ∈ L, q ∈ ks) → (∀ q ∈ ks, q.2 ∈ keys L) → Q (.ref a) (upd H a (RSetO P w a L))
def rSrtR (K : PySem.W.Frag) (P : Program) (w : World) : List V → Hp → VK → Prop := fun xs H Q => ∃ (a : Addr) (L : List (Addr × Rdg)), xs = [.ref a] ∧ H a = some (RSetO P w a L) ∧ (∀ q ∈ L, RdAt K H q.1 q.2) ∧
  ∀ p L', H p = none → L'.Perm L → (keys L').Pairwise dLt → Q (.ref p) (upd H p (.lst (L'.map fun q => V.ref q.1)))
theorem refs_vals : ∀ {ks : List (Addr × Rdg)} {us : List Value}, Vals (ks.map fun q => V.ref q.1) us → us = ks.map fun q => Value.ref q.1
  | [], _, .nil => rfl
  | p :: ks, _, .cons r t => by
    cases r
    rw [refs_vals t] <;> rfl
theorem vals_refs : ∀ (ks : List (Addr × Rdg)), Vals (ks.map fun q => V.ref q.1) (ks.map fun q => Value.ref q.1)
  | [] => .nil
  | p :: ks => .cons rfl (vals_refs ks)
theorem each_refs {h : Heap} : ∀ {L : List (Addr × Rdg)}, EachIs (fun v q => v = Value.ref q.1 ∧ q ∈ L) (L.map fun q => Value.ref q.1) L := by
  have z : ∀ (l L : List (Addr × Rdg)), (∀ q ∈ l, q ∈ L) → EachIs (fun v q => v = Value.ref q.1 ∧ q ∈ L) (l.map fun q => Value.ref q.1) l := by
    intro l
    induction l with
    | nil => exact fun _ _ => .nil
    | cons q l ih => exact fun L h => .cons ⟨rfl, h q List.mem_cons_self⟩ (ih L fun r hr => h r (List.mem_cons_of_mem _ hr))
  exact fun {L} => z L L fun _ h => h
theorem refs_each {S : List (Addr × Rdg)} : ∀ {vs : List Value} {L : List (Addr × Rdg)}, EachIs (fun v q => v = Value.ref q.1 ∧ q ∈ S) vs L → vs = L.map fun q => Value.ref q.1
  | _, _, .nil => rfl
  | _, _, .cons ⟨h, _⟩ t => by rw [h, refs_each t] <;> rfl
section
variable {X : Cx}
theorem c_setR (hc : X.calm = true) (hu : X.A.units + 64 < cLine) : CallR X (.type "set") (rSetR X.K X.prog X.w) := by
  intro pins s σ H xs us Q I r h
  obtain ⟨l, ks, rfl, hl, hk, hf, q⟩ := h
  rw [Vals.ref1 r]
  obtain ⟨its, rv, pl, hz⟩ := I.list hl
  have hn : H s.heap.objs.size = none := I.hok.fresh (Nat.le_refl _)
  refine sets (P := X.prog) (w := X.w) mild ks (I.ok.hd hc) pl.isList (by simpa using refs_vals rv) (fun p hp => ⟨trivial, (Inv.rd I (hk p hp)).1⟩) hf ?_ fun g tk L es ep t R b k => ?_
  · show X.A.in1.in1.in1.units + 8 < cLine
    simp only [Around.in1_units]
    omega
  · refine ⟨.ref s.heap.objs.size, upd H s.heap.objs.size (RSetO X.prog X.w s.heap.objs.size L), I.laid (t' := tk) k (Nat.le_refl _) (rset_ok ⟨es, ep, t, R.obj, R.ents, R.tbl, R.one, R.pln, R.ldd, R.rm, R.sml⟩), rfl, q _ L hn (fun p hp => ?_) fun p hp => ?_⟩
    · exact List.mem_of_mem_take (b.of p hp)
    · exact b.every p (by rw [List.take_length]; exact hp)
/-- the members of a set, in order -/
theorem sorted_rds {P : Program} {w : World} {A : Around} {E : Value → Shared → Prop} {s : Shared} {a : Addr} {L : List (Addr × Rdg)} {Q : Value → Shared → Prop} (R0 : RSet0 P w s.heap a L) (are : ∀ q ∈ L, (rdKind P w).is s.heap q.2 q.1 ∧ Reads s.heap (.ref q.1) (dat q.2) []) (hh : A.handled = none)
    (hu : A.units + 64 < cLine)
    (hQ : ∀ s' p c L', (∀ b o, s.heap.get? b = some o → s'.heap.get? b = some o) → s'.gens = s.gens → s'.os = s.os → s.heap.objs.size ≤ p → s'.heap.get? p = some (seqObj "list" (L'.map fun q => Value.ref q.1).toArray c) → L'.Perm L → (keys L').Pairwise dLt → Q (.ref p) s') :
    wpAny (model P w) A (call (.builtin "sorted") [.ref a]) Q E s := by
  obtain ⟨es, ep, t, ⟨o, ho, hex, hd⟩, hents, htbl, hone, hpln, hldd, hrm, hsml⟩ := R0
  have R : RSet (rdKind P w) (fun _ => True) s.heap a L es ep t := ⟨⟨o, ho, hex, hd⟩, hents, htbl, hone, fun q hq => ⟨trivial, (are q hq).1⟩, hpln, hldd, hrm, hsml⟩
  have hs := R.cnt
  refine Calls.call_function_entry kind_sorted plain_sorted entry_sorted (args_sorted1 _) ?_
  unfold Builtin.«sorted»
  refine wpAny_bind (m := checkCount "sorted" 1 1 _) (wpAny_pure ?_)
  refine wpAny_bind (collect_set (A := A.in1) hh ⟨o, ho, hex.1, hd⟩ R.fitting (by unfold scanBound; omega) htbl.ris hldd fun s1 vs k1 hz g1 o1 pm => ?_)
  have hes : es.toList.map (·.2) = L.map fun q => Value.ref q.1 := by
    rw [hents, List.map_map] <;> rfl
  rw [hes] at pm
  obtain ⟨L1, hL1, pL1⟩ : ∃ L1 : List (Addr × Rdg), vs = L1.map (fun q => Value.ref q.1) ∧ L1.Perm L := by
    have mk : ∀ vs : List Value, (∀ v ∈ vs, ∃ q ∈ L, v = Value.ref q.1) → ∃ L1 : List (Addr × Rdg), vs = L1.map (fun q => Value.ref q.1) ∧ ∀ q ∈ L1, q ∈ L := by
      intro vs
      induction vs with
      | nil => exact fun _ => ⟨[], rfl, nofun⟩
      | cons v vs ih =>
        intro hv
        obtain ⟨q, hq, e⟩ := hv v List.mem_cons_self
        obtain ⟨L1, e1, h1⟩ := ih fun u hu => hv u (List.mem_cons_of_mem _ hu)
        exact ⟨q :: L1, by rw [List.map_cons, e, e1], fun r hr => (List.mem_cons.mp hr).elim (fun z => z ▸ hq) (h1 r)⟩
    obtain ⟨L1, e1, sub⟩ := mk vs fun v hv => by
      obtain ⟨q, hq, e⟩ := List.mem_map.mp (pm.mem_iff.mp hv)
      exact ⟨q, hq, e.symm⟩
    refine ⟨L1, e1, ?_⟩
    have uniq : ∀ q ∈ L, ∀ r ∈ L, q.1 = r.1 → q = r := fun q hq r hr e => by
      have a1 := (are q hq).1
      rw [e] at a1
      exact Prod.ext e ((rdKind P w).inj a1 (are r hr).1)
    have nL : L.Nodup := List.Pairwise.of_map (·.2) (fun _ _ hne e => hne (congrArg _ e)) hone
    have nR : (L.map fun q => Value.ref q.1).Nodup := List.pairwise_map.mpr (List.Pairwise.imp_of_mem (fun {q r} hq hr hne e => by injection e with e; exact hne (uniq q hq r hr e)) nL)
    rw [e1] at pm
    have n1 : L1.Nodup := List.Pairwise.of_map (fun q => Value.ref q.1) (fun _ _ hne e => hne (congrArg (fun q : Addr × Rdg => Value.ref q.1) e)) (pm.nodup_iff.mpr nR)
    refine (List.perm_ext_iff_of_nodup n1 nL).mpr fun q => ⟨sub q, fun hq => ?_⟩
    obtain ⟨r, hr, e⟩ := List.mem_map.mp (pm.mem_iff.mpr (List.mem_map.mpr ⟨q, hq, rfl⟩))
    injection e with e
    rw [← uniq r (sub r hr) q hq e]
    exact hr
  subst hL1
  have hl1 : L1.length < 64 := by rw [pL1.length_eq]; exact hsml
  refine wpAny_bind (wpAny_newList ?_ (by rw [List.length_map, sizeLine_eq]; omega))
  have hoL : (s1.heap.push (seqObj "list" (L1.map fun q => Value.ref q.1).toArray 0)).get? s1.heap.objs.size = some (seqObj "list" (L1.map fun q => Value.ref q.1).toArray 0) := Heap.get?_push_size _ rfl
  have hal : AllAlike (L1.map enc) := AllAlike.of (bs := L1) fun b b' => alike_dat b.2 b'.2
  have hr : EachIs (fun v b => ∃ as, Reads (s1.heap.push (seqObj "list" (L1.map fun q => Value.ref q.1).toArray 0)) v (enc b) as ∧ s1.heap.objs.size ∉ as) (L1.map fun q => Value.ref q.1) L1 := (each_refs (h := s.heap)).mono fun v q h => by
    obtain ⟨rfl, hq⟩ := h
    exact ⟨[], PyProof.Rows.Reads.keeps (fun b u eb => Heap.get?_push_of_some _ (k1 b u eb)) (are q (pL1.mem_iff.mp hq)).2, nofun⟩
  have hdeep : ∀ b, b ∈ L1 → A.in1.units + 1 + (enc b).depth < cLine := fun b _ => by
    show _ + 1 + (dat b.2).depth < cLine
    rw [deep_dat]
    simp only [Around.in1_units]
    omega
  refine wpAny_bind (wpAny_holding (list_sort_data (s := { s1 with heap := s1.heap.push (seqObj "list" (L1.map fun q => Value.ref q.1).toArray 0) }) (enc := enc) hoL (each_refs (h := s.heap)) hr hal
    (Sortable.tuples fun b => ⟨_, _, rfl⟩) (by rw [sizeLine_eq]; omega) hdeep fun out ho2 eo => ?_))
  · have hout := refs_each eo
    subst hout
    have ⟨pm2, pw2⟩ := sorted_strict (L := L1) ((pL1.map (·.2)).nodup_iff.mpr hone)
    obtain ⟨c, hcc⟩ := sortedHeap_at (vs := L1.map fun q => Value.ref q.1) (out := ((L1.mergeSort (dataLe false enc)).map fun q => Value.ref q.1).toArray) hoL
    refine wpAny_pure ⟨_, rfl, hQ _ s1.heap.objs.size c (L1.mergeSort (dataLe false enc)) (fun b u e => ?_) g1 o1 hz hcc (pm2.trans pL1) pw2⟩
    have q := k1 b u e
    have hlt := Heap.lt_size q
    show (sortedHeap (s1.heap.push (seqObj "list" (L1.map fun q => Value.ref q.1).toArray 0)) s1.heap.objs.size (L1.map fun q => Value.ref q.1) ((L1.mergeSort (dataLe false enc)).map fun q => Value.ref q.1).toArray).get? b = some u
    rw [sortedHeap_old (Nat.ne_of_lt hlt) (by rw [size_push']; exact Nat.lt_succ_of_lt hlt)]
    exact Heap.get?_push_of_some _ q
theorem c_srtR (hc : X.calm = true) (hu : X.A.units + 64 < cLine) : CallR X (.builtin "sorted") (rSrtR X.K X.prog X.w) := by
  intro pins s σ H vs us Q I r h
  obtain ⟨a, L, rfl, ha, hk, q⟩ := h
  rw [Vals.ref1 r]
  have R0 : RSet0 X.prog X.w s.heap a L := (I.hok a _ ha).1
  have hl : L.length < 64 := by obtain ⟨_, _, _, _, _, _, _, _, _, _, h⟩ := R0; exact h
  refine sorted_rds R0 (fun q hq => Inv.rd I (hk q hq)) (I.ok.hd hc) hu fun s' p c L' k g o hp hg pm pw => ?_
  have hlen : (L'.map fun q => V.ref q.1).length ≤ sizeLine := by rw [List.length_map, pm.length_eq, sizeLine_eq]; omega
  have hn : H p = none := I.hok.fresh hp
  have J : L2.Inv X pins σ (upd H p (.lst (L'.map fun q => V.ref q.1))) { s with heap := s'.heap, gens := s'.gens, drawn := s'.drawn, toks := s'.toks } :=
    I.call (ch := []) (Un.laid k hp hn) (I.hok.laid k hp ⟨hlen, _, c, vals_refs L', hg⟩) (by rw [g]; exact I.bare) (fun _ z => nomatch z)
  have e : s' = { s with heap := s'.heap, gens := s'.gens, drawn := s'.drawn, toks := s'.toks } := by
    cases s'
    cases s
    cases o
    rfl
  rw [e]
  exact ⟨.ref p, _, J, rfl, q p L' hn pm pw⟩
/-- a <= b of readings -/
def rLeD (K : PySem.W.Frag) : R2 := fun x y H Q => ∃ (a b : Addr) (p q : Rdg), x = .ref a ∧ y = .ref b ∧ RdAt K H a p ∧ RdAt K H b q ∧ Q (.bl (!decide (dLt q p))) H
theorem o_leD (hu : X.A.units + 64 < cLine) : OpR X (compareOp .LtE) (rLeD X.K) := by
  intro pins s σ H x y v u Q I rx ry h
  obtain ⟨a, b, p, q, rfl, rfl, ha, hb, k⟩ := h
  cases rx
  cases ry
  have R := rcLe_alike (dat p) (dat q) X.A s (.ref a) (.ref b) [] [] (Inv.rd I ha).2 (Inv.rd I hb).2 (alike_dat p q) nofun (by rw [deep_dat, deep_dat]; omega)
  rw [dLt_dat] at R
  have z : wpAny (model X.prog X.w) X.A (compareOp .LtE (.ref a) (.ref b)) (EP X pins σ Q) X.xe s := R X.prog X.w X.xe (EP X pins σ Q) ⟨.bl _, H, I, rfl, k⟩
  exact z
/-- set(t), t a tuple of ints -/
def rSetT (K : PySem.W.Frag) (w : World) : List V → Hp → VK → Prop := fun xs H Q => ∃ (p : Addr) (ns : List Int), xs = [.ref p] ∧ SqT K H p (ns.map V.int) ∧ ns.length < 64 ∧ ∀ a n, H a = none → n ≤ ns.length → Q (.ref a) (upd H a (SetO w a (fun j => decide (j ∈ ns)) n))
theorem c_setT (hc : X.calm = true) : CallR X (.type "set") (rSetT X.K X.w) := by
  intro pins s σ H xs us Q I r h
  obtain ⟨p, ns, rfl, hl, hf, q⟩ := h
  rw [Vals.ref1 r]
  obtain ⟨its, rv, pt, hz⟩ := I.tuple hl
  have hi : IntsAre its.toArray.toList ns := ints_of_vals rv
  have hn : H s.heap.objs.size = none := I.hok.fresh (Nat.le_refl _)
  refine call_set_tupI ns (I.ok.hd hc) (show s.heap.IsTuple p its.toArray from pt) hi (by unfold scanBound; omega) fun h' tk c R hcn k => ?_
  exact ⟨.ref s.heap.objs.size, _, I.laid (t' := tk) k (Nat.le_refl _) (setO_new R), rfl, q _ c hn hcn⟩
end
end TW
namespace TW
open PySem L2 Evl RS
/-! ### values told by what is known of them -/
/-- te gives, in any larger heap, something that φ knows (the heap only grows) -/
def EvP (te : TE) (σ : L2.St) (H : Hp) (φ : V → Hp → Prop) : Prop := ∀ H1, Ex H H1 → ∀ Q : VK, (∀ v H2, Ex H1 H2 → φ v H2 → Q v H2) → te σ H1 Q
/-- .. something at a new place -/
def EvF (te : TE) (σ : L2.St) (H : Hp) (φ : Addr → Hp → Prop) : Prop := ∀ H1, Ex H H1 → ∀ Q : VK, (∀ p H2, H1 p = none → Ex H1 H2 → φ p H2 → Q (.ref p) H2) → te σ H1 Q
/-- what is known stays known -/
def Up (φ : V → Hp → Prop) : Prop := ∀ v H H', Ex H H' → φ v H → φ v H'
abbrev RetP (φ : V → Hp → Prop) (H : Hp) (Q : VK) : Prop := ∀ v H2, Ex H H2 → φ v H2 → Q v H2
abbrev RetF (φ : Addr → Hp → Prop) (H : Hp) (Q : VK) : Prop := ∀ p H2, H p = none → Ex H H2 → φ p H2 → Q (.ref p) H2
section
variable {te ta tb : TE} {t tt : TT} {tu tw tz : TS} {σ : L2.St} {H H' : Hp} {v x y z : V} {φ ψ : V → Hp → Prop} {χ : Addr → Hp → Prop} {D : Ends} {K : PySem.W.Frag} {r : R2}
theorem EvP.mono (h : EvP te σ H φ) (e : Ex H H') : EvP te σ H' φ := fun H1 a Q q => h H1 (e.trans a) Q q
theorem EvF.mono (h : EvF te σ H χ) (e : Ex H H') : EvF te σ H' χ := fun H1 a Q q => h H1 (e.trans a) Q q
theorem EvP.imp (h : EvP te σ H φ) (k : ∀ v H1, Ex H H1 → φ v H1 → ψ v H1) : EvP te σ H ψ := fun H1 e Q q => h H1 e Q fun v H2 e2 p => q v H2 e2 (k v H2 (e.trans e2) p)
theorem EvF.imp {χ' : Addr → Hp → Prop} (h : EvF te σ H χ) (k : ∀ v H1, Ex H H1 → χ v H1 → χ' v H1) : EvF te σ H χ' := fun H1 e Q q => h H1 e Q fun v H2 hp e2 p => q v H2 hp e2 (k v H2 (e.trans e2) p)
theorem ep_ev (h : Ev te σ H v) : EvP te σ H fun x _ => x = v := fun H1 e Q q => h H1 e Q fun H2 e2 => q v H2 e2 rfl
theorem ev_ep (h : EvP te σ H fun x _ => x = v) : Ev te σ H v := fun H1 e Q q => h H1 e Q fun x H2 e2 p => by subst p; exact q H2 e2
theorem ep_l {xs : List V} (h : EvL te σ H xs) : EvF te σ H fun p H1 => H1 p = some (.lst xs) := h
theorem ep_u {xs : List V} (h : EvU te σ H xs) : EvF te σ H fun p H1 => H1 p = some (.tup xs) := h
theorem ep_f (h : EvF te σ H χ) : EvP te σ H fun v H1 => ∃ p, v = .ref p ∧ χ p H1 := fun H1 e Q q => h H1 e Q fun p H2 _ e2 k => q _ H2 e2 ⟨p, rfl, k⟩
theorem ep_val (h : Ev te σ H v) (k : ∀ H1, Ex H H1 → φ v H1) : EvP te σ H φ := (ep_ev h).imp fun x H1 e p => by rw [p]; exact k H1 e
/-! statements -/
theorem sp_asg {i : Nat} (h : EvP te σ H φ) (k : ∀ v H1, Ex H H1 → φ v H1 → D.nx (σ.set i (some v)) H1) : tAsg te (gName i) D σ H := h H (Ex.refl H) _ fun v H1 e p => k v H1 e p
theorem qp_asg {i : Nat} (h : EvP te σ H φ) (k : ∀ v H1, Ex H H1 → φ v H1 → tz D (σ.set i (some v)) H1) : tSeq (tAsg te (gName i)) tz D σ H := h H (Ex.refl H) _ fun v H1 e p => k v H1 e p
theorem sf_asg {i : Nat} (h : EvF te σ H χ) (k : ∀ p H1, H p = none → Ex H H1 → χ p H1 → D.nx (σ.set i (some (.ref p))) H1) : tAsg te (gName i) D σ H := h H (Ex.refl H) _ k
theorem qf_asg {i : Nat} (h : EvF te σ H χ) (k : ∀ p H1, H p = none → Ex H H1 → χ p H1 → tz D (σ.set i (some (.ref p))) H1) : tSeq (tAsg te (gName i)) tz D σ H := h H (Ex.refl H) _ k
theorem sp_ret (h : EvP te σ H φ) (k : ∀ v H1, Ex H H1 → φ v H1 → D.rt v H1) : tRet te D σ H := h H (Ex.refl H) _ fun v H1 e p => k v H1 e p
theorem sf_ret (h : EvF te σ H χ) (k : ∀ p H1, H p = none → Ex H H1 → χ p H1 → D.rt (.ref p) H1) : tRet te D σ H := h H (Ex.refl H) _ k
theorem qp_drop (h : EvP te σ H φ) (k : ∀ v H1, Ex H H1 → φ v H1 → tz D σ H1) : tSeq (tDrop te) tz D σ H := h H (Ex.refl H) _ k
theorem q_never {t : TT} {b : Bool} (h : EvT t σ H b) (hb : b = false) (k : ∀ H1, Ex H H1 → tz D σ H1) : tSeq (tIfS t tNever tNext) tz D σ H := q_when h (fun z => by rw [hb] at z; cases z) fun _ => k
theorem s_never {t : TT} {b : Bool} (h : EvT t σ H b) (hb : b = false) (k : ∀ H1, Ex H H1 → D.nx σ H1) : tIfS t tNever tNext D σ H := s_when h (fun z => by rw [hb] at z; cases z) fun _ => k
/-! calls -/
theorem ep_call {sp : Sp} {dvs vs : List V} {E : XK} {ta : TA} (h : EvA ta σ H vs) (hs : ∀ H1, Ex H H1 → ∀ Q : VK, RetP φ H1 Q → ∀ E, sp (vs ++ dvs) H1 Q E) : EvP (tCall sp dvs E ta) σ H φ := fun H1 e Q q =>
  h H1 e _ fun H2 e2 => hs H2 (e.trans e2) Q (fun v H3 e3 => q v H3 (e2.trans e3)) E
theorem ef_call {sp : Sp} {dvs vs : List V} {E : XK} {ta : TA} (h : EvA ta σ H vs) (hs : ∀ H1, Ex H H1 → ∀ Q : VK, RetF χ H1 Q → ∀ E, sp (vs ++ dvs) H1 Q E) : EvF (tCall sp dvs E ta) σ H χ := fun H1 e Q q =>
  h H1 e _ fun H2 e2 => hs H2 (e.trans e2) Q (fun p H3 hp e3 => q p H3 (fresh_back e2 hp) (e2.trans e3)) E
/-- the arguments, told by what is known of them -/
def EaP (ta : TA) (σ : L2.St) (H : Hp) (Φ : List V → Hp → Prop) : Prop := ∀ H1, Ex H H1 → ∀ Q : List V → Hp → Prop, (∀ vs H2, Ex H1 H2 → Φ vs H2 → Q vs H2) → ta σ H1 Q
theorem eap_nil : EaP tNil σ H fun vs _ => vs = [] := fun H1 _ _ q => q _ H1 (Ex.refl H1) rfl
theorem eap_ea {ta : TA} {vs : List V} (h : EvA ta σ H vs) : EaP ta σ H fun x _ => x = vs := fun H1 e Q q => h H1 e Q fun H2 e2 => q vs H2 e2 rfl
theorem eap_cons {tr : TA} {Φ : List V → Hp → Prop} (h : EvP te σ H φ) (up : Up φ) (hr : EaP tr σ H Φ) : EaP (tCons te tr) σ H fun vs H1 => ∃ x l, vs = x :: l ∧ φ x H1 ∧ Φ l H1 := fun H1 e Q q =>
  h H1 e _ fun v H2 e2 p => hr H2 (e.trans e2) _ fun l H3 e3 k => q _ H3 (e2.trans e3) ⟨v, l, rfl, up _ _ _ e3 p, k⟩
theorem eap_one (h : EvP te σ H φ) : EaP (tCons te tNil) σ H fun vs H1 => ∃ x, vs = [x] ∧ φ x H1 := fun H1 e Q q => h H1 e _ fun v H2 e2 p => q _ H2 e2 ⟨v, rfl, p⟩
theorem eap_v {tr : TA} {Φ : List V → Hp → Prop} (h : Ev te σ H v) (hr : EaP tr σ H Φ) : EaP (tCons te tr) σ H fun vs H1 => ∃ l, vs = v :: l ∧ Φ l H1 := fun H1 e Q q =>
  h H1 e _ fun H2 e2 => hr H2 (e.trans e2) _ fun l H3 e3 k => q _ H3 (e2.trans e3) ⟨l, rfl, k⟩
theorem epp_call {sp : Sp} {dvs : List V} {E : XK} {ta : TA} {Φ : List V → Hp → Prop} (h : EaP ta σ H Φ) (hs : ∀ vs H1, Ex H H1 → Φ vs H1 → ∀ Q : VK, RetP φ H1 Q → ∀ E, sp (vs ++ dvs) H1 Q E) : EvP (tCall sp dvs E ta) σ H φ := fun H1 e Q q =>
  h H1 e _ fun vs H2 e2 p => hs vs H2 (e.trans e2) p Q (fun v H3 e3 => q v H3 (e2.trans e3)) E
theorem epf_call {sp : Sp} {dvs : List V} {E : XK} {ta : TA} {Φ : List V → Hp → Prop} (h : EaP ta σ H Φ) (hs : ∀ vs H1, Ex H H1 → Φ vs H1 → ∀ Q : VK, RetF χ H1 Q → ∀ E, sp (vs ++ dvs) H1 Q E) : EvF (tCall sp dvs E ta) σ H χ := fun H1 e Q q =>
  h H1 e _ fun vs H2 e2 p => hs vs H2 (e.trans e2) p Q (fun v H3 hp e3 => q v H3 (fresh_back e2 hp) (e2.trans e3)) E
/-- a method of the instance at a -/
theorem ep_meth {C : Addr} {m : Str} {sp : Sp} {vs : List V} {E : XK} {ta : TA} {a dx : Addr} {fs : List (Str × V)} (ho : Ev te σ H (.ref a)) (hi : H a = some (.ins C dx fs)) (hm : fs.lookup m = none) (h : EvA ta σ H vs)
    (hs : ∀ H1, Ex H H1 → ∀ Q : VK, RetP φ H1 Q → ∀ E, sp (.ref a :: vs) H1 Q E) : EvP (tMeth C m sp [] E te ta) σ H φ := fun H1 e Q q => ho H1 e _ fun H2 e2 => ⟨a, dx, fs, rfl, e2 a _ (e a _ hi), hm, h H2 (e.trans e2) _ fun H3 e3 => by
    rw [List.append_nil]
    exact hs H3 ((e.trans e2).trans e3) Q (fun v H4 e4 => q v H4 ((e2.trans e3).trans e4)) E⟩
theorem ev_fld {C a dx : Addr} {fs : List (Str × V)} {f : Str} (ho : Ev te σ H (.ref a)) (hi : H a = some (.ins C dx fs)) (c : Cls K C) (n : NoAttr K C f) (hf : fs.lookup f = some v) : Ev (tFld K te f) σ H v := fun H1 e Q q =>
  ho H1 e _ fun H2 e2 => ⟨a, C, dx, fs, v, rfl, e2 a _ (e a _ hi), c, n, hf, q H2 e2⟩
/-! operators -/
theorem ep_op (ha : Ev ta σ H x) (hb : Ev tb σ H y) (hr : ∀ H1, Ex H H1 → ∀ Q : VK, RetP φ H1 Q → r x y H1 Q) : EvP (tOp r ta tb) σ H φ := fun H1 e Q q =>
  ha H1 e _ fun H2 e2 => hb H2 (e.trans e2) _ fun H3 e3 => hr H3 ((e.trans e2).trans e3) Q fun v H4 e4 => q v H4 ((e2.trans e3).trans e4)
theorem ev_chain {r r' : R2} {tc : TE} {w : V} {a b : Bool} (ha : Ev ta σ H x) (hb : Ev tb σ H y) (hc : Ev tc σ H w) (h1 : RV r x y H (.bl a)) (h2 : RV r' y w H (.bl b)) : Ev (tChain r r' ta tb tc) σ H (.bl (a && b)) := fun H1 e Q q =>
  ha H1 e _ fun H2 e2 => hb H2 (e.trans e2) _ fun H3 e3 => h1 H3 ((e.trans e2).trans e3) _ fun H4 e4 => ⟨a, rfl, by
    have e14 := (e2.trans e3).trans e4
    cases a with
    | true => exact hc H4 (e.trans e14) _ fun H5 e5 => h2 H5 ((e.trans e14).trans e5) Q fun H6 e6 => q H6 ((e14.trans e5).trans e6)
    | false => exact q H4 e14⟩
theorem ev_lenL {p : Addr} {xs : List V} (ha : Ev ta σ H (.ref p)) (h : SqL K H p xs) : Ev (tCB (rLn K) (tCons ta tNil)) σ H (.int (xs.length : Int)) := fun H1 e Q q =>
  ha H1 e _ fun H2 e2 => ⟨p, xs, rfl, .inl (ex_l (e.trans e2) h), q H2 e2⟩
theorem ev_lenT {p : Addr} {xs : List V} (ha : Ev ta σ H (.ref p)) (h : SqT K H p xs) : Ev (tCB (rLn K) (tCons ta tNil)) σ H (.int (xs.length : Int)) := fun H1 e Q q =>
  ha H1 e _ fun H2 e2 => ⟨p, xs, rfl, .inr (ex_t (e.trans e2) h), q H2 e2⟩
theorem ev_isI {i : Int} (ha : Ev ta σ H (.int i)) : Ev (tCB (rIsi K) (tCons ta (tCons (tC (.ty "int")) tNil))) σ H (.bl true) := fun H1 e Q q =>
  ha H1 e _ fun H2 e2 => ⟨.int i, .ty "int", .type "int", .type "int", true, rfl, .ty _, .base (.int i), kit_ty (by decide +kernel), q H2 e2⟩
theorem ev_isB {i : Int} (ha : Ev ta σ H (.int i)) : Ev (tCB (rIsi K) (tCons ta (tCons (tC (.ty "bool")) tNil))) σ H (.bl false) := fun H1 e Q q =>
  ha H1 e _ fun H2 e2 => ⟨.int i, .ty "bool", .type "int", .type "bool", false, rfl, .ty _, .base (.int i), kit_ty (by decide +kernel), q H2 e2⟩
theorem ev_isS {s : Str} (ha : Ev ta σ H (.str s)) : Ev (tCB (rIsi K) (tCons ta (tCons (tC (.ty "str")) tNil))) σ H (.bl true) := fun H1 e Q q =>
  ha H1 e _ fun H2 e2 => ⟨.str s, .ty "str", .type "str", .type "str", true, rfl, .ty _, .base (.str s), kit_ty (by decide +kernel), q H2 e2⟩
theorem ty_tup {p : Addr} {xs : List V} (h : SqT K H p xs) : TyX K H (.ref p) (.type "tuple") := by
  rcases h with (h | ⟨o, h⟩) | ⟨o, its, n, h, hc, _⟩
  · exact .base (.tup h)
  · exact .fTuple h
  · exact .kTuple h hc
theorem ev_isT {p : Addr} {xs : List V} (ha : Ev ta σ H (.ref p)) (h : SqT K H p xs) : Ev (tCB (rIsi K) (tCons ta (tCons (tC (.ty "tuple")) tNil))) σ H (.bl true) := fun H1 e Q q =>
  ha H1 e _ fun H2 e2 => ⟨.ref p, .ty "tuple", .type "tuple", .type "tuple", true, rfl, .ty _, ty_tup (ex_t (e.trans e2) h), kit_ty (by decide +kernel), q H2 e2⟩
end
end TW
namespace TW
open PySem L2 Evl RS RZ
/-! ### what is walked -/
/-- J hands out n items while Ok holds -/
structure Src (J : It) (Ok : Hp → Prop) (n : Nat) (item : Nat → V → Hp → Prop) : Prop where
  go : ∀ i A, Ok A → i < n → J.go i A
  stop : ∀ A, Ok A → J.stop n A
  yld : ∀ i A x B, Ok A → i < n → J.yld i A x B → Ex A B ∧ item i x B
def EvI (wi : TI) (σ : L2.St) (H : Hp) (St : Hp → Hp → Prop) (n : Nat) (item : Nat → V → Hp → Prop) : Prop := ∀ H1, Ex H H1 → ∀ R : It → Hp → Prop, (∀ J Ok H2, Ex H1 H2 → Ok H2 → (∀ A B, St A B → Ok A → Ok B) → Src J Ok n item → R J H2) → wi σ H1 R
/-- tuples stay -/
def ExT (K : PySem.W.Frag) (A B : Hp) : Prop := ∀ a xs, SqT K A a xs → SqT K B a xs
theorem ex_tt {K : PySem.W.Frag} {A B : Hp} (e : Ex A B) : ExT K A B := fun _ _ h => ex_t e h
/-- one list stays -/
def ExL (K : PySem.W.Frag) (a : Addr) (A B : Hp) : Prop := ∀ xs, SqL K A a xs → SqL K B a xs
theorem ex_ll {K : PySem.W.Frag} {A B : Hp} {a : Addr} (e : Ex A B) : ExL K a A B := fun _ h => ex_l e h
section
variable {te tl ta : TE} {taa : TA} {tu tz : TS} {σ : L2.St} {H : Hp} {K : PySem.W.Frag} {wi : TI} {St St' : Hp → Hp → Prop} {n : Nat} {item : Nat → V → Hp → Prop} {D : Ends} {φ : V → Hp → Prop}
theorem EvI.weak (h : EvI wi σ H St n item) (w : ∀ A B, St' A B → St A B) : EvI wi σ H St' n item := fun H1 e R q => h H1 e R fun J Ok H2 e2 ok s => q J Ok H2 e2 ok fun A B z => s A B (w A B z)
theorem EvI.imp {item' : Nat → V → Hp → Prop} (h : EvI wi σ H St n item) (w : ∀ i x A, item i x A → item' i x A) : EvI wi σ H St n item' := fun H1 e R q => h H1 e R fun J Ok H2 e2 ok s S => q J Ok H2 e2 ok s ⟨S.go, S.stop, fun i A x B o l y => ⟨(S.yld i A x B o l y).1, w _ _ _ (S.yld i A x B o l y).2⟩⟩
theorem ei_range {m : Int} (h : EvA taa σ H [.int m]) (h0 : 0 ≤ m) (h1 : m ≤ 40000) : EvI (iRng1 taa) σ H (fun _ _ => True) m.toNat (fun i x _ => x = .int (i : Int)) := fun H1 e R q =>
  h H1 e _ fun H2 e2 => ⟨m, rfl, by omega, by omega, q _ (fun _ => True) H2 e2 trivial (fun _ _ _ k => k) ⟨fun i A _ hi => hi, fun A _ => Nat.le_refl _, fun i A x B _ _ y => by
    obtain ⟨rfl, rfl⟩ := y
    exact ⟨Ex.refl _, by rw [Int.zero_add]⟩⟩⟩
theorem src_l {a : Addr} {xs : List V} : Src (Itl K a) (fun A => SqL K A a xs) xs.length (fun i x _ => xs[i]? = some x) :=
  ⟨fun i A ok hi => ⟨xs, xs[i], ok, List.getElem?_eq_getElem hi⟩, fun A ok => ⟨xs, ok, Nat.le_refl _⟩, fun i A x B ok hi y => by
    obtain ⟨rfl, y⟩ := y
    exact ⟨Ex.refl _, y xs ok⟩⟩
theorem src_t {a : Addr} {xs : List V} : Src (Itt K a) (fun A => SqT K A a xs) xs.length (fun i x _ => xs[i]? = some x) :=
  ⟨fun i A ok hi => ⟨xs, xs[i], ok, List.getElem?_eq_getElem hi⟩, fun A ok => ⟨xs, ok, Nat.le_refl _⟩, fun i A x B ok hi y => by
    obtain ⟨rfl, y⟩ := y
    exact ⟨Ex.refl _, y xs ok⟩⟩
theorem ei_list {a : Addr} {xs : List V} (h : Ev tl σ H (.ref a)) (hx : SqL K H a xs) : EvI (iList K tl) σ H (ExL K a) xs.length (fun i x _ => xs[i]? = some x) := fun H1 e R q =>
  h H1 e _ fun H2 e2 => ⟨a, rfl, ⟨xs, ex_l (e.trans e2) hx⟩, q _ _ H2 e2 (ex_l (e.trans e2) hx) (fun A B k ok => k xs ok) src_l⟩
theorem ei_tup {a : Addr} {xs : List V} (h : Ev tl σ H (.ref a)) (hx : SqT K H a xs) : EvI (iTup K tl) σ H (ExT K) xs.length (fun i x _ => xs[i]? = some x) := fun H1 e R q =>
  h H1 e _ fun H2 e2 => ⟨a, rfl, ⟨xs, ex_t (e.trans e2) hx⟩, q _ _ H2 e2 (ex_t (e.trans e2) hx) (fun A B k ok => k a xs ok) src_t⟩
theorem ei_listP {n : Nat} {item : Nat → V → Hp → Prop} (h : EvP tl σ H φ) (k : ∀ v A, Ex H A → φ v A → ∃ a xs, v = .ref a ∧ SqL K A a xs ∧ xs.length = n ∧ ∀ i x, xs[i]? = some x → ∀ B, Ex A B → item i x B) : EvI (iList K tl) σ H Ex n item := fun H1 e R q =>
  h H1 e _ fun v H2 e2 p => by
    obtain ⟨a, xs, rfl, hs, rfl, hi⟩ := k v H2 (e.trans e2) p
    refine ⟨a, rfl, ⟨xs, hs⟩, q _ (fun A => Ex H2 A) H2 e2 (Ex.refl _) (fun A B k ok => ok.trans k) ⟨fun i A ok l => src_l.go i A (ex_l ok hs) l, fun A ok => src_l.stop A (ex_l ok hs), fun i A x B ok l y => ?_⟩⟩
    obtain ⟨e3, y⟩ := src_l.yld i A x B (ex_l ok hs) l y
    exact ⟨e3, hi i x y B (ok.trans e3)⟩
theorem ei_zipT {xs ys : List V} (h : EaP taa σ H fun vs A => ∃ a b, vs = [.ref a, .ref b] ∧ SqT K A a xs ∧ SqT K A b ys) (hl : xs.length = n) (hl' : ys.length = n) :
    EvI (iZipA K taa) σ H (ExT K) n (fun i v A => ∃ T x y, v = .ref T ∧ A T = some (.tup [x, y]) ∧ xs[i]? = some x ∧ ys[i]? = some y) := fun H1 e R q =>
  h H1 e _ fun vs H2 e2 p => by
    obtain ⟨a, b, rfl, ha, hb⟩ := p
    refine ⟨a, b, xs, ys, rfl, .inr ⟨ha, hb, q _ (fun A => SqT K A a xs ∧ SqT K A b ys) H2 e2 ⟨ha, hb⟩ (fun A B k ok => ⟨k _ _ ok.1, k _ _ ok.2⟩) ⟨fun i A ok l => ⟨xs, ys, xs[i], ys[i], ok.1, ok.2, List.getElem?_eq_getElem (by omega), List.getElem?_eq_getElem (by omega)⟩, fun A ok => ⟨xs, ys, ok.1, ok.2, .inl (by omega)⟩, fun i A x B ok l y => ?_⟩⟩⟩
    obtain ⟨T, u, v, rfl, hT, rfl, h1, h2⟩ := y
    exact ⟨Ex.new hT, T, u, v, rfl, upd_same, h1 _ ok.1, h2 _ ok.2⟩
theorem ei_zipL {a b : Addr} {xs ys : List V} (h : EvA taa σ H [.ref a, .ref b]) (ha : SqL K H a xs) (hb : SqL K H b ys) (hl : xs.length = n) (hl' : ys.length = n) :
    EvI (iZipA K taa) σ H Ex n (fun i v A => ∃ T x y, v = .ref T ∧ A T = some (.tup [x, y]) ∧ xs[i]? = some x ∧ ys[i]? = some y) := fun H1 e R q =>
  h H1 e _ fun H2 e2 => by
    have ha := ex_l (e.trans e2) ha
    have hb := ex_l (e.trans e2) hb
    refine ⟨a, b, xs, ys, rfl, .inl ⟨ha, hb, q _ (fun A => SqL K A a xs ∧ SqL K A b ys) H2 e2 ⟨ha, hb⟩ (fun A B k ok => ⟨ex_l k ok.1, ex_l k ok.2⟩) ⟨fun i A ok l => ⟨xs, ys, xs[i], ys[i], ok.1, ok.2, List.getElem?_eq_getElem (by omega), List.getElem?_eq_getElem (by omega)⟩, fun A ok => ⟨xs, ys, ok.1, ok.2, .inl (by omega)⟩, fun i A x B ok l y => ?_⟩⟩⟩
    obtain ⟨T, u, v, rfl, hT, rfl, h1, h2⟩ := y
    exact ⟨Ex.new hT, T, u, v, rfl, upd_same, h1 _ ok.1, h2 _ ok.2⟩
theorem ei_enumL {a : Addr} {xs : List V} (h : EvA taa σ H [.ref a]) (hx : SqL K H a xs) : EvI (iEnum K taa) σ H (ExL K a) xs.length (fun i v A => ∃ T x, v = .ref T ∧ A T = some (.tup [.int (i : Nat), x]) ∧ xs[i]? = some x) := fun H1 e R q =>
  h H1 e _ fun H2 e2 => ⟨a, xs, rfl, ex_l (e.trans e2) hx, q _ (fun A => SqL K A a xs) H2 e2 (ex_l (e.trans e2) hx) (fun A B k ok => k xs ok) ⟨fun i A ok l => ⟨xs, xs[i], ok, List.getElem?_eq_getElem l⟩, fun A ok => ⟨xs, ok, Nat.le_refl _⟩, fun i A x B ok l y => by
    obtain ⟨T, u, rfl, hT, rfl, h1⟩ := y
    exact ⟨Ex.new hT, T, u, rfl, upd_same, h1 _ ok⟩⟩⟩
theorem ei_enumT {a : Addr} {xs : List V} (h : EvA taa σ H [.ref a]) (hx : SqT K H a xs) : EvI (iEnumT K taa) σ H (ExT K) xs.length (fun i v A => ∃ T x, v = .ref T ∧ A T = some (.tup [.int (i : Nat), x]) ∧ xs[i]? = some x) := fun H1 e R q =>
  h H1 e _ fun H2 e2 => ⟨a, xs, rfl, ex_t (e.trans e2) hx, q _ (fun A => SqT K A a xs) H2 e2 (ex_t (e.trans e2) hx) (fun A B k ok => k a xs ok) ⟨fun i A ok l => ⟨xs, xs[i], ok, List.getElem?_eq_getElem l⟩, fun A ok => ⟨xs, ok, Nat.le_refl _⟩, fun i A x B ok l y => by
    obtain ⟨T, u, rfl, hT, rfl, h1⟩ := y
    exact ⟨Ex.new hT, T, u, rfl, upd_same, h1 _ ok⟩⟩⟩
/-- a for loop: A1 is the heap at its begin -/
theorem s_for {g : TG} (h : EvI wi σ H St n item) (Pv : Hp → Nat → L2.St → Hp → Prop) (h0 : ∀ A1, Ex H A1 → Pv A1 0 σ A1) (hst : ∀ A1 i σ' A, Ex H A1 → i ≤ n → Pv A1 i σ' A → St A1 A)
    (hs : ∀ A1 i σ' A x B, Ex H A1 → i < n → Pv A1 i σ' A → Ex A B → item i x B → g x σ' B fun σ2 H2 => tu { D with nx := Pv A1 (i + 1), ct := Pv A1 (i + 1), bk := D.nx } σ2 H2) (hd : ∀ A1 σ' A, Ex H A1 → Pv A1 n σ' A → D.nx σ' A) : tFor wi g tu D σ H :=
  h H (Ex.refl H) _ fun J Ok A1 e ok st S => by
    refine ⟨fun i m σ' A => m + i = n ∧ Pv A1 i σ' A, ⟨n, by omega, h0 A1 e⟩, fun i m σ' A ⟨hm, p⟩ => ?_⟩
    have okA := st A1 A (hst A1 i σ' A e (by omega) p) ok
    by_cases hi : i < n
    · refine .inr ⟨S.go i A okA hi, Pv A1 (i + 1), fun σ2 B q => ⟨m - 1, by omega, by omega, q⟩, fun x B y => ?_⟩
      obtain ⟨e2, it⟩ := S.yld i A x B okA hi y
      exact hs A1 i σ' A x B e hi p e2 it
    · obtain rfl : i = n := by omega
      exact .inl ⟨S.stop A okA, hd A1 σ' A e p⟩
theorem q_for {g : TG} (h : EvI wi σ H St n item) (Pv : Hp → Nat → L2.St → Hp → Prop) (h0 : ∀ A1, Ex H A1 → Pv A1 0 σ A1) (hst : ∀ A1 i σ' A, Ex H A1 → i ≤ n → Pv A1 i σ' A → St A1 A)
    (hs : ∀ A1 i σ' A x B, Ex H A1 → i < n → Pv A1 i σ' A → Ex A B → item i x B → g x σ' B fun σ2 H2 => tu { D with nx := Pv A1 (i + 1), ct := Pv A1 (i + 1), bk := tz D } σ2 H2) (hd : ∀ A1 σ' A, Ex H A1 → Pv A1 n σ' A → tz D σ' A) : tSeq (tFor wi g tu) tz D σ H :=
  s_for (D := { D with nx := tz D }) h Pv h0 hst hs hd
/-- the target's names -/
def PtsTo (g : TG) (x : V) (σ : L2.St) (A : Hp) (σ2 : L2.St) : Prop := ∀ Q : L2.St → Hp → Prop, (∀ B, Ex A B → Q σ2 B) → g x σ A Q
theorem pt_name {j : Nat} {x : V} {A : Hp} : PtsTo (gName j) x σ A (σ.set j (some x)) := fun Q q => q A (Ex.refl A)
theorem pt_two {i j T : Nat} {x y : V} {A : Hp} (h : SqT K A T [x, y]) : PtsTo (gTup K 2 (gCons (gName i) (gCons (gName j) gNil))) (.ref T) σ A ((σ.set i (some x)).set j (some y)) := fun Q q =>
  ⟨T, [x, y], rfl, h, rfl, x, [y], rfl, y, [], rfl, rfl, q A (Ex.refl A)⟩
theorem pt_three {i j k T : Nat} {x y z : V} {A : Hp} (h : SqT K A T [x, y, z]) : PtsTo (gTup K 3 (gCons (gName i) (gCons (gName j) (gCons (gName k) gNil)))) (.ref T) σ A (((σ.set i (some x)).set j (some y)).set k (some z)) := fun Q q =>
  ⟨T, [x, y, z], rfl, h, rfl, x, [y, z], rfl, y, [z], rfl, z, [], rfl, rfl, q A (Ex.refl A)⟩
/-- the list of what f lets through, v of each -/
def kept_ (n : Nat) (f : Nat → Bool) (v : Nat → V) : List V := ((List.range n).filter f).map v
theorem keep_succ {i : Nat} {f : Nat → Bool} {v : Nat → V} : kept_ (i + 1) f v = if f i = true then kept_ i f v ++ [v i] else kept_ i f v := by
  unfold kept_
  rw [List.range_succ, List.filter_append, List.map_append]
  by_cases h : f i = true
  · rw [if_pos h]; simp [h]
  · rw [if_neg h]; simp [h]
theorem keep_all {n : Nat} {v : Nat → V} : kept_ n (fun _ => true) v = (List.range n).map v := by
  unfold kept_; rw [List.filter_eq_self.mpr fun _ _ => rfl]
/-- all but lists stay -/
def Loose (A B : Hp) : Prop := ∀ b o, (∀ xs, o ≠ .lst xs) → A b = some o → B b = some o
theorem ex_loose {A B : Hp} (e : Ex A B) : Loose A B := fun b o _ h => e b o h
theorem Loose.trans {A B C : Hp} (e : Loose A B) (e' : Loose B C) : Loose A C := fun b o n h => e' b o n (e b o n h)
theorem loose_upd {A : Hp} {l : Addr} {xs : List V} {o : HO} (h : A l = some (.lst xs)) : Loose A (upd A l o) := fun b u n e => by
  have : b ≠ l := by rintro rfl; rw [h] at e; exact n xs (Option.some.inj e).symm
  rw [upd_ne this]; exact e
theorem Loose.t {A B : Hp} (e : Loose A B) : ExT K A B := fun a xs h => by
  rcases h with (h | ⟨o, h⟩) | h
  · exact .inl (.inl (e a _ (fun ys z => nomatch z) h))
  · exact .inl (.inr ⟨o, e a _ (fun ys z => nomatch z) h⟩)
  · exact .inr h
def StabT (φ : V → Hp → Prop) : Prop := ∀ v A B, Loose A B → φ v A → φ v B
theorem StabT.up {φ : V → Hp → Prop} (h : StabT φ) : Up φ := fun v A B e => h v A B (ex_loose e)
/-- a list comprehension -/
theorem ef_lc {g : TG} {tt : TT} {vs : List Nat} (h : EvI wi σ H Ex n item) (hn : n ≤ 40000) (f : Nat → Bool) (φ : Nat → V → Hp → Prop) (up : ∀ i, StabT (φ i))
    (hs : ∀ i x A, Ex H A → i < n → item i x A → ∃ σ2, PtsTo g x (wipe σ vs) A σ2 ∧ wipe σ2 vs = wipe σ vs ∧ EvT tt σ2 A (f i) ∧ (f i = true → EvP te σ2 A (φ i))) :
    EvF (tLc wi g tt te vs) σ H fun p A => ∃ out : List V, A p = some (.lst out) ∧ out.length = ((List.range n).filter f).length ∧ ∀ (k : Nat) x, out[k]? = some x → ∃ i, ((List.range n).filter f)[k]? = some i ∧ φ i x A := fun H1 e Q q =>
  h H1 e _ fun J Ok H2 e2 ok st S Dl hD => by
    refine ⟨fun i m A => m + i = n ∧ Ex H2 A ∧ ∃ out : List V, A Dl = some (.lst out) ∧ out.length = ((List.range i).filter f).length ∧ ∀ (k : Nat) x, out[k]? = some x → ∃ i', ((List.range i).filter f)[k]? = some i' ∧ φ i' x A, ⟨n, by omega, Ex.new hD, [], upd_same, rfl, nofun⟩, fun i m A ⟨hm, eA, out, ho, hl, hx⟩ => ?_⟩
    have okA := st H2 A eA ok
    by_cases hi : i < n
    · refine .inr ⟨S.go i A okA hi, fun A => Ex H2 A ∧ ∃ out : List V, A Dl = some (.lst out) ∧ out.length = ((List.range (i + 1)).filter f).length ∧ ∀ (k : Nat) x, out[k]? = some x → ∃ i', ((List.range (i + 1)).filter f)[k]? = some i' ∧ φ i' x A, fun A' q => ⟨m - 1, by omega, by omega, q⟩, fun x B y => ?_⟩
      obtain ⟨eB, it⟩ := S.yld i A x B okA hi y
      have eHB := ((e.trans e2).trans eA).trans eB
      obtain ⟨σ2, pt, hw, ht, hv⟩ := hs i x B eHB hi it
      refine pt _ fun B2 eB2 => ⟨hw, ht B2 eB2 _ fun B3 eB3 => ?_⟩
      have eA3 := (eB.trans eB2).trans eB3
      by_cases hf : f i = true
      · rw [if_pos hf]
        refine hv hf B3 (eB2.trans eB3) _ fun y B4 eB4 hy => ?_
        have e24 : Ex A B4 := eA3.trans eB4
        have ll : out.length < 40001 := by rw [hl]; have := List.length_filter_le f (List.range i); rw [List.length_range] at this; omega
        have ff : (List.range (i + 1)).filter f = (List.range i).filter f ++ [i] := by rw [List.range_succ, List.filter_append]; simp [hf]
        have eN : Ex H2 (upd B4 Dl (.lst (out ++ [y]))) := Ex.mut (eA.trans e24) hD
        have hb : B4 Dl = some (.lst out) := e24 Dl _ ho
        refine ⟨out, hb, sz_lt (by omega), eN, out ++ [y], upd_same, by rw [ff, List.length_append, List.length_append, hl] <;> rfl, fun k x hk => ?_⟩
        rw [ff]
        by_cases hk2 : k < out.length
        · rw [List.getElem?_append_left hk2] at hk
          obtain ⟨i', h1, h2⟩ := hx k x hk
          exact ⟨i', by rw [List.getElem?_append_left (by omega)]; exact h1, up i' _ _ _ ((ex_loose e24).trans (loose_upd hb)) h2⟩
        · rw [List.getElem?_append_right (by omega)] at hk
          have hk0 : k - out.length = 0 := by
            have := (List.getElem?_eq_some_iff.mp hk).1
            simpa using this
          rw [hk0] at hk
          obtain rfl : y = x := by simpa using hk
          exact ⟨i, by rw [List.getElem?_append_right (by omega), show k - ((List.range i).filter f).length = 0 by omega] <;> rfl, up i _ _ _ (loose_upd hb) hy⟩
      · rw [if_neg hf]
        have ff : (List.range (i + 1)).filter f = (List.range i).filter f := by rw [List.range_succ, List.filter_append]; simp [hf]
        exact ⟨eA.trans eA3, out, eA3 Dl _ ho, by rw [ff]; exact hl, fun k x hk => by
          obtain ⟨i', h1, h2⟩ := hx k x hk
          exact ⟨i', by rw [ff]; exact h1, (up i').up _ _ _ eA3 h2⟩⟩
    · obtain rfl : i = n := by omega
      exact .inl ⟨S.stop A okA, q Dl A (fresh_back e2 hD) (e2.trans eA) ⟨out, ho, hl, hx⟩⟩
theorem filter_yes (n : Nat) : (List.range n).filter (fun _ => true) = List.range n := List.filter_eq_self.mpr fun _ _ => rfl
theorem et_yes {A : Hp} : EvT tYes σ A true := fun H1 _ _ q => q H1 (Ex.refl H1)
/-- .. each thing of which is known by value -/
theorem el_lcV {g : TG} {tt : TT} {vs : List Nat} (h : EvI wi σ H Ex n item) (hn : n ≤ 40000) (f : Nat → Bool) (v : Nat → V)
    (hs : ∀ i x A, Ex H A → i < n → item i x A → ∃ σ2, PtsTo g x (wipe σ vs) A σ2 ∧ wipe σ2 vs = wipe σ vs ∧ EvT tt σ2 A (f i) ∧ (f i = true → Ev te σ2 A (v i))) :
    EvL (tLc wi g tt te vs) σ H (kept_ n f v) := by
  have z := ef_lc h hn f (fun i x _ => x = v i) (fun i v A B _ h => h) fun i x A e hi it => by
    obtain ⟨σ2, p, w, t, k⟩ := hs i x A e hi it
    exact ⟨σ2, p, w, t, fun hf => ep_ev (k hf)⟩
  exact z.imp fun p A e ⟨out, ho, hl, hx⟩ => by
    rw [ho]
    congr 2
    unfold kept_
    refine List.ext_getElem? fun k => ?_
    rw [List.getElem?_map]
    cases hk : out[k]? with
    | none =>
      have := List.getElem?_eq_none_iff.mp hk
      rw [List.getElem?_eq_none (by omega)] <;> rfl
    | some x =>
      obtain ⟨i, h1, rfl⟩ := hx k x hk
      rw [h1] <;> rfl
theorem el_lcA {g : TG} {vs : List Nat} (h : EvI wi σ H Ex n item) (hn : n ≤ 40000) (v : Nat → V)
    (hs : ∀ i x A, Ex H A → i < n → item i x A → ∃ σ2, PtsTo g x (wipe σ vs) A σ2 ∧ wipe σ2 vs = wipe σ vs ∧ Ev te σ2 A (v i)) :
    EvL (tLc wi g tYes te vs) σ H ((List.range n).map v) := by
  have z := el_lcV (tt := tYes) h hn (fun _ => true) v fun i x A e hi it => by
    obtain ⟨σ2, p, w, k⟩ := hs i x A e hi it
    exact ⟨σ2, p, w, et_yes, fun _ => k⟩
  rw [keep_all] at z
  exact z
theorem ef_lcA {g : TG} {vs : List Nat} (h : EvI wi σ H Ex n item) (hn : n ≤ 40000) (φ : Nat → V → Hp → Prop) (up : ∀ i, StabT (φ i))
    (hs : ∀ i x A, Ex H A → i < n → item i x A → ∃ σ2, PtsTo g x (wipe σ vs) A σ2 ∧ wipe σ2 vs = wipe σ vs ∧ EvP te σ2 A (φ i)) :
    EvF (tLc wi g tYes te vs) σ H fun p A => ∃ out : List V, A p = some (.lst out) ∧ out.length = n ∧ ∀ (i : Nat) x, out[i]? = some x → φ i x A := by
  have z := ef_lc (tt := tYes) h hn (fun _ => true) φ up fun i x A e hi it => by
    obtain ⟨σ2, p, w, k⟩ := hs i x A e hi it
    exact ⟨σ2, p, w, et_yes, fun _ => k⟩
  exact z.imp fun p A e ⟨out, ho, hl, hx⟩ => ⟨out, ho, by rw [hl, filter_yes, List.length_range], fun i x hi => by
    obtain ⟨j, h1, h2⟩ := hx i x hi
    rw [filter_yes, List.getElem?_range (by have := (List.getElem?_eq_some_iff.mp hi).1; rw [hl, filter_yes, List.length_range] at this; exact this)] at h1
    rw [Option.some.inj h1]; exact h2⟩
/-- .. each thing of which is a new list -/
theorem ef_lcL {g : TG} {vs : List Nat} (h : EvI wi σ H Ex n item) (hn : n ≤ 40000) (row : Nat → List V)
    (hs : ∀ i x A, Ex H A → i < n → item i x A → ∃ σ2, PtsTo g x (wipe σ vs) A σ2 ∧ wipe σ2 vs = wipe σ vs ∧ EvL te σ2 A (row i)) :
    EvF (tLc wi g tYes te vs) σ H fun p A => ∃ out : List Addr, A p = some (.lst (out.map V.ref)) ∧ out.length = n ∧ ∀ (i : Nat) a, out[i]? = some a → A a = some (.lst (row i)) ∧ a ≠ p := fun H1 e Q q =>
  h H1 e _ fun J Ok H2 e2 ok st S Dl hD => by
    refine ⟨fun i m A => m + i = n ∧ Ex H2 A ∧ ∃ out : List Addr, A Dl = some (.lst (out.map V.ref)) ∧ out.length = i ∧ ∀ (k : Nat) a, out[k]? = some a → A a = some (.lst (row k)) ∧ a ≠ Dl, ⟨n, by omega, Ex.new hD, [], upd_same, rfl, nofun⟩, fun i m A ⟨hm, eA, out, ho, hl, hx⟩ => ?_⟩
    have okA := st H2 A eA ok
    by_cases hi : i < n
    · refine .inr ⟨S.go i A okA hi, fun A => Ex H2 A ∧ ∃ out : List Addr, A Dl = some (.lst (out.map V.ref)) ∧ out.length = i + 1 ∧ ∀ (k : Nat) a, out[k]? = some a → A a = some (.lst (row k)) ∧ a ≠ Dl, fun A' q => ⟨m - 1, by omega, by omega, q⟩, fun x B y => ?_⟩
      obtain ⟨eB, it⟩ := S.yld i A x B okA hi y
      have eHB := ((e.trans e2).trans eA).trans eB
      obtain ⟨σ2, pt, hw, hv⟩ := hs i x B eHB hi it
      refine pt _ fun B2 eB2 => ⟨hw, et_yes (σ := σ2) B2 (Ex.refl _) _ fun B3 eB3 => ?_⟩
      rw [if_pos rfl]
      refine hv B3 (eB2.trans eB3) _ fun y B4 hy0 eB4 hy => ?_
      have e24 : Ex A B4 := ((eB.trans eB2).trans eB3).trans eB4
      have hb : B4 Dl = some (.lst (out.map V.ref)) := e24 Dl _ ho
      have hyD : y ≠ Dl := by
        rintro rfl
        rw [((eB.trans eB2).trans eB3) y _ ho] at hy0
        cases hy0
      refine ⟨out.map V.ref, hb, sz_lt (by rw [List.length_map]; omega), Ex.mut (eA.trans e24) hD, out ++ [y], by rw [List.map_append]; exact upd_same, by rw [List.length_append, hl] <;> rfl, fun k a hk => ?_⟩
      by_cases hk2 : k < out.length
      · rw [List.getElem?_append_left hk2] at hk
        obtain ⟨h1, h2⟩ := hx k a hk
        exact ⟨by rw [upd_ne h2]; exact e24 a _ h1, h2⟩
      · rw [List.getElem?_append_right (by omega)] at hk
        have hk0 : k - out.length = 0 := by
          have := (List.getElem?_eq_some_iff.mp hk).1
          simpa using this
        rw [hk0] at hk
        obtain rfl : y = a := by simpa using hk
        obtain rfl : k = i := by omega
        exact ⟨by rw [upd_ne hyD]; exact hy, hyD⟩
    · obtain rfl : i = n := by omega
      exact .inl ⟨S.stop A okA, q Dl A (fresh_back e2 hD) (e2.trans eA) ⟨out, ho, hl, hx⟩⟩
end
end TW
namespace TW
open PySem L2 Evl RS RZ TN
/-! ### where things stand -/
structure Gs where
  P : Addr
  T : Addr
  W : Addr
  pr : Program
  wd : World
structure CF (K : PySem.W.Frag) (g : Gs) : Prop where
  P : Cls K g.P
  T : Cls K g.T
  pS : NoAttr K g.P "sides"
  pT : NoAttr K g.P "tables"
  pR : NoAttr K g.P "readings"
  tW : NoAttr K g.T "wide"
  tM : NoAttr K g.T "many"
  tS : NoAttr K g.T "signs"
  tL : NoAttr K g.T "lines"
  tB : NoAttr K g.T "base"
  tD : NoAttr K g.T "bottom"
  W : ∀ H, SqT K H g.W [.str "boxes", .str "corner"]
/-! ### what values say -/
abbrev intsV (l : List Int) : List V := l.map V.int
/-- the intsV of a row -/
abbrev row (n : Nat) (f : Nat → Int) : List V := (List.range n).map fun j => V.int (f j)
def TupI (K : PySem.W.Frag) (l : List Int) : V → Hp → Prop := fun v H => ∃ a, v = .ref a ∧ SqT K H a (intsV l)
/-- x / d in lowest terms, 0 < d -/
def fr (x d : Int) : Int × Int := (x / (Int.gcd x d : Int), d / (Int.gcd x d : Int))
def FrAt (K : PySem.W.Frag) (f : Int × Int) : V → Hp → Prop := fun v H => ∃ p, v = .ref p ∧ SqT K H p [.int f.1, .int f.2]
def FrsT (K : PySem.W.Frag) (n : Nat) (f : Nat → Int × Int) : V → Hp → Prop := fun v H => ∃ a xs, v = .ref a ∧ SqT K H a xs ∧ xs.length = n ∧ ∀ (i : Nat) x, xs[i]? = some x → FrAt K (f i) x H
def FrsL (K : PySem.W.Frag) (n : Nat) (f : Nat → Int × Int) : V → Hp → Prop := fun v H => ∃ a xs, v = .ref a ∧ SqL K H a xs ∧ xs.length = n ∧ ∀ (i : Nat) x, xs[i]? = some x → FrAt K (f i) x H
/-- readings -/
def RdV (K : PySem.W.Frag) (r : Rdg) : V → Hp → Prop := fun v H => ∃ a, v = .ref a ∧ RdAt K H a r
def RdsT (K : PySem.W.Frag) (rs : List Rdg) : V → Hp → Prop := fun v H => ∃ a xs, v = .ref a ∧ SqT K H a xs ∧ xs.length = rs.length ∧ ∀ (i : Nat) x r, xs[i]? = some x → rs[i]? = some r → RdV K r x H
def RdsL (K : PySem.W.Frag) (rs : List Rdg) : V → Hp → Prop := fun v H => ∃ a xs, v = .ref a ∧ SqL K H a xs ∧ xs.length = rs.length ∧ ∀ (i : Nat) x r, xs[i]? = some x → rs[i]? = some r → RdV K r x H
/-- a reading that a program of s sides and t tables may have -/
def Fine (s t : Nat) (r : Rdg) : Prop := 0 ≤ r.1 ∧ r.1 < t ∧ 0 ≤ r.2.1 ∧ r.2.1 < t ∧ r.2.2.length = s ∧ ∀ x ∈ r.2.2, -1000000000000 ≤ x ∧ x ≤ 1000000000000
abbrev progF (s t : Nat) (rv : V) : List (Str × V) := [("sides", .int (s : Int)), ("tables", .int (t : Int)), ("readings", rv)]
def ProgAt (K : PySem.W.Frag) (g : Gs) (s t : Nat) (rs : List Rdg) : V → Hp → Prop := fun v H => ∃ x dx rv, v = .ref x ∧ H x = some (.ins g.P dx (progF s t rv)) ∧ RdsT K rs rv H
/-- all but the thing at x stays -/
def ExX (x : Addr) (A B : Hp) : Prop := ∀ b o, b ≠ x → A b = some o → B b = some o
/-! ### the tableau in the heap -/
structure Tb where
  a : Addr
  dx : Addr
  aS : Addr
  aL : Addr
  aB : Addr
abbrev tabF (T : Tb) (wide m : Nat) (d : Int) : List (Str × V) := [("wide", .int (wide : Int)), ("many", .int (m : Int)), ("signs", .ref T.aS), ("lines", .ref T.aL), ("base", .ref T.aB), ("bottom", .int d)]
/-- rows of intsV -/
def RowsAt (H : Hp) (a : Addr) (n w : Nat) (f : Nat → Nat → Int) (bad : List Addr) : Prop := ∃ out : List Addr, H a = some (.lst (out.map V.ref)) ∧ out.length = n ∧ ∀ (i : Nat) r, out[i]? = some r → H r = some (.lst (row w (f i))) ∧ r ∉ bad
structure TabAt (g : Gs) (wide m : Nat) (Bs : Hp) (T : Tb) (s : Sx) (H : Hp) : Prop where
  ex : Ex Bs H
  na : Bs T.a = none
  nL : Bs T.aL = none
  nB : Bs T.aB = none
  ins : H T.a = some (.ins g.T T.dx (tabF T wide m s.d))
  sg : H T.aS = some (.lst (row m fun _ => 1))
  rows : RowsAt H T.aL (m + 2) (wide + m + 1) s.t [T.aL, T.aB]
  base : H T.aB = some (.lst (row m fun i => (s.B i : Int)))
  LB : T.aL ≠ T.aB
  SL : T.aS ≠ T.aL
  SB : T.aS ≠ T.aB
def optV : Option Nat → V
  | none => .non
  | some k => .int (k : Int)
/-! ### the task -/
/-- the column of a reading -/
def colF (t : Nat) (r : Rdg) : Nat → Int := fun x => if x < t then (if (x : Int) = r.1 then 1 else 0) - (if (x : Int) = r.2.1 then 1 else 0) else r.2.2.getD (x - t) 0
def rdk (rs : List Rdg) (k : Nat) : Rdg := rs.getD k (0, 0, [])
def cF (t : Nat) (rs : List Rdg) : Nat → Nat → Int := fun x k => colF t (rdk rs k) x
def gF (t : Nat) : Nat → Nat → Int := fun x q => if x = t + q then 1 else 0
def farN (s : Nat) (w : Str) : Nat := if w = "boxes" then 0 else s
def isW (w : Str) : Prop := w = "boxes" ∨ w = "corner"
/-- the end for a program's lot of its first n readings -/
def EndU (s t : Nat) (rs : List Rdg) (n f : Nat) (u : Sx) : Prop := FinU (rowsF (cF t rs) (gF t) (t + s) n) (3 * n + f) (t + s + n) (amtF (t + s)) (worF n) u
/-- the least common multiple, as it is found -/
def lcmF (f : Nat → Int × Int) : Nat → Int
  | 0 => 1
  | n + 1 => lcmF f n / (Int.gcd (lcmF f n) (f n).2 : Int) * (f n).2
def wholeF (n : Nat) (f : Nat → Int × Int) : List Int := (List.range n).map fun i => (f i).1 * (lcmF f n / (f i).2)
/-- a share, a side -/
def shF (wide m : Nat) (u : Sx) : Nat → Int × Int := fun j => fr (valOf (p2 wide m) u j) u.d
def siF (wide m : Nat) (u : Sx) : Nat → Int × Int := fun q => fr (u.t m (wide + q)) u.d
def sumF (n : Nat) (sh : Nat → Int × Int) : Nat → Int × Int := fun k => ((sh k).1 * (sh (n + k)).2 + (sh (n + k)).1 * (sh k).2, (sh k).2 * (sh (n + k)).2)
/-- what is told of a lot -/
structure TD where
  kl : List Int
  fl : List Int
  A : List Int
  B : List Int
def zeros (n : Nat) : List Int := List.replicate n 0
def toldU (s t : Nat) (rs : List Rdg) (n f : Nat) (u : Sx) : TD where
  kl := ((List.range n).filter fun k => decide (0 < (shF (3 * n + f) (t + s + n) u k).1)).map fun (k : Nat) => (k : Int)
  fl := wholeF n (sumF n (shF (3 * n + f) (t + s + n) u)) ++ zeros (rs.length - n)
  A := (wholeF (t + s) (siF (3 * n + f) (t + s + n) u)).drop t
  B := (wholeF (t + s) (siF (3 * n + f) (t + s + n) u)).take t
def ToldIs (s t : Nat) (rs : List Rdg) (n f : Nat) (d : TD) : Prop := (n = 0 ∧ d = ⟨[], zeros rs.length, zeros s, zeros t⟩) ∨ (0 < n ∧ ∃ u, EndU s t rs n f u ∧ d = toldU s t rs n f u)
def PairI (K : PySem.W.Frag) (A B : List Int) : V → Hp → Prop := fun v H => ∃ c d e, v = .ref c ∧ SqT K H c [.ref d, .ref e] ∧ SqT K H d (intsV A) ∧ SqT K H e (intsV B)
/-- the sizes of a program -/
structure Sized (s t : Nat) (rs : List Rdg) (n : Nat) : Prop where
  s1 : 1 ≤ s
  s4 : s ≤ 4
  t1 : 1 ≤ t
  t16 : t ≤ 16
  r36 : rs.length ≤ 36
  n_le : n ≤ rs.length
  fine : ∀ r ∈ rs, Fine s t r
/-! ### the promises -/
section
def sp_is_integer (K : PySem.W.Frag) (g : Gs) : Sp := fun vs H Q _ => ∃ i : Int, vs = [.int i] ∧ RetV (.bl true) H Q
def sp_is_within (K : PySem.W.Frag) (g : Gs) : Sp := fun vs H Q _ => ∃ i a b : Int, vs = [.int i, .int a, .int b] ∧ RetV (.bl (decide (a ≤ i) && decide (i ≤ b))) H Q
def sp_is_triple (K : PySem.W.Frag) (g : Gs) : Sp := fun vs H Q _ => ∃ a xs, vs = [.ref a] ∧ SqT K H a xs ∧ RetV (.bl (decide ((xs.length : Int) = 3))) H Q
def sp_are_integers (K : PySem.W.Frag) (g : Gs) : Sp := fun vs H Q _ => ∃ (a : Addr) (ns : List Int) (n : Int), vs = [.ref a, .int n] ∧ SqT K H a (intsV ns) ∧ ns.length ≤ 40000 ∧ RetV (.bl (decide ((ns.length : Int) = n))) H Q
def sp_are_within (K : PySem.W.Frag) (g : Gs) : Sp := fun vs H Q _ => ∃ (a : Addr) (ns : List Int) (n lo hi : Int), vs = [.ref a, .int n, .int lo, .int hi] ∧ SqT K H a (intsV ns) ∧ ns.length ≤ 40000 ∧ (ns.length : Int) = n ∧ (∀ x ∈ ns, lo ≤ x ∧ x ≤ hi) ∧ RetV (.bl true) H Q
def sp_is_lot_below (K : PySem.W.Frag) (g : Gs) : Sp := fun vs H Q _ => ∃ (a : Addr) (n : Nat) (m : Int), vs = [.ref a, .int m] ∧ SqT K H a (row n fun i => (i : Int)) ∧ (n : Int) ≤ m ∧ RetV (.bl true) H Q
def sp_check_world (K : PySem.W.Frag) (g : Gs) : Sp := fun vs H Q _ => ∃ w : Str, vs = [.str w] ∧ isW w ∧ RetV .non H Q
def sp_divisor (K : PySem.W.Frag) (g : Gs) : Sp := fun vs H Q _ => ∃ i j : Int, vs = [.int i, .int j] ∧ RetV (.int (Int.gcd i j : Int)) H Q
def sp_multiple (K : PySem.W.Frag) (g : Gs) : Sp := fun vs H Q _ => ∃ i j : Int, vs = [.int i, .int j] ∧ 0 < i ∧ 0 < j ∧ Bits 8900 i ∧ Bits 8900 j ∧ RetV (.int (i / (Int.gcd i j : Int) * j)) H Q
def sp_fraction (K : PySem.W.Frag) (g : Gs) : Sp := fun vs H Q _ => ∃ x d : Int, vs = [.int x, .int d] ∧ 0 < d ∧ Bits 8900 d ∧ RetP (FrAt K (fr x d)) H Q
def sp_is_reading (K : PySem.W.Frag) (g : Gs) : Sp := fun vs H Q _ => ∃ (s t : Nat) (v : V) (r : Rdg), vs = [.int s, .int t, v] ∧ RdV K r v H ∧ Fine s t r ∧ s ≤ 1000 ∧ RetV (.bl true) H Q
def sp_Program_keep (K : PySem.W.Frag) (g : Gs) : Sp := fun vs H Q _ => ∃ (x dx : Addr) (u v w : V) (fs : List (Str × V)), vs = [.ref x, u, v, w] ∧ H x = some (.ins g.P dx fs) ∧ fs.length < 100 ∧
  ∀ H2, ExX x H H2 → H2 x = some (.ins g.P dx (putF "readings" w (putF "tables" v (putF "sides" u fs)))) → Q .non H2
def sp_Program_init (K : PySem.W.Frag) (g : Gs) : Sp := fun vs H Q _ => ∃ (x dx : Addr) (s t : Nat) (rv : V) (rs : List Rdg), vs = [.ref x, .int s, .int t, rv] ∧ H x = some (.ins g.P dx []) ∧ 1 ≤ s ∧ s ≤ 4 ∧ 1 ≤ t ∧ t ≤ 8 ∧ rs.length ≤ 24 ∧
  RdsT K rs rv H ∧ (∀ r ∈ rs, Fine s t r) ∧ rs.Pairwise dLt ∧ ∀ H2, ExX x H H2 → H2 x = some (.ins g.P dx (progF s t rv)) → Q .non H2
/-- the readings of xs, each once, in order -/
def OrdOf (xs rs : List Rdg) : Prop := rs.Pairwise dLt ∧ ∀ r, r ∈ rs ↔ r ∈ xs
def sp_program_of (K : PySem.W.Frag) (g : Gs) : Sp := fun vs H Q _ => ∃ (s t : Nat) (v : V) (xs : List Rdg), vs = [.int s, .int t, v] ∧ RdsL K xs v H ∧ xs.length < 64 ∧ RetP (fun v H2 => ∃ rs, OrdOf xs rs ∧ ProgAt K g s t rs v H2) H Q
def sp_check_lot (K : PySem.W.Frag) (g : Gs) : Sp := fun vs H Q _ => ∃ (s t : Nat) (rs : List Rdg) (pv : V) (a : Addr) (n : Nat), vs = [pv, .ref a] ∧ ProgAt K g s t rs pv H ∧ SqT K H a (row n fun i => (i : Int)) ∧ n ≤ rs.length ∧ RetV .non H Q
def moveR (t : Nat) (r : Rdg) : Rdg := (r.1 + t, r.2.1 + t, r.2.2)
def sp_beside (K : PySem.W.Frag) (g : Gs) : Sp := fun vs H Q _ => ∃ (s t t' : Nat) (rs rs' : List Rdg) (u v : V), vs = [u, v] ∧ ProgAt K g s t rs u H ∧ ProgAt K g s t' rs' v H ∧ rs.length ≤ 24 ∧ rs'.length ≤ 24 ∧
  RetP (fun v H2 => ∃ ps, OrdOf (rs ++ rs'.map (moveR t)) ps ∧ ProgAt K g s (t + t') ps v H2) H Q
def sp_Tableau_init (K : PySem.W.Frag) (g : Gs) : Sp := fun vs H Q _ => ∃ (x dx a b c : Addr) (wide m : Nat) (rows : Nat → Nat → Int) (amt w : Nat → Int) (Bs : Hp), vs = [.ref x, .ref a, .ref b, .ref c] ∧ H x = some (.ins g.T dx []) ∧ Ex Bs H ∧ Bs x = none ∧
  wide ≤ 1000 ∧ m ≤ 1000 ∧ RowsAt Bs a m wide rows [] ∧ Bs b = some (.lst (row m amt)) ∧ Bs c = some (.lst (row wide w)) ∧ (∀ i, i < m → 0 ≤ amt i) ∧ (∀ i, i < m → Bits 4000 (amt i)) ∧ (∀ i, i < m → ∀ j, j < wide → Bits 4000 (rows i j)) ∧
  ∀ T H2, T.a = x → TabAt g wide m Bs T (S0 rows wide m amt w) H2 → Q .non H2
def sp_Tableau_step (K : PySem.W.Frag) (g : Gs) : Sp := fun vs H Q _ => ∃ (wide m : Nat) (Bs : Hp) (T : Tb) (s : Sx) (r c : Nat), vs = [.ref T.a, .int r, .int c] ∧ TabAt g wide m Bs T s H ∧ r < m ∧ c < wide ∧ wide ≤ 1000 ∧ m ≤ 1000 ∧ Small wide m s ∧ ∀ H2, TabAt g wide m Bs T (s.piv r c) H2 → Q .non H2
def sp_Tableau_leaving (K : PySem.W.Frag) (g : Gs) : Sp := fun vs H Q _ => ∃ (wide m : Nat) (Bs : Hp) (T : Tb) (s : Sx) (c : Nat), vs = [.ref T.a, .int c] ∧ TabAt g wide m Bs T s H ∧ c < wide ∧ wide ≤ 1000 ∧ m ≤ 1000 ∧ Small wide m s ∧ RetV (optV (leaveF s.t s.B (wide + m) c m)) H Q
def sp_Tableau_entering (K : PySem.W.Frag) (g : Gs) : Sp := fun vs H Q _ => ∃ (wide m : Nat) (Bs : Hp) (T : Tb) (s : Sx) (num : Nat), vs = [.ref T.a, .int num] ∧ TabAt g wide m Bs T s H ∧ num < m + 2 ∧ wide ≤ 1000 ∧ m ≤ 1000 ∧ RetV (optV (firstN (fun j => decide (s.t num j < 0)) wide)) H Q
def sp_Tableau_run (K : PySem.W.Frag) (g : Gs) : Sp := fun vs H Q _ => ∃ (wide m : Nat) (Bs : Hp) (T : Tb) (s : Sx) (num : Nat), vs = [.ref T.a, .int num] ∧ TabAt g wide m Bs T s H ∧ num < m + 2 ∧ wide ≤ 1000 ∧ m ≤ 1000 ∧ s.ends ⟨m, wide, wide + m, num⟩ ∧
  (∀ u, Reach ⟨m, wide, wide + m, num⟩ s u → Small wide m u) ∧ ∀ u H2, Reach ⟨m, wide, wide + m, num⟩ s u → u.next ⟨m, wide, wide + m, num⟩ = none → TabAt g wide m Bs T u H2 → Q (optV (u.enter ⟨m, wide, wide + m, num⟩)) H2
def sp_Tableau_clear (K : PySem.W.Frag) (g : Gs) : Sp := fun vs H Q _ => ∃ (wide m : Nat) (Bs : Hp) (T : Tb) (s : Sx), vs = [.ref T.a] ∧ TabAt g wide m Bs T s H ∧ wide ≤ 1000 ∧ m ≤ 1000 ∧ (∀ k, k ≤ m → Small wide m (s.clears wide k)) ∧ ∀ H2, TabAt g wide m Bs T (s.clears wide m) H2 → Q .non H2
def sp_Tableau_wanted (K : PySem.W.Frag) (g : Gs) : Sp := fun vs H Q _ => ∃ (wide m : Nat) (Bs : Hp) (T : Tb) (s : Sx), vs = [.ref T.a] ∧ TabAt g wide m Bs T s H ∧ 1 ≤ wide ∧ wide ≤ 1000 ∧ m ≤ 1000 ∧ Small wide m s ∧ (∀ i j, i < m → j < m → s.B i = s.B j → i = j) ∧ RetP (FrsT K wide (shF wide m s)) H Q
def sp_Tableau_other_side (K : PySem.W.Frag) (g : Gs) : Sp := fun vs H Q _ => ∃ (wide m : Nat) (Bs : Hp) (T : Tb) (s : Sx), vs = [.ref T.a, .int m, .int 0] ∧ TabAt g wide m Bs T s H ∧ wide ≤ 1000 ∧ m ≤ 1000 ∧ Small wide m s ∧ RetP (FrsT K m (siF wide m s)) H Q
def sp_solved (K : PySem.W.Frag) (g : Gs) : Sp := fun vs H Q _ => ∃ (a b c : Addr) (cc gg : Nat → Nat → Int) (u n f : Nat), vs = [.ref a, .ref b, .ref c] ∧ RowsAt H a (u + n) (3 * n + f) (rowsF cc gg u n) [] ∧ H b = some (.lst (row (u + n) (amtF u))) ∧ H c = some (.lst (row (3 * n + f) (worF n))) ∧
  Lim cc gg u n f ∧
  RetP (fun v H2 => ∃ w p a b, v = .ref p ∧ FinU (rowsF cc gg u n) (3 * n + f) (u + n) (amtF u) (worF n) w ∧ SqT K H2 p [.str "best", .ref a, .ref b] ∧ FrsT K (3 * n + f) (shF (3 * n + f) (u + n) w) (.ref a) H2 ∧ FrsT K (u + n) (siF (3 * n + f) (u + n) w) (.ref b) H2) H Q
def sp_column_of (K : PySem.W.Frag) (g : Gs) : Sp := fun vs H Q _ => ∃ (s t : Nat) (rs : List Rdg) (pv : V) (k : Nat), vs = [pv, .int k] ∧ ProgAt K g s t rs pv H ∧ k < rs.length ∧ (∀ r ∈ rs, Fine s t r) ∧ s ≤ 1000 ∧ t ≤ 1000 ∧ RetL (row (t + s) (colF t (rdk rs k))) H Q
def sp_far_columns (K : PySem.W.Frag) (g : Gs) : Sp := fun vs H Q _ => ∃ (s t : Nat) (rs : List Rdg) (pv : V) (w : Str), vs = [pv, .str w] ∧ ProgAt K g s t rs pv H ∧ isW w ∧ s ≤ 1000 ∧ t ≤ 1000 ∧ RetF (fun p H2 => RowsAt H2 p (farN s w) (t + s) (fun q x => gF t x q) []) H Q
def TaskAt (K : PySem.W.Frag) (s t : Nat) (rs : List Rdg) (n f : Nat) (v : V) (H : Hp) : Prop := ∃ p a b c, v = .ref p ∧ SqT K H p [.ref a, .ref b, .ref c] ∧ RowsAt H a (t + s + n) (3 * n + f) (rowsF (cF t rs) (gF t) (t + s) n) [] ∧ H b = some (.lst (row (t + s + n) (amtF (t + s)))) ∧ H c = some (.lst (row (3 * n + f) (worF n)))
def sp_task_of (K : PySem.W.Frag) (g : Gs) : Sp := fun vs H Q _ => ∃ (s t : Nat) (rs : List Rdg) (pv : V) (a : Addr) (n : Nat) (w : Str), vs = [pv, .ref a, .str w] ∧ ProgAt K g s t rs pv H ∧ SqT K H a (row n fun i => (i : Int)) ∧ isW w ∧ Sized s t rs n ∧ RetP (TaskAt K s t rs n (farN s w)) H Q
/-- fractions whose bottoms divide M -/
def Bots (M : Int) (n : Nat) (f : Nat → Int × Int) : Prop := 0 < M ∧ Bits 8900 M ∧ ∀ i, i < n → 0 < (f i).2 ∧ (f i).2 ∣ M
def sp_common_bottom (K : PySem.W.Frag) (g : Gs) : Sp := fun vs H Q _ => ∃ (v : V) (n : Nat) (f : Nat → Int × Int) (M : Int), vs = [v] ∧ FrsT K n f v H ∧ n ≤ 1000 ∧ Bots M n f ∧ RetV (.int (lcmF f n)) H Q
def sp_common_bottom_l (K : PySem.W.Frag) (g : Gs) : Sp := fun vs H Q _ => ∃ (v : V) (n : Nat) (f : Nat → Int × Int) (M : Int), vs = [v] ∧ FrsL K n f v H ∧ n ≤ 1000 ∧ Bots M n f ∧ RetV (.int (lcmF f n)) H Q
def sp_whole (K : PySem.W.Frag) (g : Gs) : Sp := fun vs H Q _ => ∃ (v : V) (n : Nat) (f : Nat → Int × Int) (M : Int), vs = [v] ∧ FrsT K n f v H ∧ n ≤ 1000 ∧ Bots M n f ∧ (∀ i, i < n → Bits 20000 (f i).1) ∧ RetP (TupI K (wholeF n f)) H Q
def sp_whole_l (K : PySem.W.Frag) (g : Gs) : Sp := fun vs H Q _ => ∃ (v : V) (n : Nat) (f : Nat → Int × Int) (M : Int), vs = [v] ∧ FrsL K n f v H ∧ n ≤ 1000 ∧ Bots M n f ∧ (∀ i, i < n → Bits 20000 (f i).1) ∧ RetP (TupI K (wholeF n f)) H Q
def PreT (K : PySem.W.Frag) (g : Gs) (vs : List V) (H : Hp) (s t : Nat) (rs : List Rdg) (n : Nat) (w : Str) : Prop := ∃ (pv : V) (a : Addr), vs = [pv, .ref a, .str w] ∧ ProgAt K g s t rs pv H ∧ SqT K H a (row n fun i => (i : Int)) ∧ isW w ∧ Sized s t rs n
def sp_told_of (K : PySem.W.Frag) (g : Gs) : Sp := fun vs H Q _ => ∃ s t rs n w, PreT K g vs H s t rs n w ∧ RetP (fun v H2 => ∃ d p a b c, ToldIs s t rs n (farN s w) d ∧ v = .ref p ∧ SqT K H2 p [.ref a, .ref b, .ref c] ∧ TupI K d.kl (.ref a) H2 ∧ TupI K d.fl (.ref b) H2 ∧ PairI K d.A d.B (.ref c) H2) H Q
def sp_check_asked (K : PySem.W.Frag) (g : Gs) : Sp := fun vs H Q _ => ∃ s t rs n w, PreT K g vs H s t rs n w ∧ RetV .non H Q
def sp_kept (K : PySem.W.Frag) (g : Gs) : Sp := fun vs H Q _ => ∃ s t rs n w, PreT K g vs H s t rs n w ∧ RetP (fun v H2 => ∃ d, ToldIs s t rs n (farN s w) d ∧ TupI K d.kl v H2) H Q
def sp_flow (K : PySem.W.Frag) (g : Gs) : Sp := fun vs H Q _ => ∃ s t rs n w, PreT K g vs H s t rs n w ∧ RetP (fun v H2 => ∃ d, ToldIs s t rs n (farN s w) d ∧ TupI K d.fl v H2) H Q
def sp_row (K : PySem.W.Frag) (g : Gs) : Sp := fun vs H Q _ => ∃ s t rs n w, PreT K g vs H s t rs n w ∧ RetP (fun v H2 => ∃ d, ToldIs s t rs n (farN s w) d ∧ PairI K d.A d.B v H2) H Q
/-! the law's own -/
/-- the pool at p, its cells at c -/
def Pool (p c : Addr) (H : Hp) : Prop := ∃ (s k : Int) (cells : List Int), H p = some (.lst [.int s, .int k, .ref c]) ∧ H c = some (.lst (intsV cells)) ∧ p ≠ c
/-- all but the pool stays -/
def ExP (p c : Addr) (A B : Hp) : Prop := ∀ b o, b ≠ p → b ≠ c → A b = some o → B b = some o
def RetD (p c : Addr) (φ : V → Hp → Prop) (H : Hp) (Q : VK) : Prop := ∀ v H2, ExP p c H H2 → Pool p c H2 → φ v H2 → Q v H2
def sp__law_pool (K : PySem.W.Frag) (g : Gs) : Sp := fun vs H Q _ => ∃ (a : Addr) (ns : List Int), vs = [.ref a] ∧ SqL K H a (intsV ns) ∧ ns.length ≤ 63 ∧ ∀ p c H2, H p = none → H c = none → Ex H H2 → Pool p c H2 → Q (.ref p) H2
def sp__law_draw (K : PySem.W.Frag) (g : Gs) : Sp := fun vs H Q _ => ∃ (p c : Addr) (m : Int), vs = [.ref p, .int m] ∧ Pool p c H ∧ 0 < m ∧ m < 2 ^ 64 ∧ RetD p c (fun v _ => ∃ r : Int, v = .int r ∧ 0 ≤ r ∧ r < m) H Q
def sp__law_is_int (K : PySem.W.Frag) (g : Gs) : Sp := fun vs H Q _ => ∃ i : Int, vs = [.int i] ∧ RetV (.bl true) H Q
def sp__law_are_ints (K : PySem.W.Frag) (g : Gs) : Sp := fun vs H Q _ => ∃ (a : Addr) (ns : List Int) (n : Int), vs = [.ref a, .int n] ∧ SqT K H a (intsV ns) ∧ ns.length ≤ 40000 ∧ RetV (.bl (decide ((ns.length : Int) = n))) H Q
def Told (K : PySem.W.Frag) (s t : Nat) (rs : List Rdg) : V → Hp → Prop := fun v H => ∃ p rv, v = .ref p ∧ SqT K H p [.int (s : Int), .int (t : Int), rv] ∧ RdsT K rs rv H
/-- right by the law's own sums: n the lot, N all readings -/
structure RightF (s t : Nat) (rs : List Rdg) (n : Nat) (w : Str) (fl : List Int) : Prop where
  len : fl.length = rs.length
  pos : ∀ k, k < rs.length → 0 ≤ fl.getD k 0
  out : ∀ k, n ≤ k → k < rs.length → fl.getD k 0 = 0
  tab : ∀ x, x < t → (S rs.length fun k => fl.getD k 0 * cF t rs x k) = 0
  side : ∀ x, x < s → (S rs.length fun k => fl.getD k 0 * cF t rs (t + x) k) = 0 ∨ ((S rs.length fun k => fl.getD k 0 * cF t rs (t + x) k) < 0 ∧ w = "corner")
def laterF (s t : Nat) (r : Rdg) (A B : List Int) : Int := (S s fun i => A.getD i 0 * r.2.2.getD i 0) + B.getD r.1.toNat 0 - B.getD r.2.1.toNat 0
structure RightR (s t : Nat) (rs : List Rdg) (n : Nat) (w : Str) (kl A B : List Int) : Prop where
  lenA : A.length = s
  lenB : B.length = t
  far : w = "corner" → ∀ i, i < s → 0 ≤ A.getD i 0
  row : ∀ k, k < n → 0 ≤ laterF s t (rdk rs k) A B ∧ (laterF s t (rdk rs k) A B = 0 ↔ (k : Int) ∈ kl)
structure RightK (n : Nat) (kl fl : List Int) : Prop where
  asc : kl.Pairwise (· < ·)
  of : ∀ k ∈ kl, 0 ≤ k ∧ k < (n : Int)
  pos : ∀ k ∈ kl, 0 < fl.getD k.toNat 0
def PreL (K : PySem.W.Frag) (vs : List V) (H : Hp) (s t : Nat) (rs : List Rdg) (n : Nat) (w : Str) (more : List V) : Prop := ∃ (tv : V) (a : Addr), vs = tv :: .ref a :: .str w :: more ∧ Told K s t rs tv H ∧ SqT K H a (row n fun i => (i : Int)) ∧ isW w ∧ Sized s t rs n
def sp__law_is_flow (K : PySem.W.Frag) (g : Gs) : Sp := fun vs H Q _ => ∃ s t rs n w x fl, PreL K vs H s t rs n w [x] ∧ TupI K fl x H ∧ RightF s t rs n w fl ∧ RetV (.bl true) H Q
def sp__law_is_row (K : PySem.W.Frag) (g : Gs) : Sp := fun vs H Q _ => ∃ s t rs n w y x kl A B, PreL K vs H s t rs n w [y, x] ∧ TupI K kl y H ∧ kl.length ≤ 36 ∧ PairI K A B x H ∧ RightR s t rs n w kl A B ∧ RetV (.bl true) H Q
def sp__law_is_certain (K : PySem.W.Frag) (g : Gs) : Sp := fun vs H Q _ => ∃ s t rs n w y z x kl fl A B, PreL K vs H s t rs n w [y, z, x] ∧ TupI K kl y H ∧ TupI K fl z H ∧ PairI K A B x H ∧ RightK n kl fl ∧ RightF s t rs n w fl ∧ RightR s t rs n w kl A B ∧ RetV (.bl true) H Q
/-- a step of the law's readings -/
def StepI (s : Nat) (b : Int) (l : List Int) : Prop := l.length = s ∧ ∀ x ∈ l, -b ≤ x ∧ x ≤ b
def sp__law_step (K : PySem.W.Frag) (g : Gs) : Sp := fun vs H Q _ => ∃ (p c : Addr) (s : Nat), vs = [.ref p, .int s] ∧ Pool p c H ∧ s ≤ 4 ∧ RetD p c (fun v H2 => ∃ l, StepI s 100000000000 l ∧ TupI K l v H2) H Q
def sp__law_walk_of (K : PySem.W.Frag) (g : Gs) : Sp := fun vs H Q _ => ∃ (p c : Addr) (s t : Nat), vs = [.ref p, .int s, .int t] ∧ Pool p c H ∧ 1 ≤ s ∧ s ≤ 4 ∧ 1 ≤ t ∧ t ≤ 8 ∧
  ∀ l H2, H l = none → ExP p c H H2 → Pool p c H2 → (∃ (xs : List V) (rs : List Rdg), H2 l = some (.lst xs) ∧ xs.length = rs.length ∧ rs.length ≤ 5 ∧ (∀ (i : Nat) x r, xs[i]? = some x → rs[i]? = some r → RdV K r x H2) ∧ ∀ r ∈ rs, Fine s t r) → Q (.ref l) H2
def sp__law_great_told (K : PySem.W.Frag) (g : Gs) : Sp := fun vs H Q _ => ∃ (p c : Addr) (b : Int), vs = [.ref p, .int b] ∧ Pool p c H ∧ (b = 0 ∨ b = 1) ∧
  RetD p c (fun v H2 => ∃ (s t : Nat) (rs : List Rdg), 1 ≤ s ∧ s ≤ 4 ∧ 1 ≤ t ∧ t ≤ 8 ∧ rs.length ≤ 24 ∧ rs.Pairwise dLt ∧ (∀ r ∈ rs, Fine s t r) ∧ Told K s t rs v H2) H Q
def sp__law_is_right (K : PySem.W.Frag) (g : Gs) : Sp := fun vs H Q _ => ∃ s t rs n w pv, PreL K vs H s t rs n w [pv] ∧ ProgAt K g s t rs pv H ∧ RetV (.bl true) H Q
def sp_law (K : PySem.W.Frag) (g : Gs) : Sp := fun vs H Q _ => ∃ (a : Addr) (ns : List Int), vs = [.ref a] ∧ SqL K H a (intsV ns) ∧ ns.length ≤ 63 ∧ ∀ H2, Q (.bl true) H2
end
/-- * with a small factor -/
abbrev rMulC : R2 := rI CMul fun i j => .int (i * j)
def t_is_integer (K : PySem.W.Frag) (g : Gs) : TS := (tRet (tAndV (tCB (rIsi K) (tCons (tVar 0) (tCons (tC (.ty "int")) tNil))) (tNotV (tCB (rIsi K) (tCons (tVar 0) (tCons (tC (.ty "bool")) tNil))))))
def t_is_within (K : PySem.W.Frag) (g : Gs) : TS := (tRet (tAndV (tCall (sp_is_integer K g) [] E0 (tCons (tVar 0) tNil)) (tChain rLeI rLeI (tVar 1) (tVar 0) (tVar 2))))
def t_is_triple (K : PySem.W.Frag) (g : Gs) : TS := (tRet (tAndV (tCB (rIsi K) (tCons (tVar 0) (tCons (tC (.ty "tuple")) tNil))) (tOp rEq (tCB (rLn K) (tCons (tVar 0) tNil)) (tC (.int 3)))))
def t_are_integers (K : PySem.W.Frag) (g : Gs) : TS := (tRet (tAndV (tCB (rIsi K) (tCons (tVar 0) (tCons (tC (.ty "tuple")) tNil))) (tAndV (tOp rEq (tCB (rLn K) (tCons (tVar 0) tNil)) (tVar 1)) (tCB (rAll K) (tCons (tLc (iTup K (tVar 0)) (gName 2) tYes (tCall (sp_is_integer K g) [] E0 (tCons (tVar 2) tNil)) [2]) tNil)))))
def t_are_within (K : PySem.W.Frag) (g : Gs) : TS := (tRet (tAndV (tCall (sp_are_integers K g) [] E0 (tCons (tVar 0) (tCons (tVar 1) tNil))) (tCB (rAll K) (tCons (tLc (iTup K (tVar 0)) (gName 4) tYes (tChain rLeI rLeI (tVar 2) (tVar 4) (tVar 3)) [4]) tNil))))
def t_is_lot_below (K : PySem.W.Frag) (g : Gs) : TS := (tSeq (tIfS (tNot (tB (tCB (rIsi K) (tCons (tVar 0) (tCons (tC (.ty "tuple")) tNil))))) (tRet (tC (.bl false))) tNext)
    (tSeq (tAsg (tUn rNegI (tC (.int 1))) (gName 2))
    (tSeq (tFor (iTup K (tVar 0)) (gName 3)
    (tSeq (tIfS (tNot (tB (tCall (sp_is_within K g) [] E0 (tCons (tVar 3) (tCons (tOp rAddI (tVar 2) (tC (.int 1))) (tCons (tOp rSubI (tVar 1) (tC (.int 1))) tNil)))))) (tRet (tC (.bl false))) tNext)
    (tAsg (tVar 3) (gName 2))))
    (tRet (tC (.bl true))))))
def t_check_world (K : PySem.W.Frag) (g : Gs) : TS := (tIfS (tOr (tNot (tB (tCB (rIsi K) (tCons (tVar 0) (tCons (tC (.ty "str")) tNil))))) (tTest (tOp (rIn K true) (tVar 0) (tC (.ref g.W))))) tNever tNext)
def t_divisor (K : PySem.W.Frag) (g : Gs) : TS := (tSeq (tPar 0 1 (tCons (tCB rAbs1 (tCons (tVar 0) tNil)) (tCons (tCB rAbs1 (tCons (tVar 1) tNil)) tNil)))
    (tSeq (tWhile (tTest (tOp rGtI (tVar 1) (tC (.int 0))))
    (tPar 0 1 (tCons (tVar 1) (tCons (tOp rModI (tVar 0) (tVar 1)) tNil))))
    (tRet (tVar 0))))
def t_multiple (K : PySem.W.Frag) (g : Gs) : TS := (tRet (tOp rMulI (tOp rDivI (tVar 0) (tCall (sp_divisor K g) [] E0 (tCons (tVar 0) (tCons (tVar 1) tNil)))) (tVar 1)))
def t_fraction (K : PySem.W.Frag) (g : Gs) : TS := (tSeq (tAsg (tCall (sp_divisor K g) [] E0 (tCons (tVar 0) (tCons (tVar 1) tNil))) (gName 2))
    (tSeq (tIfS (tTest (tOp rLtI (tVar 1) (tC (.int 0)))) (tAsg (tUn rNegI (tVar 2)) (gName 2)) tNext)
    (tRet (tTup (tCons (tOp rDivI (tVar 0) (tVar 2)) (tCons (tOp rDivI (tVar 1) (tVar 2)) tNil))))))
def t_is_reading (K : PySem.W.Frag) (g : Gs) : TS := (tSeq (tIfS (tOr (tNot (tB (tCall (sp_is_triple K g) [] E0 (tCons (tVar 2) tNil)))) (tOr (tNot (tB (tCall (sp_is_within K g) [] E0 (tCons (tOp (rIxT K) (tVar 2) (tC (.int 0))) (tCons (tC (.int 0)) (tCons (tOp rSubI (tVar 1) (tC (.int 1))) tNil)))))) (tNot (tB (tCall (sp_is_within K g) [] E0 (tCons (tOp (rIxT K) (tVar 2) (tC (.int 1))) (tCons (tC (.int 0)) (tCons (tOp rSubI (tVar 1) (tC (.int 1))) tNil)))))))) (tRet (tC (.bl false))) tNext)
    (tRet (tCall (sp_are_within K g) [] E0 (tCons (tOp (rIxT K) (tVar 2) (tC (.int 2))) (tCons (tVar 0) (tCons (tUn rNegI (tC (.int 1000000000000))) (tCons (tC (.int 1000000000000)) tNil)))))))
def t_Program_keep (K : PySem.W.Frag) (g : Gs) : TS := (tSeq (sFld K (tVar 0) (tVar 1) "sides")
    (tSeq (sFld K (tVar 0) (tVar 2) "tables")
    (sFld K (tVar 0) (tVar 3) "readings")))
def t_Program_init (K : PySem.W.Frag) (g : Gs) : TS := (tSeq (tIfS (tNot (tB (tCall (sp_is_within K g) [] E0 (tCons (tVar 1) (tCons (tC (.int 1)) (tCons (tC (.int 4)) tNil)))))) tNever tNext)
    (tSeq (tIfS (tNot (tB (tCall (sp_is_within K g) [] E0 (tCons (tVar 2) (tCons (tC (.int 1)) (tCons (tC (.int 8)) tNil)))))) tNever tNext)
    (tSeq (tIfS (tOr (tNot (tB (tCB (rIsi K) (tCons (tVar 3) (tCons (tC (.ty "tuple")) tNil))))) (tTest (tOp rGtI (tCB (rLn K) (tCons (tVar 3) tNil)) (tC (.int 24))))) tNever tNext)
    (tSeq (tFor (iEnumT K (tCons (tVar 3) tNil)) (gTup K 2 (gCons (gName 4) (gCons (gName 5) gNil)))
    (tIfS (tOr (tNot (tB (tCall (sp_is_reading K g) [] E0 (tCons (tVar 1) (tCons (tVar 2) (tCons (tVar 5) tNil)))))) (tAnd (tTest (tOp rGtI (tVar 4) (tC (.int 0)))) (tTest (tOp (rLeD K) (tVar 5) (tOp (rIxT K) (tVar 3) (tOp rSubI (tVar 4) (tC (.int 1)))))))) tNever tNext))
    (tDrop (tMeth g.P "keep" (sp_Program_keep K g) [] E0 (tVar 0) (tCons (tVar 1) (tCons (tVar 2) (tCons (tVar 3) tNil)))))))))
def t_program_of (K : PySem.W.Frag) (g : Gs) : TS := (tSeq (tAsg (tMake g.P (sp_Program_init K g) [] E0 (tCons (tC (.int 1)) (tCons (tC (.int 1)) (tCons (tTup tNil) tNil)))) (gName 3))
    (tSeq (tDrop (tMeth g.P "keep" (sp_Program_keep K g) [] E0 (tVar 3) (tCons (tVar 0) (tCons (tVar 1) (tCons (tCB (rTupOf K) (tCons (tCB (rSrtR K g.pr g.wd) (tCons (tCB (rSetR K g.pr g.wd) (tCons (tVar 2) tNil)) tNil)) tNil)) tNil)))))
    (tRet (tVar 3))))
def t_check_lot (K : PySem.W.Frag) (g : Gs) : TS := (tIfS (tNot (tB (tCall (sp_is_lot_below K g) [] E0 (tCons (tVar 1) (tCons (tCB (rLn K) (tCons (tFld K (tVar 0) "readings") tNil)) tNil))))) tNever tNext)
def t_beside (K : PySem.W.Frag) (g : Gs) : TS := (tSeq (tIfS (tTest (tOp rNe (tFld K (tVar 0) "sides") (tFld K (tVar 1) "sides"))) tNever tNext)
    (tSeq (tAsg (tLc (iTup K (tFld K (tVar 1) "readings")) (gTup K 3 (gCons (gName 3) (gCons (gName 4) (gCons (gName 5) gNil)))) tYes (tTup (tCons (tOp rAddI (tVar 3) (tFld K (tVar 0) "tables")) (tCons (tOp rAddI (tVar 4) (tFld K (tVar 0) "tables")) (tCons (tVar 5) tNil)))) [3, 4, 5]) (gName 2))
    (tRet (tCall (sp_program_of K g) [] E0 (tCons (tFld K (tVar 0) "sides") (tCons (tOp rAddI (tFld K (tVar 0) "tables") (tFld K (tVar 1) "tables")) (tCons (tOp rCat (tCB (rLstOf K) (tCons (tFld K (tVar 0) "readings") tNil)) (tVar 2)) tNil)))))))
def t_Tableau_init (K : PySem.W.Frag) (g : Gs) : TS := (tSeq (sFld K (tVar 0) (tCB (rLn K) (tCons (tVar 3) tNil)) "wide")
    (tSeq (sFld K (tVar 0) (tCB (rLn K) (tCons (tVar 1) tNil)) "many")
    (tSeq (sFld K (tVar 0) (tLc (iList K (tVar 2)) (gName 10) tYes (tIf (tTest (tOp rLtI (tVar 10) (tC (.int 0)))) (tUn rNegI (tC (.int 1))) (tC (.int 1))) [10]) "signs")
    (tSeq (sFld K (tVar 0) (tLst tNil) "lines")
    (tSeq (tFor (iEnum K (tCons (tVar 1) tNil)) (gTup K 2 (gCons (gName 4) (gCons (gName 5) gNil)))
    (tSeq (tAsg (tLc (iRng1 (tCons (tFld K (tVar 0) "many") tNil)) (gName 11) tYes (tCB rInt1 (tCons (tOp rEq (tVar 4) (tVar 11)) tNil)) [11]) (gName 6))
    (tSeq (tAsg (tOp rCat (tLc (iList K (tVar 5)) (gName 14) tYes (tOp rMulI (tOp (rIxL K) (tFld K (tVar 0) "signs") (tVar 4)) (tVar 14)) [14]) (tVar 6)) (gName 7))
    (tDrop (tBM K "list" rAppend (tFld K (tVar 0) "lines") (tCons (tOp rCat (tVar 7) (tLst (tCons (tOp rMulI (tOp (rIxL K) (tFld K (tVar 0) "signs") (tVar 4)) (tOp (rIxL K) (tVar 2) (tVar 4))) tNil))) tNil))))))
    (tSeq (sFld K (tVar 0) (tLc (iRng1 (tCons (tFld K (tVar 0) "many") tNil)) (gName 4) tYes (tOp rAddI (tFld K (tVar 0) "wide") (tVar 4)) [4]) "base")
    (tSeq (sFld K (tVar 0) (tC (.int 1)) "bottom")
    (tSeq (tAsg (tOp rCat (tLc (iList K (tVar 3)) (gName 12) tYes (tUn rNegI (tVar 12)) [12]) (tOp rRep (tLst (tCons (tC (.int 0)) tNil)) (tOp rAddI (tFld K (tVar 0) "many") (tC (.int 1))))) (gName 8))
    (tSeq (tAsg (tOp rCat (tLc (iRng1 (tCons (tFld K (tVar 0) "wide") tNil)) (gName 13) tYes (tUn rNegI (tCB (rSum K) (tCons (tLc (iList K (tFld K (tVar 0) "lines")) (gName 7) tYes (tOp (rIxL K) (tVar 7) (tVar 13)) [7]) tNil))) [13]) (tOp rRep (tLst (tCons (tC (.int 0)) tNil)) (tFld K (tVar 0) "many"))) (gName 9))
    (tSeq (tDrop (tBM K "list" rAppend (tVar 9) (tCons (tUn rNegI (tCB (rSum K) (tCons (tLc (iList K (tFld K (tVar 0) "lines")) (gName 7) tYes (tOp (rIxL K) (tVar 7) (tUn rNegI (tC (.int 1)))) [7]) tNil))) tNil)))
    (tSeq (tDrop (tBM K "list" rAppend (tFld K (tVar 0) "lines") (tCons (tVar 8) tNil)))
    (tDrop (tBM K "list" rAppend (tFld K (tVar 0) "lines") (tCons (tVar 9) tNil))))))))))))))
def t_Tableau_step (K : PySem.W.Frag) (g : Gs) : TS := (tSeq (tAsg (tOp (rIxL K) (tFld K (tVar 0) "lines") (tVar 1)) (gName 3))
    (tSeq (tAsg (tOp (rIxL K) (tVar 3) (tVar 2)) (gName 4))
    (tSeq (tFor (iRng1 (tCons (tCB (rLn K) (tCons (tFld K (tVar 0) "lines") tNil)) tNil)) (gName 5)
    (tIfS (tTest (tOp rNe (tVar 5) (tVar 1))) (tSeq (tAsg (tOp (rIxL K) (tFld K (tVar 0) "lines") (tVar 5)) (gName 6))
    (tSeq (tAsg (tOp (rIxL K) (tVar 6) (tVar 2)) (gName 7))
    (tAsg (tLc (iZipA K (tCons (tVar 6) (tCons (tVar 3) tNil))) (gTup K 2 (gCons (gName 8) (gCons (gName 9) gNil))) tYes (tOp rDivI (tOp rSubI (tOp rMulI (tVar 8) (tVar 4)) (tOp rMulI (tVar 7) (tVar 9))) (tFld K (tVar 0) "bottom")) [8, 9]) (gSub (tFld K (tVar 0) "lines") (tVar 5) rSetL)))) tNext))
    (tSeq (tAsg (tVar 2) (gSub (tFld K (tVar 0) "base") (tVar 1) rSetL))
    (sFld K (tVar 0) (tVar 4) "bottom")))))
def t_Tableau_leaving (K : PySem.W.Frag) (g : Gs) : TS := (tSeq (tAsg (tC .non) (gName 2))
    (tSeq (tFor (iRng1 (tCons (tFld K (tVar 0) "many") tNil)) (gName 3)
    (tSeq (tAsg (tOp (rIxL K) (tFld K (tVar 0) "lines") (tVar 3)) (gName 4))
    (tIfS (tTest (tOp rGtI (tOp (rIxL K) (tVar 4) (tVar 1)) (tC (.int 0)))) (tIfS (tTest (tOp rIsNo (tVar 2) (tC .non))) (tAsg (tVar 3) (gName 2)) (tSeq (tAsg (tOp (rIxL K) (tFld K (tVar 0) "lines") (tVar 2)) (gName 5))
    (tSeq (tPar 6 7 (tCons (tOp rMulI (tOp (rIxL K) (tVar 4) (tUn rNegI (tC (.int 1)))) (tOp (rIxL K) (tVar 5) (tVar 1))) (tCons (tOp rMulI (tOp (rIxL K) (tVar 5) (tUn rNegI (tC (.int 1)))) (tOp (rIxL K) (tVar 4) (tVar 1))) tNil)))
    (tIfS (tOr (tTest (tOp rLtI (tVar 6) (tVar 7))) (tAnd (tTest (tOp rEq (tVar 6) (tVar 7))) (tTest (tOp rLtI (tOp (rIxL K) (tFld K (tVar 0) "base") (tVar 3)) (tOp (rIxL K) (tFld K (tVar 0) "base") (tVar 2)))))) (tAsg (tVar 3) (gName 2)) tNext)))) tNext)))
    (tRet (tVar 2))))
def t_Tableau_entering (K : PySem.W.Frag) (g : Gs) : TS := (tSeq (tAsg (tOp (rIxL K) (tFld K (tVar 0) "lines") (tVar 1)) (gName 2))
    (tSeq (tFor (iRng1 (tCons (tFld K (tVar 0) "wide") tNil)) (gName 3)
    (tIfS (tTest (tOp rLtI (tOp (rIxL K) (tVar 2) (tVar 3)) (tC (.int 0)))) (tRet (tVar 3)) tNext))
    (tRet (tC .non))))
def t_Tableau_run (K : PySem.W.Frag) (g : Gs) : TS := (tSeq (tAsg (tMeth g.T "entering" (sp_Tableau_entering K g) [] E0 (tVar 0) (tCons (tVar 1) tNil)) (gName 2))
    (tSeq (tWhile (tTest (tOp rNotNo (tVar 2) (tC .non)))
    (tSeq (tAsg (tMeth g.T "leaving" (sp_Tableau_leaving K g) [] E0 (tVar 0) (tCons (tVar 2) tNil)) (gName 3))
    (tSeq (tIfS (tTest (tOp rIsNo (tVar 3) (tC .non))) (tRet (tVar 2)) tNext)
    (tSeq (tDrop (tMeth g.T "step" (sp_Tableau_step K g) [] E0 (tVar 0) (tCons (tVar 3) (tCons (tVar 2) tNil))))
    (tAsg (tMeth g.T "entering" (sp_Tableau_entering K g) [] E0 (tVar 0) (tCons (tVar 1) tNil)) (gName 2))))))
    (tRet (tC .non))))
def t_Tableau_clear (K : PySem.W.Frag) (g : Gs) : TS := (tFor (iRng1 (tCons (tFld K (tVar 0) "many") tNil)) (gName 1)
    (tIfS (tTest (tOp rGeI (tOp (rIxL K) (tFld K (tVar 0) "base") (tVar 1)) (tFld K (tVar 0) "wide"))) (tSeq (tAsg (tLc (iRng1 (tCons (tFld K (tVar 0) "wide") tNil)) (gName 3) (tTest (tOp rNe (tOp (rIxL K) (tOp (rIxL K) (tFld K (tVar 0) "lines") (tVar 1)) (tVar 3)) (tC (.int 0)))) (tVar 3) [3]) (gName 2))
    (tIfS (tTest (tOp rGtI (tCB (rLn K) (tCons (tVar 2) tNil)) (tC (.int 0)))) (tSeq (tIfS (tTest (tOp rLtI (tOp (rIxL K) (tOp (rIxL K) (tFld K (tVar 0) "lines") (tVar 1)) (tOp (rIxL K) (tVar 2) (tC (.int 0)))) (tC (.int 0)))) (tAsg (tLc (iList K (tOp (rIxL K) (tFld K (tVar 0) "lines") (tVar 1))) (gName 4) tYes (tUn rNegI (tVar 4)) [4]) (gSub (tFld K (tVar 0) "lines") (tVar 1) rSetL)) tNext)
    (tDrop (tMeth g.T "step" (sp_Tableau_step K g) [] E0 (tVar 0) (tCons (tVar 1) (tCons (tOp (rIxL K) (tVar 2) (tC (.int 0))) tNil))))) tNext)) tNext))
def t_Tableau_wanted (K : PySem.W.Frag) (g : Gs) : TS := (tSeq (tAsg (tOp rRep (tLst (tCons (tTup (tCons (tC (.int 0)) (tCons (tC (.int 1)) tNil))) tNil)) (tFld K (tVar 0) "wide")) (gName 1))
    (tSeq (tFor (iRng1 (tCons (tFld K (tVar 0) "many") tNil)) (gName 2)
    (tIfS (tTest (tOp rLtI (tOp (rIxL K) (tFld K (tVar 0) "base") (tVar 2)) (tFld K (tVar 0) "wide"))) (tAsg (tCall (sp_fraction K g) [] E0 (tCons (tOp (rIxL K) (tOp (rIxL K) (tFld K (tVar 0) "lines") (tVar 2)) (tUn rNegI (tC (.int 1)))) (tCons (tFld K (tVar 0) "bottom") tNil))) (gSub (tVar 1) (tOp (rIxL K) (tFld K (tVar 0) "base") (tVar 2)) rSetL)) tNext))
    (tRet (tCB (rTupOf K) (tCons (tVar 1) tNil)))))
def t_Tableau_other_side (K : PySem.W.Frag) (g : Gs) : TS := (tSeq (tAsg (tLst tNil) (gName 3))
    (tSeq (tFor (iRng1 (tCons (tFld K (tVar 0) "many") tNil)) (gName 4)
    (tSeq (tAsg (tOp rSubI (tOp (rIxL K) (tOp (rIxL K) (tFld K (tVar 0) "lines") (tVar 1)) (tOp rAddI (tFld K (tVar 0) "wide") (tVar 4))) (tOp rMulI (tVar 2) (tFld K (tVar 0) "bottom"))) (gName 5))
    (tDrop (tBM K "list" rAppend (tVar 3) (tCons (tCall (sp_fraction K g) [] E0 (tCons (tOp rMulI (tOp (rIxL K) (tFld K (tVar 0) "signs") (tVar 4)) (tVar 5)) (tCons (tFld K (tVar 0) "bottom") tNil))) tNil)))))
    (tRet (tCB (rTupOf K) (tCons (tVar 3) tNil)))))
def t_solved (K : PySem.W.Frag) (g : Gs) : TS := (tSeq (tAsg (tMake g.T (sp_Tableau_init K g) [] E0 (tCons (tVar 0) (tCons (tVar 1) (tCons (tVar 2) tNil)))) (gName 3))
    (tSeq (tDrop (tMeth g.T "run" (sp_Tableau_run K g) [] E0 (tVar 3) (tCons (tOp rAddI (tFld K (tVar 3) "many") (tC (.int 1))) tNil)))
    (tSeq (tIfS (tTest (tOp rLtI (tOp (rIxL K) (tOp (rIxL K) (tFld K (tVar 3) "lines") (tOp rAddI (tFld K (tVar 3) "many") (tC (.int 1)))) (tUn rNegI (tC (.int 1)))) (tC (.int 0)))) tNever tNext)
    (tSeq (tDrop (tMeth g.T "clear" (sp_Tableau_clear K g) [] E0 (tVar 3) tNil))
    (tSeq (tAsg (tMeth g.T "run" (sp_Tableau_run K g) [] E0 (tVar 3) (tCons (tFld K (tVar 3) "many") tNil)) (gName 4))
    (tSeq (tIfS (tTest (tOp rNotNo (tVar 4) (tC .non))) tNever tNext)
    (tRet (tTup (tCons (tC (.str "best")) (tCons (tMeth g.T "wanted" (sp_Tableau_wanted K g) [] E0 (tVar 3) tNil) (tCons (tMeth g.T "other_side" (sp_Tableau_other_side K g) [] E0 (tVar 3) (tCons (tFld K (tVar 3) "many") (tCons (tC (.int 0)) tNil))) tNil)))))))))))
def t_column_of (K : PySem.W.Frag) (g : Gs) : TS := (tSeq (tAsg (tOp (rIxT K) (tFld K (tVar 0) "readings") (tVar 1)) (gTup K 3 (gCons (gName 2) (gCons (gName 3) (gCons (gName 4) gNil)))))
    (tSeq (tAsg (tOp rRep (tLst (tCons (tC (.int 0)) tNil)) (tFld K (tVar 0) "tables")) (gName 5))
    (tSeq (tAugS (tVar 5) (tVar 2) (tC (.int 1)) (rIxL K) (ipI fun i j => i + j) rSetL)
    (tSeq (tAugS (tVar 5) (tVar 3) (tC (.int 1)) (rIxL K) (ipI fun i j => i - j) rSetL)
    (tRet (tOp rCat (tVar 5) (tCB (rLstOf K) (tCons (tVar 4) tNil))))))))
def t_far_columns (K : PySem.W.Frag) (g : Gs) : TS := (tSeq (tIfS (tTest (tOp rEq (tVar 1) (tC (.str "boxes")))) (tRet (tLst tNil)) tNext)
    (tSeq (tAsg (tOp rAddI (tFld K (tVar 0) "tables") (tFld K (tVar 0) "sides")) (gName 2))
    (tRet (tLc (iRng1 (tCons (tFld K (tVar 0) "sides") tNil)) (gName 3) tYes (tLc (iRng1 (tCons (tVar 2) tNil)) (gName 4) tYes (tCB rInt1 (tCons (tOp rEq (tVar 4) (tOp rAddI (tFld K (tVar 0) "tables") (tVar 3))) tNil)) [4]) [3]))))
def t_task_of (K : PySem.W.Frag) (g : Gs) : TS := (tSeq (tAsg (tLc (iTup K (tVar 1)) (gName 13) tYes (tCall (sp_column_of K g) [] E0 (tCons (tVar 0) (tCons (tVar 13) tNil))) [13]) (gName 3))
    (tSeq (tAsg (tCall (sp_far_columns K g) [] E0 (tCons (tVar 0) (tCons (tVar 2) tNil))) (gName 4))
    (tSeq (tAsg (tCB (rLn K) (tCons (tVar 1) tNil)) (gName 5))
    (tSeq (tAsg (tLst tNil) (gName 6))
    (tSeq (tFor (iRng1 (tCons (tOp rAddI (tFld K (tVar 0) "tables") (tFld K (tVar 0) "sides")) tNil)) (gName 7)
    (tSeq (tAsg (tLc (iList K (tVar 3)) (gName 14) tYes (tOp (rIxL K) (tVar 14) (tVar 7)) [14]) (gName 8))
    (tDrop (tBM K "list" rAppend (tVar 6) (tCons (tOp rCat (tOp rCat (tOp rCat (tVar 8) (tVar 8)) (tOp rRep (tLst (tCons (tC (.int 0)) tNil)) (tVar 5))) (tLc (iList K (tVar 4)) (gName 14) tYes (tOp (rIxL K) (tVar 14) (tVar 7)) [14])) tNil)))))
    (tSeq (tFor (iRng1 (tCons (tVar 5) tNil)) (gName 9)
    (tSeq (tAsg (tLc (iRng1 (tCons (tVar 5) tNil)) (gName 15) tYes (tCB rInt1 (tCons (tOp rEq (tVar 9) (tVar 15)) tNil)) [15]) (gName 10))
    (tDrop (tBM K "list" rAppend (tVar 6) (tCons (tOp rCat (tOp rCat (tOp rCat (tVar 10) (tOp rRep (tLst (tCons (tC (.int 0)) tNil)) (tVar 5))) (tVar 10)) (tOp rRep (tLst (tCons (tC (.int 0)) tNil)) (tCB (rLn K) (tCons (tVar 4) tNil)))) tNil)))))
    (tSeq (tAsg (tOp rCat (tOp rRep (tLst (tCons (tC (.int 0)) tNil)) (tOp rAddI (tFld K (tVar 0) "tables") (tFld K (tVar 0) "sides"))) (tOp rRep (tLst (tCons (tC (.int 1)) tNil)) (tVar 5))) (gName 11))
    (tSeq (tAsg (tOp rCat (tOp rRep (tLst (tCons (tC (.int 1)) tNil)) (tVar 5)) (tOp rRep (tLst (tCons (tC (.int 0)) tNil)) (tOp rAddI (tOp rMulI (tC (.int 2)) (tVar 5)) (tCB (rLn K) (tCons (tVar 4) tNil))))) (gName 12))
    (tRet (tTup (tCons (tVar 6) (tCons (tVar 11) (tCons (tVar 12) tNil)))))))))))))
def t_common_bottom (K : PySem.W.Frag) (g : Gs) : TS := (tSeq (tAsg (tC (.int 1)) (gName 1))
    (tSeq (tFor (iTup K (tVar 0)) (gTup K 2 (gCons (gName 2) (gCons (gName 3) gNil)))
    (tAsg (tCall (sp_multiple K g) [] E0 (tCons (tVar 1) (tCons (tVar 3) tNil))) (gName 1)))
    (tRet (tVar 1))))
def t_whole (K : PySem.W.Frag) (g : Gs) : TS := (tSeq (tAsg (tCall (sp_common_bottom K g) [] E0 (tCons (tVar 0) tNil)) (gName 1))
    (tRet (tCB (rTupOf K) (tCons (tLc (iTup K (tVar 0)) (gTup K 2 (gCons (gName 2) (gCons (gName 3) gNil))) tYes (tOp rMulI (tVar 2) (tOp rDivI (tVar 1) (tVar 3))) [2, 3]) tNil))))
def t_common_bottom_l (K : PySem.W.Frag) (g : Gs) : TS := (tSeq (tAsg (tC (.int 1)) (gName 1))
    (tSeq (tFor (iList K (tVar 0)) (gTup K 2 (gCons (gName 2) (gCons (gName 3) gNil)))
    (tAsg (tCall (sp_multiple K g) [] E0 (tCons (tVar 1) (tCons (tVar 3) tNil))) (gName 1)))
    (tRet (tVar 1))))
def t_whole_l (K : PySem.W.Frag) (g : Gs) : TS := (tSeq (tAsg (tCall (sp_common_bottom_l K g) [] E0 (tCons (tVar 0) tNil)) (gName 1))
    (tRet (tCB (rTupOf K) (tCons (tLc (iList K (tVar 0)) (gTup K 2 (gCons (gName 2) (gCons (gName 3) gNil))) tYes (tOp rMulI (tVar 2) (tOp rDivI (tVar 1) (tVar 3))) [2, 3]) tNil))))
def t_told_of (K : PySem.W.Frag) (g : Gs) : TS := (tSeq (tIfS (tTest (tOp rEq (tCB (rLn K) (tCons (tVar 1) tNil)) (tC (.int 0)))) (tRet (tTup (tCons (tTup tNil) (tCons (tOp (rRepTT K) (tTup (tCons (tC (.int 0)) tNil)) (tCB (rLn K) (tCons (tFld K (tVar 0) "readings") tNil))) (tCons (tTup (tCons (tOp (rRepTT K) (tTup (tCons (tC (.int 0)) tNil)) (tFld K (tVar 0) "sides")) (tCons (tOp (rRepTT K) (tTup (tCons (tC (.int 0)) tNil)) (tFld K (tVar 0) "tables")) tNil))) tNil))))) tNext)
    (tSeq (tAsg (tCall (sp_task_of K g) [] E0 (tCons (tVar 0) (tCons (tVar 1) (tCons (tVar 2) tNil)))) (gTup K 3 (gCons (gName 3) (gCons (gName 4) (gCons (gName 5) gNil)))))
    (tSeq (tAsg (tCall (sp_solved K g) [] E0 (tCons (tVar 3) (tCons (tVar 4) (tCons (tVar 5) tNil)))) (gTup K 3 (gCons (gName 6) (gCons (gName 7) (gCons (gName 8) gNil)))))
    (tSeq (tAsg (tCB (rLn K) (tCons (tVar 1) tNil)) (gName 9))
    (tSeq (tAsg (tCB (rTupOf K) (tCons (tLc (iZipA K (tCons (tVar 1) (tCons (tSl (rSlT K) (tVar 7) tNoPart (tPart (tVar 9))) tNil))) (gTup K 2 (gCons (gName 10) (gCons (gName 18) gNil))) (tTest (tOp rGtI (tOp (rIxT K) (tVar 18) (tC (.int 0))) (tC (.int 0)))) (tVar 10) [10, 18]) tNil)) (gName 11))
    (tSeq (tAsg (tLst tNil) (gName 12))
    (tSeq (tFor (iZipA K (tCons (tSl (rSlT K) (tVar 7) tNoPart (tPart (tVar 9))) (tCons (tSl (rSlT K) (tVar 7) (tPart (tVar 9)) (tPart (tOp rMulI (tC (.int 2)) (tVar 9)))) tNil))) (gTup K 2 (gCons (gName 13) (gCons (gName 14) gNil)))
    (tDrop (tBM K "list" rAppend (tVar 12) (tCons (tTup (tCons (tOp rAddI (tOp rMulI (tOp (rIxT K) (tVar 13) (tC (.int 0))) (tOp (rIxT K) (tVar 14) (tC (.int 1)))) (tOp rMulI (tOp (rIxT K) (tVar 14) (tC (.int 0))) (tOp (rIxT K) (tVar 13) (tC (.int 1))))) (tCons (tOp rMulI (tOp (rIxT K) (tVar 13) (tC (.int 1))) (tOp (rIxT K) (tVar 14) (tC (.int 1)))) tNil))) tNil))))
    (tSeq (tAsg (tOp rRep (tLst (tCons (tC (.int 0)) tNil)) (tCB (rLn K) (tCons (tFld K (tVar 0) "readings") tNil))) (gName 15))
    (tSeq (tFor (iZipA K (tCons (tVar 1) (tCons (tCall (sp_whole_l K g) [] E0 (tCons (tVar 12) tNil)) tNil))) (gTup K 2 (gCons (gName 10) (gCons (gName 16) gNil)))
    (tAsg (tVar 16) (gSub (tVar 15) (tVar 10) rSetL)))
    (tSeq (tAsg (tCall (sp_whole K g) [] E0 (tCons (tSl (rSlT K) (tVar 8) tNoPart (tPart (tOp rAddI (tFld K (tVar 0) "tables") (tFld K (tVar 0) "sides")))) tNil)) (gName 17))
    (tRet (tTup (tCons (tVar 11) (tCons (tCB (rTupOf K) (tCons (tVar 15) tNil)) (tCons (tTup (tCons (tSl (rSlT K) (tVar 17) (tPart (tFld K (tVar 0) "tables")) tNoPart) (tCons (tSl (rSlT K) (tVar 17) tNoPart (tPart (tFld K (tVar 0) "tables"))) tNil))) tNil)))))))))))))))
def t_check_asked (K : PySem.W.Frag) (g : Gs) : TS := (tSeq (tDrop (tCall (sp_check_lot K g) [] E0 (tCons (tVar 0) (tCons (tVar 1) tNil))))
    (tDrop (tCall (sp_check_world K g) [] E0 (tCons (tVar 2) tNil))))
def t_kept (K : PySem.W.Frag) (g : Gs) : TS := (tSeq (tDrop (tCall (sp_check_asked K g) [] E0 (tCons (tVar 0) (tCons (tVar 1) (tCons (tVar 2) tNil)))))
    (tRet (tOp (rIxT K) (tCall (sp_told_of K g) [] E0 (tCons (tVar 0) (tCons (tVar 1) (tCons (tVar 2) tNil)))) (tC (.int 0)))))
def t_flow (K : PySem.W.Frag) (g : Gs) : TS := (tSeq (tDrop (tCall (sp_check_asked K g) [] E0 (tCons (tVar 0) (tCons (tVar 1) (tCons (tVar 2) tNil)))))
    (tRet (tOp (rIxT K) (tCall (sp_told_of K g) [] E0 (tCons (tVar 0) (tCons (tVar 1) (tCons (tVar 2) tNil)))) (tC (.int 1)))))
def t_row (K : PySem.W.Frag) (g : Gs) : TS := (tSeq (tDrop (tCall (sp_check_asked K g) [] E0 (tCons (tVar 0) (tCons (tVar 1) (tCons (tVar 2) tNil)))))
    (tRet (tOp (rIxT K) (tCall (sp_told_of K g) [] E0 (tCons (tVar 0) (tCons (tVar 1) (tCons (tVar 2) tNil)))) (tC (.int 2)))))
def t__law_pool (K : PySem.W.Frag) (g : Gs) : TS := (tSeq (tAsg (tOp rAddI (tOp rAddI (tOp rModI (tCB rInt1 (tCons (tCB (rSum K) (tCons (tSl (rSlL K) (tVar 0) tNoPart (tPart (tC (.int 1)))) tNil)) tNil)) (tC (.int 1000003))) (tCB (rLn K) (tCons (tVar 0) tNil))) (tC (.int 1))) (gName 1))
    (tSeq (tFor (iList K (tSl (rSlL K) (tVar 0) tNoPart (tPart (tC (.int 63))))) (gName 2)
    (tAsg (tOp rModI (tCB rInt1 (tCons (tOp rAddI (tOp rAddI (tOp rMulC (tVar 1) (tC (.int 48271))) (tOp rModI (tCB rInt1 (tCons (tVar 2) tNil)) (tC (.int 2147483629)))) (tC (.int 11))) tNil)) (tC (.int 2147483647))) (gName 1)))
    (tRet (tLst (tCons (tVar 1) (tCons (tC (.int 0)) (tCons (tLc (iList K (tSl (rSlL K) (tVar 0) tNoPart (tPart (tC (.int 63))))) (gName 2) (tTest (tOp rGeI (tCB rAbs1 (tCons (tVar 2) tNil)) (tOp rPowI (tC (.int 10)) (tC (.int 18))))) (tCB rAbs1 (tCons (tVar 2) tNil)) [2]) tNil)))))))
def t__law_draw (K : PySem.W.Frag) (g : Gs) : TS := (tSeq (tAsg (tOp rAddI (tOp (rIxL K) (tVar 0) (tC (.int 1))) (tC (.int 1))) (gSub (tVar 0) (tC (.int 1)) rSetL))
    (tSeq (tAsg (tOp (rIxL K) (tVar 0) (tC (.int 2))) (gName 2))
    (tSeq (tIfS (tTest (tOp rGtI (tCB (rLn K) (tCons (tVar 2) tNil)) (tC (.int 0)))) (tSeq (tAsg (tOp rModI (tCB rInt1 (tCons (tOp (rIxL K) (tVar 2) (tC (.int 0))) tNil)) (tVar 1)) (gName 3))
    (tSeq (tAsg (tOp rDivI (tCB rInt1 (tCons (tOp (rIxL K) (tVar 2) (tC (.int 0))) tNil)) (tVar 1)) (gSub (tVar 2) (tC (.int 0)) rSetL))
    (tSeq (tIfS (tTest (tOp rEq (tOp (rIxL K) (tVar 2) (tC (.int 0))) (tC (.int 0)))) (tDrop (tBM K "list" rPopAt (tVar 2) (tCons (tC (.int 0)) tNil))) tNext)
    (tRet (tVar 3))))) tNext)
    (tSeq (tAsg (tOp rModI (tCB rInt1 (tCons (tOp rMulC (tOp rAddI (tOp (rIxL K) (tVar 0) (tC (.int 0))) (tOp rMulC (tC (.int 7919)) (tOp (rIxL K) (tVar 0) (tC (.int 1))))) (tC (.int 48271))) tNil)) (tC (.int 2147483647))) (gName 4))
    (tSeq (tAsg (tOp rModI (tCB rInt1 (tCons (tOp rMulC (tVar 4) (tOp rAddI (tOp rDivI (tVar 4) (tC (.int 1009))) (tC (.int 69621)))) tNil)) (tC (.int 2147483647))) (gName 4))
    (tSeq (tAsg (tOp rModI (tCB rInt1 (tCons (tOp rMulC (tVar 4) (tOp rAddI (tOp rDivI (tVar 4) (tC (.int 2003))) (tC (.int 40692)))) tNil)) (tC (.int 2147483399))) (gName 4))
    (tRet (tOp rModI (tCB rInt1 (tCons (tOp rDivI (tVar 4) (tC (.int 16))) tNil)) (tVar 1)))))))))
def t__law_is_int (K : PySem.W.Frag) (g : Gs) : TS := (tRet (tAndV (tCB (rIsi K) (tCons (tVar 0) (tCons (tC (.ty "int")) tNil))) (tNotV (tCB (rIsi K) (tCons (tVar 0) (tCons (tC (.ty "bool")) tNil))))))
def t__law_are_ints (K : PySem.W.Frag) (g : Gs) : TS := (tRet (tAndV (tCB (rIsi K) (tCons (tVar 0) (tCons (tC (.ty "tuple")) tNil))) (tAndV (tOp rEq (tCB (rLn K) (tCons (tVar 0) tNil)) (tVar 1)) (tCB (rAll K) (tCons (tLc (iTup K (tVar 0)) (gName 2) tYes (tCall (sp__law_is_int K g) [] E0 (tCons (tVar 2) tNil)) [2]) tNil)))))
def t__law_is_flow (K : PySem.W.Frag) (g : Gs) : TS := (tSeq (tAsg (tVar 0) (gTup K 3 (gCons (gName 4) (gCons (gName 5) (gCons (gName 6) gNil)))))
    (tSeq (tIfS (tOr (tNot (tB (tCall (sp__law_are_ints K g) [] E0 (tCons (tVar 3) (tCons (tCB (rLn K) (tCons (tVar 6) tNil)) tNil))))) (tNot (tB (tCB (rAll K) (tCons (tLc (iTup K (tVar 3)) (gName 15) tYes (tOp rGeI (tVar 15) (tC (.int 0))) [15]) tNil))))) (tRet (tC (.bl false))) tNext)
    (tSeq (tIfS (tNot (tB (tCB (rAll K) (tCons (tLc (iRng1 (tCons (tCB (rLn K) (tCons (tVar 3) tNil)) tNil)) (gName 7) tYes (tOrV (tOp (rIn K false) (tVar 7) (tVar 1)) (tOp rEq (tOp (rIxT K) (tVar 3) (tVar 7)) (tC (.int 0)))) [7]) tNil)))) (tRet (tC (.bl false))) tNext)
    (tSeq (tAsg (tOp rRep (tLst (tCons (tC (.int 0)) tNil)) (tVar 5)) (gName 8))
    (tSeq (tAsg (tOp rRep (tLst (tCons (tC (.int 0)) tNil)) (tVar 4)) (gName 9))
    (tSeq (tFor (iRng1 (tCons (tCB (rLn K) (tCons (tVar 3) tNil)) tNil)) (gName 7)
    (tSeq (tAsg (tOp (rIxT K) (tVar 6) (tVar 7)) (gTup K 3 (gCons (gName 10) (gCons (gName 11) (gCons (gName 12) gNil)))))
    (tSeq (tAsg (tOp rAddI (tOp (rIxL K) (tVar 8) (tVar 10)) (tOp (rIxT K) (tVar 3) (tVar 7))) (gSub (tVar 8) (tVar 10) rSetL))
    (tSeq (tAsg (tOp rSubI (tOp (rIxL K) (tVar 8) (tVar 11)) (tOp (rIxT K) (tVar 3) (tVar 7))) (gSub (tVar 8) (tVar 11) rSetL))
    (tFor (iRng1 (tCons (tVar 4) tNil)) (gName 13)
    (tAsg (tOp rAddI (tOp (rIxL K) (tVar 9) (tVar 13)) (tOp rMulC (tOp (rIxT K) (tVar 3) (tVar 7)) (tOp (rIxT K) (tVar 12) (tVar 13)))) (gSub (tVar 9) (tVar 13) rSetL)))))))
    (tSeq (tIfS (tNot (tB (tCB (rAll K) (tCons (tLc (iList K (tVar 8)) (gName 15) tYes (tOp rEq (tVar 15) (tC (.int 0))) [15]) tNil)))) (tRet (tC (.bl false))) tNext)
    (tRet (tCB (rAll K) (tCons (tLc (iList K (tVar 9)) (gName 14) tYes (tOrV (tOp rEq (tVar 14) (tC (.int 0))) (tAndV (tOp rLtI (tVar 14) (tC (.int 0))) (tOp rEq (tVar 2) (tC (.str "corner"))))) [14]) tNil))))))))))
def t__law_is_row (K : PySem.W.Frag) (g : Gs) : TS := (tSeq (tAsg (tVar 0) (gTup K 3 (gCons (gName 5) (gCons (gName 6) (gCons (gName 7) gNil)))))
    (tSeq (tIfS (tOr (tNot (tB (tCB (rIsi K) (tCons (tVar 4) (tCons (tC (.ty "tuple")) tNil))))) (tTest (tOp rNe (tCB (rLn K) (tCons (tVar 4) tNil)) (tC (.int 2))))) (tRet (tC (.bl false))) tNext)
    (tSeq (tIfS (tOr (tNot (tB (tCall (sp__law_are_ints K g) [] E0 (tCons (tOp (rIxT K) (tVar 4) (tC (.int 0))) (tCons (tVar 5) tNil))))) (tNot (tB (tCall (sp__law_are_ints K g) [] E0 (tCons (tOp (rIxT K) (tVar 4) (tC (.int 1))) (tCons (tVar 6) tNil)))))) (tRet (tC (.bl false))) tNext)
    (tSeq (tIfS (tAnd (tTest (tOp rEq (tVar 2) (tC (.str "corner")))) (tNot (tB (tCB (rAll K) (tCons (tLc (iTup K (tOp (rIxT K) (tVar 4) (tC (.int 0)))) (gName 13) tYes (tOp rGeI (tVar 13) (tC (.int 0))) [13]) tNil))))) (tRet (tC (.bl false))) tNext)
    (tSeq (tFor (iTup K (tVar 1)) (gName 8)
    (tSeq (tAsg (tOp (rIxT K) (tVar 7) (tVar 8)) (gTup K 3 (gCons (gName 9) (gCons (gName 10) (gCons (gName 11) gNil)))))
    (tSeq (tAsg (tOp rSubI (tOp rAddI (tCB (rSum K) (tCons (tLc (iRng1 (tCons (tVar 5) tNil)) (gName 14) tYes (tOp rMulC (tOp (rIxT K) (tOp (rIxT K) (tVar 4) (tC (.int 0))) (tVar 14)) (tOp (rIxT K) (tVar 11) (tVar 14))) [14]) tNil)) (tOp (rIxT K) (tOp (rIxT K) (tVar 4) (tC (.int 1))) (tVar 9))) (tOp (rIxT K) (tOp (rIxT K) (tVar 4) (tC (.int 1))) (tVar 10))) (gName 12))
    (tIfS (tOr (tTest (tOp rLtI (tVar 12) (tC (.int 0)))) (tTest (tOp rNe (tOp rEq (tVar 12) (tC (.int 0))) (tOp (rIn K false) (tVar 8) (tVar 3))))) (tRet (tC (.bl false))) tNext))))
    (tRet (tC (.bl true))))))))
def t__law_is_certain (K : PySem.W.Frag) (g : Gs) : TS := (tSeq (tIfS (tOr (tNot (tB (tCall (sp__law_are_ints K g) [] E0 (tCons (tVar 3) (tCons (tCB (rLn K) (tCons (tVar 3) tNil)) tNil))))) (tOr (tTest (tOp (rNeD K) (tCB (rSortedSet g.wd) (tCons (tCB (rSetT K g.wd) (tCons (tVar 3) tNil)) tNil)) (tCB (rLstOf K) (tCons (tVar 3) tNil)))) (tNot (tB (tCB (rAll K) (tCons (tLc (iTup K (tVar 3)) (gName 6) tYes (tOp (rIn K false) (tVar 6) (tVar 1)) [6]) tNil)))))) (tRet (tC (.bl false))) tNext)
    (tSeq (tIfS (tOr (tNot (tB (tCall (sp__law_is_flow K g) [] E0 (tCons (tVar 0) (tCons (tVar 1) (tCons (tVar 2) (tCons (tVar 4) tNil))))))) (tNot (tB (tCB (rAll K) (tCons (tLc (iTup K (tVar 3)) (gName 6) tYes (tOp rGtI (tOp (rIxT K) (tVar 4) (tVar 6)) (tC (.int 0))) [6]) tNil))))) (tRet (tC (.bl false))) tNext)
    (tRet (tCall (sp__law_is_row K g) [] E0 (tCons (tVar 0) (tCons (tVar 1) (tCons (tVar 2) (tCons (tVar 3) (tCons (tVar 5) tNil)))))))))
def t__law_step (K : PySem.W.Frag) (g : Gs) : TS := (tSeq (tAsg (tOp (rIxL K) (tLst (tCons (tC (.int 1)) (tCons (tC (.int 2)) (tCons (tOp rPowI (tC (.int 10)) (tC (.int 11))) tNil)))) (tCall (sp__law_draw K g) [] E0 (tCons (tVar 0) (tCons (tC (.int 3)) tNil)))) (gName 2))
    (tRet (tCB (rTupOf K) (tCons (tLc (iRng1 (tCons (tVar 1) tNil)) (gName 3) tYes (tOp rSubI (tCall (sp__law_draw K g) [] E0 (tCons (tVar 0) (tCons (tOp rAddI (tOp rMulC (tC (.int 2)) (tVar 2)) (tC (.int 1))) tNil))) (tVar 2)) [3]) tNil))))
def t__law_walk_of (K : PySem.W.Frag) (g : Gs) : TS := (tSeq (tAsg (tOp rAddI (tC (.int 1)) (tCall (sp__law_draw K g) [] E0 (tCons (tVar 0) (tCons (tC (.int 5)) tNil)))) (gName 3))
    (tSeq (tAsg (tLc (iRng1 (tCons (tVar 3) tNil)) (gName 6) tYes (tCall (sp__law_draw K g) [] E0 (tCons (tVar 0) (tCons (tVar 2) tNil))) [6]) (gName 4))
    (tSeq (tAsg (tLc (iRng1 (tCons (tVar 3) tNil)) (gName 6) tYes (tCall (sp__law_step K g) [] E0 (tCons (tVar 0) (tCons (tVar 1) tNil))) [6]) (gName 5))
    (tSeq (tAsg (tCB (rTupOf K) (tCons (tLc (iRng1 (tCons (tVar 1) tNil)) (gName 7) tYes (tUn rNegI (tCB (rSum K) (tCons (tLc (iList K (tSl (rSlL K) (tVar 5) (tPart (tC (.int 1))) tNoPart)) (gName 8) tYes (tOp (rIxT K) (tVar 8) (tVar 7)) [8]) tNil))) [7]) tNil)) (gSub (tVar 5) (tC (.int 0)) rSetL))
    (tRet (tLc (iRng1 (tCons (tVar 3) tNil)) (gName 6) tYes (tTup (tCons (tOp (rIxL K) (tVar 4) (tOp rSubI (tVar 6) (tC (.int 1)))) (tCons (tOp (rIxL K) (tVar 4) (tVar 6)) (tCons (tOp (rIxL K) (tVar 5) (tVar 6)) tNil)))) [6]))))))
def t__law_great_told (K : PySem.W.Frag) (g : Gs) : TS := (tSeq (tAsg (tOp rAddI (tC (.int 1)) (tCall (sp__law_draw K g) [] E0 (tCons (tVar 0) (tCons (tC (.int 4)) tNil)))) (gName 2))
    (tSeq (tAsg (tOp rAddI (tC (.int 1)) (tCall (sp__law_draw K g) [] E0 (tCons (tVar 0) (tCons (tC (.int 8)) tNil)))) (gName 3))
    (tSeq (tAsg (tLst tNil) (gName 4))
    (tSeq (tFor (iRng1 (tCons (tCall (sp__law_draw K g) [] E0 (tCons (tVar 0) (tCons (tOp (rIxL K) (tLst (tCons (tC (.int 3)) (tCons (tC (.int 4)) tNil))) (tVar 1)) tNil))) tNil)) (gName 5)
    (tAsg (tOp rCat (tVar 4) (tCall (sp__law_walk_of K g) [] E0 (tCons (tVar 0) (tCons (tVar 2) (tCons (tVar 3) tNil))))) (gName 4)))
    (tSeq (tFor (iRng1 (tCons (tCall (sp__law_draw K g) [] E0 (tCons (tVar 0) (tCons (tOp (rIxL K) (tLst (tCons (tC (.int 4)) (tCons (tC (.int 10)) tNil))) (tVar 1)) tNil))) tNil)) (gName 5)
    (tDrop (tBM K "list" rAppend (tVar 4) (tCons (tTup (tCons (tCall (sp__law_draw K g) [] E0 (tCons (tVar 0) (tCons (tVar 3) tNil))) (tCons (tCall (sp__law_draw K g) [] E0 (tCons (tVar 0) (tCons (tVar 3) tNil))) (tCons (tCall (sp__law_step K g) [] E0 (tCons (tVar 0) (tCons (tVar 2) tNil))) tNil)))) tNil))))
    (tRet (tTup (tCons (tVar 2) (tCons (tVar 3) (tCons (tCB (rTupOf K) (tCons (tCB (rSrtR K g.pr g.wd) (tCons (tCB (rSetR K g.pr g.wd) (tCons (tVar 4) tNil)) tNil)) tNil)) tNil))))))))))
def t__law_is_right (K : PySem.W.Frag) (g : Gs) : TS := (tSeq (tAsg (tCall (sp_kept K g) [] E0 (tCons (tVar 3) (tCons (tVar 1) (tCons (tVar 2) tNil)))) (gName 4))
    (tSeq (tIfS (tNot (tB (tCB (rIsi K) (tCons (tVar 4) (tCons (tC (.ty "tuple")) tNil))))) (tRet (tC (.bl false))) tNext)
    (tRet (tCall (sp__law_is_certain K g) [] E0 (tCons (tVar 0) (tCons (tVar 1) (tCons (tVar 2) (tCons (tVar 4) (tCons (tCall (sp_flow K g) [] E0 (tCons (tVar 3) (tCons (tVar 1) (tCons (tVar 2) tNil)))) (tCons (tCall (sp_row K g) [] E0 (tCons (tVar 3) (tCons (tVar 1) (tCons (tVar 2) tNil)))) tNil))))))))))
def t_law (K : PySem.W.Frag) (g : Gs) : TS := (tSeq (tAsg (tCall (sp__law_pool K g) [] E0 (tCons (tVar 0) tNil)) (gName 1))
    (tSeq (tAsg (tCall (sp__law_great_told K g) [] E0 (tCons (tVar 1) (tCons (tCB rInt1 (tCons (tOp rEq (tCall (sp__law_draw K g) [] E0 (tCons (tVar 1) (tCons (tC (.int 24)) tNil))) (tC (.int 0))) tNil)) tNil))) (gName 2))
    (tSeq (tAsg (tMake g.P (sp_Program_init K g) [] E0 (tCons (tOp (rIxT K) (tVar 2) (tC (.int 0))) (tCons (tOp (rIxT K) (tVar 2) (tC (.int 1))) (tCons (tOp (rIxT K) (tVar 2) (tC (.int 2))) tNil)))) (gName 3))
    (tSeq (tAsg (tOp (rIxL K) (tLst (tCons (tC (.str "boxes")) (tCons (tC (.str "corner")) tNil))) (tCall (sp__law_draw K g) [] E0 (tCons (tVar 1) (tCons (tC (.int 2)) tNil)))) (gName 4))
    (tSeq (tIfS (tTest (tOp rEq (tCall (sp__law_draw K g) [] E0 (tCons (tVar 1) (tCons (tC (.int 6)) tNil))) (tC (.int 0)))) (tSeq (tAsg (tLc (iRng1 (tCons (tC (.int 12)) tNil)) (gName 8) tYes (tTup (tCons (tOp rDivI (tCB rInt1 (tCons (tVar 8) tNil)) (tC (.int 6))) (tCons (tOp rModI (tCB rInt1 (tCons (tVar 8) tNil)) (tC (.int 6))) (tCons (tOp (rRepTT K) (tTup (tCons (tOp rSubI (tVar 8) (tC (.int 5))) tNil)) (tOp (rIxT K) (tVar 2) (tC (.int 0)))) tNil)))) [8]) (gName 5))
    (tSeq (tAsg (tLc (iList K (tVar 5)) (gTup K 3 (gCons (gName 9) (gCons (gName 10) (gCons (gName 11) gNil)))) tYes (tTup (tCons (tOp rAddI (tVar 9) (tOp (rIxT K) (tVar 2) (tC (.int 1)))) (tCons (tOp rAddI (tVar 10) (tOp (rIxT K) (tVar 2) (tC (.int 1)))) (tCons (tVar 11) tNil)))) [9, 10, 11]) (gName 6))
    (tSeq (tAsg (tCall (sp_beside K g) [] E0 (tCons (tVar 3) (tCons (tMake g.P (sp_Program_init K g) [] E0 (tCons (tOp (rIxT K) (tVar 2) (tC (.int 0))) (tCons (tC (.int 8)) (tCons (tCB (rTupOf K) (tCons (tVar 5) tNil)) tNil)))) tNil))) (gName 7))
    (tRet (tCall (sp__law_is_right K g) [] E0 (tCons (tTup (tCons (tOp (rIxT K) (tVar 2) (tC (.int 0))) (tCons (tOp rAddI (tOp (rIxT K) (tVar 2) (tC (.int 1))) (tC (.int 8))) (tCons (tOp (rCatA K) (tOp (rIxT K) (tVar 2) (tC (.int 2))) (tCB (rTupOf K) (tCons (tVar 6) tNil))) tNil)))) (tCons (tTupRg (tRg1 (tCB (rLn K) (tCons (tOp (rIxT K) (tVar 2) (tC (.int 2))) tNil)))) (tCons (tVar 4) (tCons (tVar 7) tNil))))))))) tNext)
    (tRet (tCall (sp__law_is_right K g) [] E0 (tCons (tVar 2) (tCons (tTupRg (tRg1 (tCB (rLn K) (tCons (tOp (rIxT K) (tVar 2) (tC (.int 2))) tNil)))) (tCons (tVar 4) (tCons (tVar 3) tNil)))))))))))
end TW
namespace TW
open PySem L2 Evl RS RZ TN
theorem s_par {i j : Nat} {x y : V} {ta : TA} {σ : L2.St} {H : Hp} {D : Ends} (h : EvA ta σ H [x, y]) (k : ∀ H1, Ex H H1 → D.nx ((σ.set i (some x)).set j (some y)) H1) : tPar i j ta D σ H := h H (Ex.refl H) _ fun H1 e => ⟨x, y, rfl, k H1 e⟩
theorem q_par {i j : Nat} {x y : V} {ta : TA} {σ : L2.St} {H : Hp} {D : Ends} {tz : TS} (h : EvA ta σ H [x, y]) (k : ∀ H1, Ex H H1 → tz D ((σ.set i (some x)).set j (some y)) H1) : tSeq (tPar i j ta) tz D σ H := h H (Ex.refl H) _ fun H1 e => ⟨x, y, rfl, k H1 e⟩
theorem len_is_integer {K : PySem.W.Frag} {g : Gs} {vs : List V} {H : Hp} {Q : VK} {E : XK} (h : sp_is_integer K g vs H Q E) : vs.length = 1 := by
  obtain ⟨_, rfl, _⟩ := h
  rfl
theorem pure_is_integer {K : PySem.W.Frag} {g : Gs} (C : CF K g) (vs : List V) (H : Hp) (Q : VK) (E : XK) (h : sp_is_integer K g vs H Q E) : t_is_integer K g { nx := fun _ H' => Q .non H', rt := Q } (start ["thing"] vs) H := by
  obtain ⟨i, rfl, q⟩ := h
  exact s_ret (ev_is (ev_andV (ev_isI (ev_var rfl)) fun _ => ev_notV (ev_isB (ev_var rfl))) rfl) q
theorem len__law_is_int {K : PySem.W.Frag} {g : Gs} {vs : List V} {H : Hp} {Q : VK} {E : XK} (h : sp__law_is_int K g vs H Q E) : vs.length = 1 := by
  obtain ⟨_, rfl, _⟩ := h
  rfl
theorem pure__law_is_int {K : PySem.W.Frag} {g : Gs} (C : CF K g) (vs : List V) (H : Hp) (Q : VK) (E : XK) (h : sp__law_is_int K g vs H Q E) : t__law_is_int K g { nx := fun _ H' => Q .non H', rt := Q } (start ["_law_thing"] vs) H := by
  obtain ⟨i, rfl, q⟩ := h
  exact s_ret (ev_is (ev_andV (ev_isI (ev_var rfl)) fun _ => ev_notV (ev_isB (ev_var rfl))) rfl) q
theorem ev_isint {K : PySem.W.Frag} {g : Gs} {σ : L2.St} {H : Hp} {i : Int} {te : TE} (h : Ev te σ H (.int i)) : Ev (tCall (sp_is_integer K g) [] E0 (tCons te tNil)) σ H (.bl true) :=
  ev_call (ea_cons h ea_nil) fun H1 e Q q E => ⟨i, rfl, q⟩
theorem len_is_within {K : PySem.W.Frag} {g : Gs} {vs : List V} {H : Hp} {Q : VK} {E : XK} (h : sp_is_within K g vs H Q E) : vs.length = 3 := by
  obtain ⟨_, _, _, rfl, _⟩ := h
  rfl
theorem pure_is_within {K : PySem.W.Frag} {g : Gs} (C : CF K g) (vs : List V) (H : Hp) (Q : VK) (E : XK) (h : sp_is_within K g vs H Q E) : t_is_within K g { nx := fun _ H' => Q .non H', rt := Q } (start ["thing", "least", "most"] vs) H := by
  obtain ⟨i, a, b, rfl, q⟩ := h
  refine s_ret (ev_andV (ev_isint (ev_var rfl)) fun _ => ev_chain (ev_var rfl) (ev_var rfl) (ev_var rfl) rv_I0 rv_I0) ?_
  rw [Bool.true_and]
  exact q
theorem ev_within {K : PySem.W.Frag} {g : Gs} {σ : L2.St} {H : Hp} {i a b : Int} {t1 t2 t3 : TE} (h1 : Ev t1 σ H (.int i)) (h2 : Ev t2 σ H (.int a)) (h3 : Ev t3 σ H (.int b)) :
    Ev (tCall (sp_is_within K g) [] E0 (tCons t1 (tCons t2 (tCons t3 tNil)))) σ H (.bl (decide (a ≤ i) && decide (i ≤ b))) :=
  ev_call (ea_cons h1 (ea_cons h2 (ea_cons h3 ea_nil))) fun H1 e Q q E => ⟨i, a, b, rfl, q⟩
theorem len_is_triple {K : PySem.W.Frag} {g : Gs} {vs : List V} {H : Hp} {Q : VK} {E : XK} (h : sp_is_triple K g vs H Q E) : vs.length = 1 := by
  obtain ⟨_, _, rfl, _⟩ := h
  rfl
theorem pure_is_triple {K : PySem.W.Frag} {g : Gs} (C : CF K g) (vs : List V) (H : Hp) (Q : VK) (E : XK) (h : sp_is_triple K g vs H Q E) : t_is_triple K g { nx := fun _ H' => Q .non H', rt := Q } (start ["thing"] vs) H := by
  obtain ⟨a, xs, rfl, hx, q⟩ := h
  refine s_ret (ev_andV (ev_isT (ev_var rfl) hx) fun _ => ev_op (ev_lenT (ev_var rfl) hx) ev_c (rv_eq rfl)) ?_
  rw [Bool.true_and]
  have e : decide (V.int (xs.length : Int) = V.int 3) = decide ((xs.length : Int) = 3) := by rw [decide_eq_decide]; exact ⟨fun h => by injection h, fun h => by rw [h]⟩
  rw [e]
  exact q
theorem int_eq (i j : Int) : decide (V.int i = V.int j) = decide (i = j) := by rw [decide_eq_decide]; exact ⟨fun h => by injection h, fun h => by rw [h]⟩
/-- all([.. for x in t]), each True -/
theorem ev_all {K : PySem.W.Frag} {σ : L2.St} {H : Hp} {te : TE} {n : Nat} {f : Nat → Bool} (h : EvL te σ H ((List.range n).map fun i => V.bl (f i))) : Ev (tCB (rAll K) (tCons te tNil)) σ H (.bl ((List.range n).all f)) := fun H1 e Q q =>
  h H1 e _ fun p H2 hp e2 h2 => ⟨p, (List.range n).map f, rfl, by rw [List.map_map]; exact sq_of h2, by
    have e3 : ((List.range n).map f).all id = (List.range n).all f := by rw [List.all_map] <;> rfl
    rw [e3]; exact q H2 e2⟩
theorem ev_allT {K : PySem.W.Frag} {σ : L2.St} {H : Hp} {te : TE} {n : Nat} {f : Nat → Bool} (h : EvL te σ H ((List.range n).map fun i => V.bl (f i))) (k : ∀ i, i < n → f i = true) : Ev (tCB (rAll K) (tCons te tNil)) σ H (.bl true) :=
  ev_is (ev_all h) (by rw [List.all_eq_true.mpr fun i hi => k i (List.mem_range.mp hi)])
theorem ints_at {l : List Int} {i : Nat} {x : V} (h : (intsV l)[i]? = some x) : ∃ k, l[i]? = some k ∧ x = .int k := by
  rw [List.getElem?_map] at h
  cases e : l[i]? with
  | none => rw [e] at h; cases h
  | some k => rw [e] at h; exact ⟨k, rfl, (Option.some.inj h).symm⟩
theorem len_are_integers {K : PySem.W.Frag} {g : Gs} {vs : List V} {H : Hp} {Q : VK} {E : XK} (h : sp_are_integers K g vs H Q E) : vs.length = 2 := by
  obtain ⟨_, _, _, rfl, _⟩ := h
  rfl
theorem pure_are_integers {K : PySem.W.Frag} {g : Gs} (C : CF K g) (vs : List V) (H : Hp) (Q : VK) (E : XK) (h : sp_are_integers K g vs H Q E) : t_are_integers K g { nx := fun _ H' => Q .non H', rt := Q } (start ["thing", "many", "item"] vs) H := by
  obtain ⟨a, ns, n, rfl, hx, hz, q⟩ := h
  have hl : (intsV ns).length = ns.length := List.length_map _
  have hall : EvL (tLc (iTup K (tVar 0)) (gName 2) tYes (tCall (sp_is_integer K g) [] E0 (tCons (tVar 2) tNil)) [2]) [some (.ref a), some (.int n), none] H ((List.range (intsV ns).length).map fun i => V.bl true) :=
    el_lcA ((ei_tup (ev_var rfl) hx).weak fun _ _ e => ex_tt e) (by rw [hl]; exact hz) (fun _ => .bl true) fun i x A e hi it => by
      obtain ⟨k, _, rfl⟩ := ints_at it
      exact ⟨_, pt_name, rfl, ev_isint (ev_var rfl)⟩
  refine s_ret (ev_andV (ev_isT (ev_var rfl) hx) fun _ => ev_andV (ev_op (ev_lenT (ev_var rfl) hx) (ev_var rfl) (rv_eq rfl)) fun _ => ev_allT hall fun _ _ => rfl) ?_
  rw [Bool.true_and, Bool.and_true, int_eq, hl]
  exact q
theorem len__law_are_ints {K : PySem.W.Frag} {g : Gs} {vs : List V} {H : Hp} {Q : VK} {E : XK} (h : sp__law_are_ints K g vs H Q E) : vs.length = 2 := by
  obtain ⟨_, _, _, rfl, _⟩ := h
  rfl
theorem pure__law_are_ints {K : PySem.W.Frag} {g : Gs} (C : CF K g) (vs : List V) (H : Hp) (Q : VK) (E : XK) (h : sp__law_are_ints K g vs H Q E) : t__law_are_ints K g { nx := fun _ H' => Q .non H', rt := Q } (start ["_law_things", "_law_many", "_law_one"] vs) H := by
  obtain ⟨a, ns, n, rfl, hx, hz, q⟩ := h
  have hl : (intsV ns).length = ns.length := List.length_map _
  have hall : EvL (tLc (iTup K (tVar 0)) (gName 2) tYes (tCall (sp__law_is_int K g) [] E0 (tCons (tVar 2) tNil)) [2]) [some (.ref a), some (.int n), none] H ((List.range (intsV ns).length).map fun i => V.bl true) :=
    el_lcA ((ei_tup (ev_var rfl) hx).weak fun _ _ e => ex_tt e) (by rw [hl]; exact hz) (fun _ => .bl true) fun i x A e hi it => by
      obtain ⟨k, _, rfl⟩ := ints_at it
      exact ⟨_, pt_name, rfl, ev_call (ea_cons (ev_var rfl) ea_nil) fun H1 e Q q E => ⟨k, rfl, q⟩⟩
  refine s_ret (ev_andV (ev_isT (ev_var rfl) hx) fun _ => ev_andV (ev_op (ev_lenT (ev_var rfl) hx) (ev_var rfl) (rv_eq rfl)) fun _ => ev_allT hall fun _ _ => rfl) ?_
  rw [Bool.true_and, Bool.and_true, int_eq, hl]
  exact q
theorem len_are_within {K : PySem.W.Frag} {g : Gs} {vs : List V} {H : Hp} {Q : VK} {E : XK} (h : sp_are_within K g vs H Q E) : vs.length = 4 := by
  obtain ⟨_, _, _, _, _, rfl, _⟩ := h
  rfl
theorem pure_are_within {K : PySem.W.Frag} {g : Gs} (C : CF K g) (vs : List V) (H : Hp) (Q : VK) (E : XK) (h : sp_are_within K g vs H Q E) : t_are_within K g { nx := fun _ H' => Q .non H', rt := Q } (start ["thing", "many", "least", "most", "item"] vs) H := by
  obtain ⟨a, ns, n, lo, hi, rfl, hx, hz, hn, hb, q⟩ := h
  have hl : (intsV ns).length = ns.length := List.length_map _
  have hall : EvL (tLc (iTup K (tVar 0)) (gName 4) tYes (tChain rLeI rLeI (tVar 2) (tVar 4) (tVar 3)) [4]) [some (.ref a), some (.int n), some (.int lo), some (.int hi), none] H ((List.range (intsV ns).length).map fun i => V.bl true) :=
    el_lcA ((ei_tup (ev_var rfl) hx).weak fun _ _ e => ex_tt e) (by rw [hl]; exact hz) (fun _ => .bl true) fun i x A e hi it => by
      obtain ⟨k, hk, rfl⟩ := ints_at it
      have := hb k (List.mem_of_getElem? hk)
      exact ⟨_, pt_name, rfl, ev_is (ev_chain (ev_var rfl) (ev_var rfl) (ev_var rfl) rv_I0 rv_I0) (by rw [decide_eq_true this.1, decide_eq_true this.2] <;> rfl)⟩
  refine s_ret (ev_is (ev_andV (ev_call (sp := sp_are_integers K g) (z := .bl true) (ea_cons (ev_var rfl) (ea_cons (ev_var rfl) ea_nil)) fun H1 e Q q E => ⟨a, ns, n, rfl, ex_t e hx, hz, by rw [decide_eq_true hn]; exact q⟩) fun _ => ev_allT hall fun _ _ => rfl) rfl) q
theorem len_is_lot_below {K : PySem.W.Frag} {g : Gs} {vs : List V} {H : Hp} {Q : VK} {E : XK} (h : sp_is_lot_below K g vs H Q E) : vs.length = 2 := by
  obtain ⟨_, _, _, rfl, _⟩ := h
  rfl
theorem pure_is_lot_below {K : PySem.W.Frag} {g : Gs} (C : CF K g) (vs : List V) (H : Hp) (Q : VK) (E : XK) (h : sp_is_lot_below K g vs H Q E) : t_is_lot_below K g { nx := fun _ H' => Q .non H', rt := Q } (start ["thing", "many", "last", "item"] vs) H := by
  obtain ⟨a, n, m, rfl, hx, hm, q⟩ := h
  refine q_when (b := false) (et_not (et_B (ev_isT (ev_var rfl) hx))) (fun z => nomatch z) fun _ A1 e1 => ?_
  refine q_asg (ev_un ev_c ru_neg) fun A2 e2 => ?_
  have hx2 : SqT K A2 a (row n fun i => (i : Int)) := ex_t (e1.trans e2) hx
  have hl : (row n fun i => (i : Int)).length = n := by simp
  refine q_for (ei_tup (ev_var rfl) hx2) (fun A1 i σ' A => Ex A1 A ∧ ∃ u, σ' = [some (.ref a), some (.int m), some (.int ((i : Int) - 1)), u]) (fun A e => ⟨Ex.refl A, _, rfl⟩) (fun A i σ' B e _ p => ex_tt p.1) (fun A i σ' B x B2 e hi p e3 it => ?_) fun A σ' B e p => ?_
  · obtain ⟨p1, u, rfl⟩ := p
    rw [hl] at hi
    rw [List.getElem?_map, List.getElem?_range hi] at it
    obtain rfl := Option.some.inj it
    refine pt_name _ fun B3 e4 => ?_
    refine q_when (b := false) (et_is (et_not (et_B (ev_within (ev_var rfl) (ev_op (ev_var rfl) ev_c rv_I0) (ev_op (ev_var rfl) ev_c rv_I0)))) ?_) (fun z => nomatch z) fun _ B4 e5 => ?_
    · rw [decide_eq_true (by omega : (i : Int) - 1 + 1 ≤ i), decide_eq_true (by omega : (i : Int) ≤ m - 1)] <;> rfl
    · exact s_asg (ev_var rfl) fun B5 e6 => ⟨(((p1.trans e3).trans e4).trans e5).trans e6, some (.int i), by
        show [some (V.ref a), some (.int m), some (.int (i : Int)), some (.int (i : Int))] = _
        rw [show ((i + 1 : Nat) : Int) - 1 = i by omega]⟩
  · obtain ⟨p1, u, rfl⟩ := p
    exact s_ret ev_c fun B2 e3 => q B2 ((((e1.trans e2).trans e).trans p1).trans e3)
theorem len_check_world {K : PySem.W.Frag} {g : Gs} {vs : List V} {H : Hp} {Q : VK} {E : XK} (h : sp_check_world K g vs H Q E) : vs.length = 1 := by
  obtain ⟨_, rfl, _⟩ := h
  rfl
theorem pure_check_world {K : PySem.W.Frag} {g : Gs} (C : CF K g) (vs : List V) (H : Hp) (Q : VK) (E : XK) (h : sp_check_world K g vs H Q E) : t_check_world K g { nx := fun _ H' => Q .non H', rt := Q } (start ["thing"] vs) H := by
  obtain ⟨w, rfl, hw, q⟩ := h
  refine s_never (b := false) (et_is (et_or (et_not (et_B (ev_isS (ev_var rfl)))) fun _ => et_test (ev_op (ev_var rfl) ev_c (rv_niT (C.W H) rfl rfl))) ?_) rfl q
  rcases hw with rfl | rfl <;> decide
theorem len_divisor {K : PySem.W.Frag} {g : Gs} {vs : List V} {H : Hp} {Q : VK} {E : XK} (h : sp_divisor K g vs H Q E) : vs.length = 2 := by
  obtain ⟨_, _, rfl, _⟩ := h
  rfl
theorem pure_divisor {K : PySem.W.Frag} {g : Gs} (C : CF K g) (vs : List V) (H : Hp) (Q : VK) (E : XK) (h : sp_divisor K g vs H Q E) : t_divisor K g { nx := fun _ H' => Q .non H', rt := Q } (start ["one", "other"] vs) H := by
  obtain ⟨i, j, rfl, q⟩ := h
  have ab : ∀ {x : Int} {A : Hp} {σ : L2.St} {te : TE}, Ev te σ A (.int x) → Ev (tCB rAbs1 (tCons te tNil)) σ A (.int (if x < 0 then -x else x)) := fun hx A1 e Q q => hx A1 e _ fun A2 e2 => ⟨_, rfl, q A2 e2⟩
  refine q_par (ea_cons (ab (ev_var rfl)) (ea_cons (ab (ev_var rfl)) ea_nil)) fun A1 e1 => ?_
  refine q_while (fun m σ A => Ex H A ∧ ∃ x y : Int, σ = [some (.int x), some (.int y)] ∧ 0 ≤ x ∧ 0 ≤ y ∧ (Int.gcd x y : Int) = Int.gcd i j ∧ m = y.toNat) _ ⟨e1, _, _, rfl, by split <;> omega, by split <;> omega, ?_, rfl⟩ ?_
  · have : ∀ z : Int, (if z < 0 then -z else z) = (z.natAbs : Int) := fun z => by split <;> omega
    rw [this, this, Int.gcd, Int.gcd, Int.natAbs_natCast, Int.natAbs_natCast]
  · rintro m σ A ⟨eA, x, y, rfl, hx, hy, hg, rfl⟩
    refine ⟨decide (0 < y), et_test (ev_op (ev_var rfl) ev_c rv_I0), fun z B eB => ?_, fun z B eB => ?_⟩
    · have hy0 := of_decide_eq_true z
      refine ⟨fun σ A => Ex H A ∧ ∃ u v : Int, σ = [some (.int u), some (.int v)] ∧ 0 ≤ u ∧ 0 ≤ v ∧ (Int.gcd u v : Int) = Int.gcd i j ∧ v < y, fun σ2 A2 ⟨k1, u, v, k2, k3, k4, k5, k6⟩ => ⟨v.toNat, by omega, k1, u, v, k2, k3, k4, k5, rfl⟩, ?_⟩
      exact s_par (ea_cons (ev_var rfl) (ea_cons (ev_op (ev_var rfl) (ev_var rfl) (rv_I hy0)) ea_nil)) fun B2 e2 => ⟨(eA.trans eB).trans e2, y, x % y, rfl, hy, Int.emod_nonneg _ (by omega), by rw [gcd_step hx hy0]; exact hg, Int.emod_lt_of_pos _ hy0⟩
    · have hy0 : y = 0 := by have := of_decide_eq_false z; omega
      subst hy0
      refine s_ret (ev_var rfl) fun B2 e2 => ?_
      have e0 : x = (Int.gcd i j : Int) := by
        rw [← hg, Int.gcd_zero_right]
        omega
      rw [e0]
      exact q B2 ((eA.trans eB).trans e2)
theorem len_multiple {K : PySem.W.Frag} {g : Gs} {vs : List V} {H : Hp} {Q : VK} {E : XK} (h : sp_multiple K g vs H Q E) : vs.length = 2 := by
  obtain ⟨_, _, rfl, _⟩ := h
  rfl
theorem pure_multiple {K : PySem.W.Frag} {g : Gs} (C : CF K g) (vs : List V) (H : Hp) (Q : VK) (E : XK) (h : sp_multiple K g vs H Q E) : t_multiple K g { nx := fun _ H' => Q .non H', rt := Q } (start ["one", "other"] vs) H := by
  obtain ⟨i, j, rfl, hi, hj, b1, b2, q⟩ := h
  have hg := gcd_pos i hj
  exact s_ret (ev_op (ev_op (ev_var rfl) (ev_call (sp := sp_divisor K g) (ea_cons (ev_var rfl) (ea_cons (ev_var rfl) ea_nil)) fun H1 e Q q E => ⟨i, j, rfl, q⟩) (rv_I (divW hg (gcd_bits hj b2) (by decide)))) (ev_var rfl) (rv_I (mulW (div_bits (by omega) hg b1) b2 (by decide)))) q
theorem len_fraction {K : PySem.W.Frag} {g : Gs} {vs : List V} {H : Hp} {Q : VK} {E : XK} (h : sp_fraction K g vs H Q E) : vs.length = 2 := by
  obtain ⟨_, _, rfl, _⟩ := h
  rfl
theorem pure_fraction {K : PySem.W.Frag} {g : Gs} (C : CF K g) (vs : List V) (H : Hp) (Q : VK) (E : XK) (h : sp_fraction K g vs H Q E) : t_fraction K g { nx := fun _ H' => Q .non H', rt := Q } (start ["top", "bottom", "part"] vs) H := by
  obtain ⟨x, d, rfl, hd, hb, q⟩ := h
  have hg := gcd_pos x hd
  have hgb := gcd_bits (x := x) hd hb
  refine q_asg (ev_call (sp := sp_divisor K g) (ea_cons (ev_var rfl) (ea_cons (ev_var rfl) ea_nil)) fun H1 e Q q E => ⟨x, d, rfl, q⟩) fun A1 e1 => ?_
  refine q_when (b := false) (et_is (et_test (ev_op (ev_var rfl) ev_c rv_I0)) (decide_eq_false (by omega))) (fun z => nomatch z) fun _ A2 e2 => ?_
  exact s_retU (eu_tup (ea_cons (ev_op (ev_var rfl) (ev_var rfl) (rv_I (divW hg hgb (by decide)))) (ea_cons (ev_op (ev_var rfl) (ev_var rfl) (rv_I (divW hg hgb (by decide)))) ea_nil)) (by simp)) fun p A3 hp e3 h3 => q _ A3 ((e1.trans e2).trans e3) ⟨p, rfl, st_of h3⟩
end TW
namespace TW
open PySem L2 Evl RS RZ TN
section
variable {K : PySem.W.Frag} {g : Gs} {σ : L2.St} {H H' A B : Hp} {te ta tv to : TE} {taa : TA} {tz : TS} {D : Ends} {v y : V} {φ : V → Hp → Prop} {χ : Addr → Hp → Prop}
theorem rd_t {a : Addr} {r : Rdg} (e : ExT K A B) (h : RdAt K A a r) : RdAt K B a r := by
  obtain ⟨c, h1, h2⟩ := h
  exact ⟨c, e _ _ h1, e _ _ h2⟩
theorem rd_loose {a : Addr} {r : Rdg} (e : Loose A B) (h : RdAt K A a r) : RdAt K B a r := rd_t (Loose.t e) h
theorem rdv_t {r : Rdg} (e : ExT K A B) (h : RdV K r v A) : RdV K r v B := let ⟨a, h, k⟩ := h; ⟨a, h, rd_t e k⟩
theorem rdv_st (r : Rdg) : StabT (RdV K r) := fun v A B e h => rdv_t (Loose.t e) h
theorem rds_t {rs : List Rdg} (e : ExT K A B) (h : RdsT K rs v A) : RdsT K rs v B := let ⟨a, xs, h, k, l, i⟩ := h; ⟨a, xs, h, e _ _ k, l, fun j x r h1 h2 => rdv_t e (i j x r h1 h2)⟩
theorem rds_st (rs : List Rdg) : StabT (RdsT K rs) := fun v A B e h => rds_t (Loose.t e) h
theorem rdl_up (rs : List Rdg) : Up (RdsL K rs) := fun v A B e ⟨a, xs, h, k, l, i⟩ => ⟨a, xs, h, ex_l e k, l, fun j x r h1 h2 => rdv_st r x A B (ex_loose e) (i j x r h1 h2)⟩
theorem tupI_t {l : List Int} (e : ExT K A B) (h : TupI K l v A) : TupI K l v B := let ⟨a, h, k⟩ := h; ⟨a, h, e _ _ k⟩
theorem tupI_st (l : List Int) : StabT (TupI K l) := fun v A B e h => tupI_t (Loose.t e) h
theorem frAt_t {f : Int × Int} (e : ExT K A B) (h : FrAt K f v A) : FrAt K f v B := let ⟨a, h, k⟩ := h; ⟨a, h, e _ _ k⟩
theorem frAt_st (f : Int × Int) : StabT (FrAt K f) := fun v A B e h => frAt_t (Loose.t e) h
theorem frs_t {n : Nat} {f : Nat → Int × Int} (e : ExT K A B) (h : FrsT K n f v A) : FrsT K n f v B := let ⟨a, xs, h, k, l, i⟩ := h; ⟨a, xs, h, e _ _ k, l, fun j x h1 => frAt_t e (i j x h1)⟩
theorem frs_st (n : Nat) (f : Nat → Int × Int) : StabT (FrsT K n f) := fun v A B e h => frs_t (Loose.t e) h
theorem pair_t {a b : List Int} (e : ExT K A B) (h : PairI K a b v A) : PairI K a b v B := let ⟨c, d, x, h, h1, h2, h3⟩ := h; ⟨c, d, x, h, e _ _ h1, e _ _ h2, e _ _ h3⟩
theorem pair_st (a b : List Int) : StabT (PairI K a b) := fun v A B e h => pair_t (Loose.t e) h
theorem exX_t {x C dx : Addr} {fs : List (Str × V)} (hx : A x = some (.ins C dx fs)) (e : ExX x A B) : ExT K A B := fun a xs h => by
  rcases h with (h | ⟨o, h⟩) | h
  · exact .inl (.inl (e a _ (by rintro rfl; rw [hx] at h; cases h) h))
  · exact .inl (.inr ⟨o, e a _ (by rintro rfl; rw [hx] at h; cases h) h⟩)
  · exact .inr h
theorem prog_st {s t : Nat} {rs : List Rdg} : StabT (ProgAt K g s t rs) := fun v A B e ⟨x, dx, rv, h, h1, h2⟩ => ⟨x, dx, rv, h, e x _ nofun h1, rds_st rs rv A B e h2⟩
theorem told_st {s t : Nat} {rs : List Rdg} : StabT (Told K s t rs) := fun v A B e ⟨p, rv, h, h1, h2⟩ => ⟨p, rv, h, Loose.t e _ _ h1, rds_st rs rv A B e h2⟩
theorem exX_of {x : Addr} {o : HO} (e : Ex H A) : ExX x H (upd A x o) := fun b u hb h => by rw [upd_ne hb]; exact e b u h
theorem ExX.trans {x : Addr} (e : ExX x H A) (e' : ExX x A B) : ExX x H B := fun b o hb h => e' b o hb (e b o hb h)
theorem exX_ex {x : Addr} (e : Ex H A) : ExX x H A := fun b o _ h => e b o h
theorem putF_len (f : Str) (v : V) : ∀ fs : List (Str × V), (putF f v fs).length ≤ fs.length + 1
  | [] => Nat.le_refl _
  | (q, x) :: r => by
    unfold putF
    split
    · simp
    · have := putF_len f v r
      simp only [List.length_cons]; omega
/-- o.f = value -/
theorem s_fld {C a dx : Addr} {fs : List (Str × V)} {f : Str} (hv : Ev tv σ H y) (ho : Ev to σ H (.ref a)) (hi : H a = some (.ins C dx fs)) (c : Cls K C) (n : NoAttr K C f) (hl : fs.length < 1000)
    (k : ∀ H1, Ex H H1 → D.nx σ (upd H1 a (.ins C dx (putF f y fs)))) : sFld K to tv f D σ H := hv H (Ex.refl H) _ fun H1 e => ho H1 e _ fun H2 e2 => ⟨a, C, dx, fs, rfl, (e.trans e2) a _ hi, c, n, hl, k H2 (e.trans e2)⟩
theorem q_fld {C a dx : Addr} {fs : List (Str × V)} {f : Str} (hv : Ev tv σ H y) (ho : Ev to σ H (.ref a)) (hi : H a = some (.ins C dx fs)) (c : Cls K C) (n : NoAttr K C f) (hl : fs.length < 1000)
    (k : ∀ H1, Ex H H1 → tz D σ (upd H1 a (.ins C dx (putF f y fs)))) : tSeq (sFld K to tv f) tz D σ H := s_fld (D := { D with nx := tz D }) hv ho hi c n hl k
/-- .. a new thing -/
theorem qf_fld {C a dx : Addr} {fs : List (Str × V)} {f : Str} (hv : EvF tv σ H χ) (ho : Ev to σ H (.ref a)) (hi : H a = some (.ins C dx fs)) (c : Cls K C) (n : NoAttr K C f) (hl : fs.length < 1000)
    (up : ∀ p A B, Ex A B → χ p A → χ p B) (k : ∀ p H1, H p = none → Ex H H1 → χ p H1 → tz D σ (upd H1 a (.ins C dx (putF f (.ref p) fs)))) : tSeq (sFld K to tv f) tz D σ H :=
  hv H (Ex.refl H) _ fun p H1 hp e h1 => ho H1 e _ fun H2 e2 => ⟨a, C, dx, fs, rfl, (e.trans e2) a _ hi, c, n, hl, k p H2 hp (e.trans e2) (up p H1 H2 e2 h1)⟩
/-- o.m(..), for what it does -/
theorem s_meth {C a dx : Addr} {m : Str} {sp : Sp} {vs : List V} {E : XK} {fs : List (Str × V)} (ho : Ev to σ H (.ref a)) (hi : H a = some (.ins C dx fs)) (hm : fs.lookup m = none) (h : EvA taa σ H vs)
    (hs : ∀ H1, Ex H H1 → sp (.ref a :: vs) H1 (fun _ H2 => D.nx σ H2) E) : tDrop (tMeth C m sp [] E to taa) D σ H := ho H (Ex.refl H) _ fun H2 e2 => ⟨a, dx, fs, rfl, e2 a _ hi, hm, h H2 e2 _ fun H3 e3 => by
    rw [List.append_nil]
    exact hs H3 (e2.trans e3)⟩
theorem q_meth {C a dx : Addr} {m : Str} {sp : Sp} {vs : List V} {E : XK} {fs : List (Str × V)} (ho : Ev to σ H (.ref a)) (hi : H a = some (.ins C dx fs)) (hm : fs.lookup m = none) (h : EvA taa σ H vs)
    (hs : ∀ H1, Ex H H1 → sp (.ref a :: vs) H1 (fun _ H2 => tz D σ H2) E) : tSeq (tDrop (tMeth C m sp [] E to taa)) tz D σ H := s_meth (D := { D with nx := tz D }) ho hi hm h hs
theorem q_methP {C a dx : Addr} {m : Str} {sp : Sp} {Φ : List V → Hp → Prop} {E : XK} {fs : List (Str × V)} (ho : Ev to σ H (.ref a)) (hi : H a = some (.ins C dx fs)) (hm : fs.lookup m = none) (h : EaP taa σ H Φ)
    (hs : ∀ vs H1, Ex H H1 → Φ vs H1 → sp (.ref a :: vs) H1 (fun _ H2 => tz D σ H2) E) : tSeq (tDrop (tMeth C m sp [] E to taa)) tz D σ H := ho H (Ex.refl H) _ fun H2 e2 => ⟨a, dx, fs, rfl, e2 a _ hi, hm, h H2 e2 _ fun vs H3 e3 p => by
    rw [List.append_nil]
    exact hs vs H3 (e2.trans e3) p⟩
/-- i = o.m(..) -/
theorem q_methA {C a dx : Addr} {m : Str} {sp : Sp} {vs : List V} {E : XK} {fs : List (Str × V)} {i : Nat} (ho : Ev to σ H (.ref a)) (hi : H a = some (.ins C dx fs)) (hm : fs.lookup m = none) (h : EvA taa σ H vs)
    (hs : ∀ H1, Ex H H1 → sp (.ref a :: vs) H1 (fun v H2 => tz D (σ.set i (some v)) H2) E) : tSeq (tAsg (tMeth C m sp [] E to taa) (gName i)) tz D σ H := ho H (Ex.refl H) _ fun H2 e2 => ⟨a, dx, fs, rfl, e2 a _ hi, hm, h H2 e2 _ fun H3 e3 => by
    rw [List.append_nil]
    exact hs H3 (e2.trans e3)⟩
theorem s_methA {C a dx : Addr} {m : Str} {sp : Sp} {vs : List V} {E : XK} {fs : List (Str × V)} {i : Nat} (ho : Ev to σ H (.ref a)) (hi : H a = some (.ins C dx fs)) (hm : fs.lookup m = none) (h : EvA taa σ H vs)
    (hs : ∀ H1, Ex H H1 → sp (.ref a :: vs) H1 (fun v H2 => D.nx (σ.set i (some v)) H2) E) : tAsg (tMeth C m sp [] E to taa) (gName i) D σ H := ho H (Ex.refl H) _ fun H2 e2 => ⟨a, dx, fs, rfl, e2 a _ hi, hm, h H2 e2 _ fun H3 e3 => by
    rw [List.append_nil]
    exact hs H3 (e2.trans e3)⟩
theorem ex_make {x dx : Addr} {o u : HO} (hx : H x = none) (hd : H dx = none) (e : ExX x (upd (upd H dx u) x o) B) : Ex H B := fun b w h => by
  have h1 : b ≠ x := by rintro rfl; rw [hx] at h; cases h
  have h2 : b ≠ dx := by rintro rfl; rw [hd] at h; cases h
  exact e b w h1 (by rw [upd_ne h1, upd_ne h2]; exact h)
theorem ep_make {C : Addr} {sp : Sp} {E : XK} {Φ : List V → Hp → Prop} (h : EaP taa σ H Φ)
    (hs : ∀ vs H1, Ex H H1 → Φ vs H1 → ∀ x dx, H1 x = none → H1 dx = none → dx ≠ x → ∀ Q : VK, (∀ H2, Ex H1 H2 → φ (.ref x) H2 → Q .non H2) → sp (.ref x :: vs) (upd (upd H1 dx (.own x)) x (.ins C dx [])) Q E) : EvP (tMake C sp [] E taa) σ H φ := fun H1 e Q q =>
  h H1 e _ fun vs H2 e2 p x dx hx hd hne => by
    rw [List.append_nil]
    exact hs vs H2 (e.trans e2) p x dx hx hd hne _ fun H3 e3 k => ⟨rfl, q _ H3 (e2.trans e3) k⟩
/-! ### readings in a row -/
theorem rds_ks : ∀ {rs : List Rdg} {xs : List V}, xs.length = rs.length → (∀ (i : Nat) x r, xs[i]? = some x → rs[i]? = some r → RdV K r x H) → ∃ ks : List (Addr × Rdg), xs = ks.map (fun q => V.ref q.1) ∧ rs = ks.map (·.2) ∧ ∀ q ∈ ks, RdAt K H q.1 q.2
  | [], [], _, _ => ⟨[], rfl, rfl, nofun⟩
  | [], _ :: _, h, _ => nomatch h
  | _ :: _, [], h, _ => nomatch h
  | r :: rs, x :: xs, h, k => by
    obtain ⟨ks, h1, h2, h3⟩ := rds_ks (rs := rs) (xs := xs) (by simpa using h) fun i x r hx hr => k (i + 1) x r hx hr
    obtain ⟨a, rfl, ha⟩ := k 0 x r rfl rfl
    refine ⟨(a, r) :: ks, by rw [h1] <;> rfl, by rw [h2] <;> rfl, fun q hq => ?_⟩
    rcases List.mem_cons.mp hq with rfl | hq
    · exact ha
    · exact h3 q hq
theorem ks_rds {ks : List (Addr × Rdg)} (h : ∀ q ∈ ks, RdAt K H q.1 q.2) (i : Nat) (x : V) (r : Rdg) (hx : (ks.map fun q => V.ref q.1)[i]? = some x) (hr : (ks.map (·.2))[i]? = some r) : RdV K r x H := by
  rw [List.getElem?_map] at hx hr
  cases hk : ks[i]? with
  | none => rw [hk] at hx; cases hx
  | some q =>
    rw [hk] at hx hr
    obtain rfl := Option.some.inj hx
    obtain rfl := Option.some.inj hr
    exact ⟨q.1, rfl, h q (List.mem_of_getElem? hk)⟩
/-- tuple(sorted(set(xs))) -/
theorem ep_order {xs : List Rdg} (h : EvP te σ H (RdsL K xs)) (hl : xs.length < 64) :
    EvP (tCB (rTupOf K) (tCons (tCB (rSrtR K g.pr g.wd) (tCons (tCB (rSetR K g.pr g.wd) (tCons te tNil)) tNil)) tNil)) σ H fun v A => ∃ rs, OrdOf xs rs ∧ RdsT K rs v A := fun H1 e Q q => by
  refine h H1 e _ fun v H2 e2 p => ?_
  obtain ⟨l, us, rfl, hs, hz, hi⟩ := p
  obtain ⟨ks, rfl, rfl, hk⟩ := rds_ks hz hi
  refine ⟨l, ks, rfl, hs, hk, by simpa using hl, fun a L ha h1 h2 => ?_⟩
  have e3 : Ex H2 (upd H2 a (RSetO g.pr g.wd a L)) := Ex.new ha
  refine ⟨a, L, rfl, upd_same, fun r hr => rd_loose (ex_loose e3) (hk r (h1 r hr)), fun p L' hp pm pw => ?_⟩
  have e4 := e3.trans (Ex.new (o := .lst (L'.map fun q => V.ref q.1)) hp)
  refine ⟨p, L'.map (fun q => V.ref q.1), rfl, .inl ⟨sq_of upd_same, fun t ht => ?_⟩⟩
  have e5 := e4.trans (Ex.new (o := .tup (L'.map fun q => V.ref q.1)) ht)
  refine q _ _ (e2.trans e5) ⟨keys L', ⟨pw, fun r => ?_⟩, t, L'.map (fun q => V.ref q.1), rfl, st_of upd_same, by rw [List.length_map, List.length_map], ks_rds fun r hr => rd_loose (ex_loose e5) (hk r (h1 r (pm.mem_iff.mp hr)))⟩
  constructor
  · intro hr
    obtain ⟨w, hw, rfl⟩ := List.mem_map.mp hr
    exact List.mem_map.mpr ⟨w, h1 w (pm.mem_iff.mp hw), rfl⟩
  · intro hr
    obtain ⟨w, hw, rfl⟩ := List.mem_map.mp hr
    exact (pm.map (·.2)).mem_iff.mpr (h2 w hw)
end
theorem len_is_reading {K : PySem.W.Frag} {g : Gs} {vs : List V} {H : Hp} {Q : VK} {E : XK} (h : sp_is_reading K g vs H Q E) : vs.length = 3 := by
  obtain ⟨_, _, _, _, rfl, _⟩ := h
  rfl
theorem pure_is_reading {K : PySem.W.Frag} {g : Gs} (C : CF K g) (vs : List V) (H : Hp) (Q : VK) (E : XK) (h : sp_is_reading K g vs H Q E) : t_is_reading K g { nx := fun _ H' => Q .non H', rt := Q } (start ["sides", "tables", "thing"] vs) H := by
  obtain ⟨s, t, v, r, rfl, ⟨a, rfl, c, h1, h2⟩, hf, hs, q⟩ := h
  obtain ⟨f1, f2, f3, f4, f5, f6⟩ := hf
  refine q_when (b := false) (et_is (et_or (et_not (et_B (ev_call (sp := sp_is_triple K g) (z := .bl true) (ea_cons (ev_var rfl) ea_nil) fun H1 e Q q E => ⟨a, _, rfl, ex_t e h1, q⟩))) fun _ =>
    et_or (et_not (et_B (ev_within (ev_op (ev_var rfl) ev_c (rv_ixT h1 rfl)) ev_c (ev_op (ev_var rfl) ev_c rv_I0)))) fun _ => et_not (et_B (ev_within (ev_op (ev_var rfl) ev_c (rv_ixT h1 rfl)) ev_c (ev_op (ev_var rfl) ev_c rv_I0)))) ?_) (fun z => nomatch z) fun _ A1 e1 => ?_
  · rw [decide_eq_true f1, decide_eq_true f3, decide_eq_true (by omega : r.1 ≤ (t : Int) - 1), decide_eq_true (by omega : r.2.1 ≤ (t : Int) - 1)] <;> rfl
  · refine s_ret (ev_call (sp := sp_are_within K g) (z := .bl true) (ea_cons (ev_op (ev_var rfl) ev_c (rv_ixT (ex_t e1 h1) rfl)) (ea_cons (ev_var rfl) (ea_cons (ev_un ev_c ru_neg) (ea_cons ev_c ea_nil)))) fun H1 e Q q E => ⟨c, r.2.2, _, _, _, rfl, ex_t (e1.trans e) h2, by omega, by omega, f6, q⟩) fun A2 e2 => q A2 (e1.trans e2)
theorem len_Program_keep {K : PySem.W.Frag} {g : Gs} {vs : List V} {H : Hp} {Q : VK} {E : XK} (h : sp_Program_keep K g vs H Q E) : vs.length = 4 := by
  obtain ⟨_, _, _, _, _, _, rfl, _⟩ := h
  rfl
theorem pure_Program_keep {K : PySem.W.Frag} {g : Gs} (C : CF K g) (vs : List V) (H : Hp) (Q : VK) (E : XK) (h : sp_Program_keep K g vs H Q E) : t_Program_keep K g { nx := fun _ H' => Q .non H', rt := Q } (start ["self", "sides", "tables", "readings"] vs) H := by
  obtain ⟨x, dx, u, v, w, fs, rfl, hx, hl, q⟩ := h
  have l1 := putF_len "sides" u fs
  have l2 := putF_len "tables" v (putF "sides" u fs)
  refine q_fld (ev_var rfl) (ev_var rfl) hx C.P C.pS (by omega) fun A1 e1 => ?_
  refine q_fld (ev_var rfl) (ev_var rfl) upd_same C.P C.pT (by omega) fun A2 e2 => ?_
  refine s_fld (ev_var rfl) (ev_var rfl) upd_same C.P C.pR (by omega) fun A3 e3 => ?_
  exact q _ (((exX_of e1).trans (exX_of e2)).trans (exX_of e3)) upd_same
theorem len_Program_init {K : PySem.W.Frag} {g : Gs} {vs : List V} {H : Hp} {Q : VK} {E : XK} (h : sp_Program_init K g vs H Q E) : vs.length = 4 := by
  obtain ⟨_, _, _, _, _, _, rfl, _⟩ := h
  rfl
theorem pure_Program_init {K : PySem.W.Frag} {g : Gs} (C : CF K g) (vs : List V) (H : Hp) (Q : VK) (E : XK) (h : sp_Program_init K g vs H Q E) : t_Program_init K g { nx := fun _ H' => Q .non H', rt := Q } (start ["self", "sides", "tables", "readings", "number", "item"] vs) H := by
  obtain ⟨x, dx, s, t, rv, rs, rfl, hx, s1, s4, t1, t8, hl, hr, hf, hw, q⟩ := h
  obtain ⟨a, xs, rfl, ha, hz, hi⟩ := hr
  refine q_never (b := false) (et_is (et_not (et_B (ev_within (ev_var rfl) ev_c ev_c))) ?_) rfl fun A1 e1 => ?_
  · rw [decide_eq_true (by omega : (1 : Int) ≤ s), decide_eq_true (by omega : (s : Int) ≤ 4)] <;> rfl
  refine q_never (b := false) (et_is (et_not (et_B (ev_within (ev_var rfl) ev_c ev_c))) ?_) rfl fun A2 e2 => ?_
  · rw [decide_eq_true (by omega : (1 : Int) ≤ t), decide_eq_true (by omega : (t : Int) ≤ 8)] <;> rfl
  have e12 := e1.trans e2
  refine q_never (b := false) (et_is (et_or (et_not (et_B (ev_isT (ev_var rfl) (ex_t e12 ha)))) fun _ => et_test (ev_op (ev_lenT (ev_var rfl) (ex_t e12 ha)) ev_c rv_I0)) ?_) rfl fun A3 e3 => ?_
  · rw [decide_eq_false (by omega : ¬ (24 : Int) < xs.length)] <;> rfl
  have e13 := e12.trans e3
  refine q_for (ei_enumT (ea_cons (ev_var rfl) ea_nil) (ex_t e13 ha)) (fun A1 i σ' A => Ex A1 A ∧ ∃ u w, σ' = [some (.ref x), some (.int s), some (.int t), some (.ref a), u, w]) (fun A e => ⟨Ex.refl A, _, _, rfl⟩) (fun A i σ' B e _ p => ex_tt p.1) (fun A i σ' B y B2 e hi' p e4 it => ?_) fun A σ' B e p => ?_
  · obtain ⟨p1, u, w, rfl⟩ := p
    obtain ⟨T, v, rfl, hT, hv⟩ := it
    have eB2 := ((e13.trans e).trans p1).trans e4
    obtain ⟨r, hr⟩ : ∃ r, rs[i]? = some r := ⟨_, List.getElem?_eq_getElem (by omega)⟩
    have hrm := List.mem_of_getElem? hr
    refine pt_two (st_of hT) _ fun B3 e5 => ?_
    have e53 := eB2.trans e5
    have rv := rdv_st r v _ _ (ex_loose e53) (hi i v r hv hr)
    refine s_never (b := false) (et_is (et_or (et_not (et_B (ev_call (sp := sp_is_reading K g) (z := .bl true) (ea_cons (ev_var rfl) (ea_cons (ev_var rfl) (ea_cons (ev_var rfl) ea_nil))) fun H1 e Q q E => ⟨s, t, v, r, rfl, rdv_st r v _ _ (ex_loose e) rv, hf r hrm, by omega, q⟩))) fun _ =>
      et_and (b := false) (et_test (ev_op (ev_var rfl) ev_c rv_I0)) fun z => ?_) (by simp)) rfl fun B4 e6 => ⟨(((p1.trans e4).trans e5).trans e6), _, _, rfl⟩
    have i0 : (0 : Int) < (i : Int) := of_decide_eq_true z
    obtain ⟨r', hr'⟩ : ∃ r', rs[i - 1]? = some r' := ⟨_, List.getElem?_eq_getElem (by omega)⟩
    obtain ⟨v', hv'⟩ : ∃ v', xs[i - 1]? = some v' := ⟨_, List.getElem?_eq_getElem (by omega)⟩
    obtain ⟨av, rfl, hav⟩ := rv
    obtain ⟨av', rfl, hav'⟩ := rdv_st r' v' _ _ (ex_loose e53) (hi (i - 1) v' r' hv' hr')
    have lt : dLt r' r := by
      have := List.pairwise_iff_getElem.mp hw (i - 1) i (by omega) (by omega) (by omega)
      rw [List.getElem?_eq_getElem (by omega)] at hr hr'
      rw [← Option.some.inj hr, ← Option.some.inj hr']; exact this
    have hix : atI xs ((i : Int) - 1) = some (.ref av') := by
      unfold atI
      rw [show (i : Int) - 1 = ((i - 1 : Nat) : Int) by omega, ixN_nat (by omega)]
      exact hv'
    refine et_test (ev_is (ev_op (z := .bl (!decide (dLt r' r))) (ev_var rfl) (ev_op (ev_var rfl) (ev_op (ev_var rfl) ev_c rv_I0) (rv_ixT (ex_t e53 ha) hix)) fun H1 e Q q => ⟨av, av', r, r', rfl, rfl, rd_loose (ex_loose e) hav, rd_loose (ex_loose e) hav', q H1 (Ex.refl H1)⟩) ?_)
    rw [decide_eq_true lt] <;> rfl
  · obtain ⟨p1, u, w, rfl⟩ := p
    have eB := (e13.trans e).trans p1
    refine s_meth (ev_var rfl) (eB x _ hx) rfl (ea_cons (ev_var rfl) (ea_cons (ev_var rfl) (ea_cons (ev_var rfl) ea_nil))) fun H1 e1 => ⟨x, dx, _, _, _, [], rfl, (eB.trans e1) x _ hx, by decide, fun H2 e2 h2 => q H2 ((exX_ex (eB.trans e1)).trans e2) h2⟩
theorem len_program_of {K : PySem.W.Frag} {g : Gs} {vs : List V} {H : Hp} {Q : VK} {E : XK} (h : sp_program_of K g vs H Q E) : vs.length = 3 := by
  obtain ⟨_, _, _, _, rfl, _⟩ := h
  rfl
theorem pure_program_of {K : PySem.W.Frag} {g : Gs} (C : CF K g) (vs : List V) (H : Hp) (Q : VK) (E : XK) (h : sp_program_of K g vs H Q E) : t_program_of K g { nx := fun _ H' => Q .non H', rt := Q } (start ["sides", "tables", "readings", "found"] vs) H := by
  obtain ⟨s, t, v, xs, rfl, hx, hl, q⟩ := h
  refine qp_asg (φ := fun v A => ∃ x dx rv, v = .ref x ∧ A x = some (.ins g.P dx (progF 1 1 rv)) ∧ H x = none) (fun H1 e Q q => ?_) fun v1 A1 e1 p1 => ?_
  · refine (eap_v ev_c (eap_v ev_c (eap_one (ep_f (ep_u (eu_tup ea_nil (by decide))))))) H1 e _ fun vs A e2 p => ?_
    obtain ⟨_, rfl, _, rfl, _, rfl, tp, rfl, ht⟩ := p
    intro x dx hx hd hne
    refine ⟨x, dx, 1, 1, .ref tp, [], rfl, upd_same, by decide, by decide, by decide, by decide, by decide, ⟨tp, [], rfl, ?_, rfl, nofun⟩, nofun, .nil, fun H2 e3 h2 => ⟨rfl, q _ H2 (e2.trans (ex_make hx hd e3)) ⟨x, dx, _, rfl, h2, ?_⟩⟩⟩
    · have n1 : tp ≠ x := by rintro rfl; rw [hx] at ht; cases ht
      have n2 : tp ≠ dx := by rintro rfl; rw [hd] at ht; cases ht
      exact st_of (by rw [upd_ne n1, upd_ne n2]; exact ht)
    · exact fresh_back (e.trans e2) hx
  obtain ⟨x, dx, rv, rfl, h1, hx0⟩ := p1
  refine q_methP (ev_var rfl) h1 rfl (eap_v (ev_var rfl) (eap_v (ev_var rfl) (eap_one (ep_order (xs := xs) (ep_val (ev_var rfl) fun H1 e => rdl_up xs v _ _ (e1.trans e) hx) hl)))) fun vs A2 e2 p => ?_
  obtain ⟨_, rfl, _, rfl, rv2, rfl, rs, ho, hr⟩ := p
  refine ⟨x, dx, _, _, rv2, _, rfl, e2 x _ h1, by simp, fun A3 e3 h3 => ?_⟩
  have e13 : Ex H A3 := fun b o hb => e3 b o (by rintro rfl; rw [hx0] at hb; cases hb) ((e1.trans e2) b o hb)
  have hr3 : RdsT K rs rv2 A3 := rds_t (exX_t (e2 x _ h1) e3) hr
  exact s_ret (ev_var rfl) fun A4 e4 => q _ A4 (e13.trans e4) ⟨rs, ho, x, dx, rv2, rfl, e4 x _ h3, rds_st rs rv2 _ _ (ex_loose e4) hr3⟩
theorem len_check_lot {K : PySem.W.Frag} {g : Gs} {vs : List V} {H : Hp} {Q : VK} {E : XK} (h : sp_check_lot K g vs H Q E) : vs.length = 2 := by
  obtain ⟨_, _, _, _, _, _, rfl, _⟩ := h
  rfl
theorem pure_check_lot {K : PySem.W.Frag} {g : Gs} (C : CF K g) (vs : List V) (H : Hp) (Q : VK) (E : XK) (h : sp_check_lot K g vs H Q E) : t_check_lot K g { nx := fun _ H' => Q .non H', rt := Q } (start ["program", "thing"] vs) H := by
  obtain ⟨s, t, rs, pv, a, n, rfl, ⟨x, dx, rv, rfl, hx, ar, xs, rfl, har, hz, hi⟩, ha, hn, q⟩ := h
  have hlen := ev_lenT (K := K) (ev_fld (σ := [some (.ref x), some (.ref a)]) (te := tVar 0) (ev_var rfl) hx C.P C.pR rfl) har
  refine s_never (b := false) (et_is (et_not (et_B (ev_call (sp := sp_is_lot_below K g) (z := .bl true) (ea_cons (ev_var rfl) (ea_cons hlen ea_nil)) fun H1 e Q q E => ⟨a, n, _, rfl, ex_t e ha, by omega, q⟩))) rfl) rfl q
end TW
namespace TW
open PySem L2 Evl RS RZ TN
section
variable {K : PySem.W.Frag} {g : Gs} {σ : L2.St} {H H' A B : Hp} {te ta tb tv to : TE} {taa : TA} {tz : TS} {D : Ends} {v y : V} {φ : V → Hp → Prop} {χ : Addr → Hp → Prop}
theorem eu_ep {vs : List V} (h : EvU te σ H vs) : EvP te σ H fun v A => ∃ p, v = .ref p ∧ A p = some (.tup vs) := ep_f (ep_u h)
/-- list(t) -/
theorem el_lstT {a : Addr} {xs : List V} (h : Ev te σ H (.ref a)) (hx : SqT K H a xs) : EvL (tCB (rLstOf K) (tCons te tNil)) σ H xs := fun H1 e Q q =>
  h H1 e _ fun H2 e2 => ⟨a, xs, rfl, .inr (ex_t (e.trans e2) hx), fun l hl => q l _ (fresh_back e2 hl) (e2.trans (Ex.new hl)) upd_same⟩
/-- xs + ys of two lists -/
theorem el_cat {xs ys : List V} (h : EvL ta σ H xs) (h2 : EvL tb σ H ys) (hz : xs.length + ys.length ≤ 100000) : EvL (tOp rCat ta tb) σ H (xs ++ ys) := fun H1 e Q q =>
  h H1 e _ fun p H2 hp e2 hx => h2 H2 (e.trans e2) _ fun r H3 hr e3 hy => ⟨p, r, xs, ys, rfl, rfl, e3 p _ hx, hy, sz_of hz, fun l hl => q l _ (fresh_back (e2.trans e3) hl) ((e2.trans e3).trans (Ex.new hl)) upd_same⟩
theorem el_catV {p r : Addr} {xs ys : List V} (h : Ev ta σ H (.ref p)) (h2 : Ev tb σ H (.ref r)) (hx : H p = some (.lst xs)) (hy : H r = some (.lst ys)) (hz : xs.length + ys.length ≤ 100000) : EvL (tOp rCat ta tb) σ H (xs ++ ys) := fun H1 e Q q =>
  h H1 e _ fun H2 e2 => h2 H2 (e.trans e2) _ fun H3 e3 => ⟨p, r, xs, ys, rfl, rfl, ((e.trans e2).trans e3) p _ hx, ((e.trans e2).trans e3) r _ hy, sz_of hz, fun l hl => q l _ (fresh_back (e2.trans e3) hl) ((e2.trans e3).trans (Ex.new hl)) upd_same⟩
theorem el_catL {r : Addr} {xs ys : List V} (h : EvL ta σ H xs) (h2 : Ev tb σ H (.ref r)) (hy : H r = some (.lst ys)) (hz : xs.length + ys.length ≤ 100000) : EvL (tOp rCat ta tb) σ H (xs ++ ys) := fun H1 e Q q =>
  h H1 e _ fun p H2 hp e2 hx => h2 H2 (e.trans e2) _ fun H3 e3 => ⟨p, r, xs, ys, rfl, rfl, e3 p _ hx, ((e.trans e2).trans e3) r _ hy, sz_of hz, fun l hl => q l _ (fresh_back (e2.trans e3) hl) ((e2.trans e3).trans (Ex.new hl)) upd_same⟩
theorem el_catR {p : Addr} {xs ys : List V} (h : Ev ta σ H (.ref p)) (hx : H p = some (.lst xs)) (h2 : EvL tb σ H ys) (hz : xs.length + ys.length ≤ 100000) : EvL (tOp rCat ta tb) σ H (xs ++ ys) := fun H1 e Q q =>
  h H1 e _ fun H2 e2 => h2 H2 (e.trans e2) _ fun r H3 hr e3 hy => ⟨p, r, xs, ys, rfl, rfl, ((e.trans e2).trans e3) p _ hx, hy, sz_of hz, fun l hl => q l _ (fresh_back (e2.trans e3) hl) ((e2.trans e3).trans (Ex.new hl)) upd_same⟩
/-- [x] * k -/
theorem flat_rep (x : V) : ∀ k : Nat, (List.replicate k [x]).flatten = List.replicate k x
  | 0 => rfl
  | k + 1 => by rw [List.replicate_succ, List.flatten_cons, flat_rep x k] <;> rfl
theorem el_rep {x : V} {k : Nat} (h : Ev ta σ H x) (h2 : Ev tb σ H (.int (k : Int))) (hk : k ≤ 40000) : EvL (tOp rRep (tLst (tCons ta tNil)) tb) σ H (List.replicate k x) := fun H1 e Q q =>
  h H1 e _ fun H2 e2 => ⟨sz_of (by simp), fun p hp => by
    have e3 : Ex H2 (upd H2 p (.lst [x])) := Ex.new hp
    refine h2 _ ((e.trans e2).trans e3) _ fun H4 e4 => ⟨p, (k : Int), [x], rfl, rfl, e4 p _ upd_same, by omega, by omega, sz_of (by simp; omega), fun l hl => ?_⟩
    rw [Int.toNat_natCast, flat_rep]
    exact q l _ (fresh_back ((e2.trans e3).trans e4) hl) (((e2.trans e3).trans e4).trans (Ex.new hl)) upd_same⟩
theorem ep_tupL {n : Nat} {ψ : Nat → V → Hp → Prop} (h : EvF te σ H fun p A => ∃ out : List V, A p = some (.lst out) ∧ out.length = n ∧ ∀ (i : Nat) x, out[i]? = some x → ψ i x A) (up : ∀ i, Up (ψ i)) :
    EvP (tCB (rTupOf K) (tCons te tNil)) σ H fun v A => ∃ a xs, v = .ref a ∧ SqT K A a xs ∧ xs.length = n ∧ ∀ (i : Nat) x, xs[i]? = some x → ψ i x A := fun H1 e Q q =>
  h H1 e _ fun p H2 hp e2 ⟨out, ho, hl, hi⟩ => ⟨p, out, rfl, .inl ⟨sq_of ho, fun l hl' => q _ _ (e2.trans (Ex.new hl')) ⟨l, out, rfl, st_of upd_same, hl, fun i x hx => up i _ _ _ (Ex.new hl') (hi i x hx)⟩⟩⟩
/-- tuple(xs) of a new list -/
theorem eu_tupL {xs : List V} (h : EvL te σ H xs) : EvU (tCB (rTupOf K) (tCons te tNil)) σ H xs := fun H1 e Q q =>
  h H1 e _ fun p H2 hp e2 ho => ⟨p, xs, rfl, .inl ⟨sq_of ho, fun l hl => q l _ (fresh_back e2 hl) (e2.trans (Ex.new hl)) upd_same⟩⟩
theorem eu_tupV {p : Addr} {xs : List V} (h : Ev te σ H (.ref p)) (ho : H p = some (.lst xs)) : EvU (tCB (rTupOf K) (tCons te tNil)) σ H xs := fun H1 e Q q =>
  h H1 e _ fun H2 e2 => ⟨p, xs, rfl, .inl ⟨sq_of ((e.trans e2) p _ ho), fun l hl => q l _ (fresh_back e2 hl) (e2.trans (Ex.new hl)) upd_same⟩⟩
end
theorem len_beside {K : PySem.W.Frag} {g : Gs} {vs : List V} {H : Hp} {Q : VK} {E : XK} (h : sp_beside K g vs H Q E) : vs.length = 2 := by
  obtain ⟨_, _, _, _, _, _, _, rfl, _⟩ := h
  rfl
theorem pure_beside {K : PySem.W.Frag} {g : Gs} (C : CF K g) (vs : List V) (H : Hp) (Q : VK) (E : XK) (h : sp_beside K g vs H Q E) : t_beside K g { nx := fun _ H' => Q .non H', rt := Q } (start ["one", "other", "moved", "reader", "read", "step"] vs) H := by
  obtain ⟨s, t, t', rs, rs', u, v, rfl, hu, hv, l1, l2, q⟩ := h
  obtain ⟨x, dx, ru, rfl, hx, a, xs, rfl, ha, hz, hi⟩ := hu
  obtain ⟨y, dy, rv, rfl, hy, b, ys, rfl, hb, hz', hi'⟩ := hv
  refine q_never (b := false) (et_is (et_test (ev_op (ev_fld (ev_var rfl) hx C.P C.pS rfl) (ev_fld (ev_var rfl) hy C.P C.pS rfl) (rv_ne rfl))) (by simp)) rfl fun A1 e1 => ?_
  have hx1 := e1 x _ hx
  have hy1 := e1 y _ hy
  have hl : EvF (tLc (iTup K (tFld K (tVar 1) "readings")) (gTup K 3 (gCons (gName 3) (gCons (gName 4) (gCons (gName 5) gNil)))) tYes (tTup (tCons (tOp rAddI (tVar 3) (tFld K (tVar 0) "tables")) (tCons (tOp rAddI (tVar 4) (tFld K (tVar 0) "tables")) (tCons (tVar 5) tNil)))) [3, 4, 5])
      [some (.ref x), some (.ref y), none, none, none, none] A1 _ :=
    ef_lcA ((ei_tup (ev_fld (ev_var rfl) hy1 C.P C.pR rfl) (ex_t e1 hb)).weak fun _ _ e => ex_tt e) (by omega) (fun i v A => ∀ r, rs'[i]? = some r → RdV K (moveR t r) v A) (fun i v A B e h r hr => rdv_st _ v A B e (h r hr)) fun i z A e hi2 it => by
      obtain ⟨r, hr⟩ : ∃ r, rs'[i]? = some r := ⟨_, List.getElem?_eq_getElem (by omega)⟩
      obtain ⟨c, rfl, d, h1, h2⟩ := rdv_st r z _ _ (ex_loose (e1.trans e)) (hi' i z r it hr)
      refine ⟨_, pt_three h1, rfl, (eu_ep (eu_tup (ea_cons (ev_op (ev_var rfl) (ev_fld (ev_var rfl) (e x _ hx1) C.P C.pT rfl) rv_I0) (ea_cons (ev_op (ev_var rfl) (ev_fld (ev_var rfl) (e x _ hx1) C.P C.pT rfl) rv_I0) (ea_cons (ev_var rfl) ea_nil))) (by simp))).imp fun v A2 e2 ⟨p, hp, k⟩ r' hr' => ?_⟩
      rw [hr] at hr'
      obtain rfl := Option.some.inj hr'
      exact ⟨p, hp, d, st_of k, ex_t e2 h2⟩
  refine qf_asg hl fun m A2 hm e2 ⟨out, ho, hol, hoi⟩ => ?_
  have e12 := e1.trans e2
  refine sp_ret (φ := fun v H2 => ∃ ps, OrdOf (rs ++ rs'.map (moveR t)) ps ∧ ProgAt K g s (t + t') ps v H2) (epp_call (eap_v (ev_fld (ev_var rfl) (e12 x _ hx) C.P C.pS rfl) (eap_v (ev_op (ev_fld (ev_var rfl) (e12 x _ hx) C.P C.pT rfl) (ev_fld (ev_var rfl) (e12 y _ hy) C.P C.pT rfl) rv_I0)
    (eap_one (φ := RdsL K (rs ++ rs'.map (moveR t))) ((ep_f (ep_l (el_catL (el_lstT (ev_fld (ev_var rfl) (e12 x _ hx) C.P C.pR rfl) (ex_t e12 ha)) (ev_var rfl) ho (by omega)))).imp fun v A3 e3 ⟨p, hp, k⟩ => ?_)))) fun vs A3 e3 p Q2 q2 E2 => ?_) fun v A3 e3 p => q v A3 (e12.trans e3) p
  · refine ⟨p, _, hp, sq_of k, by simp [hz, hol, hz'], fun i z r h1 h2 => ?_⟩
    by_cases hi2 : i < xs.length
    · rw [List.getElem?_append_left hi2] at h1
      rw [List.getElem?_append_left (by omega)] at h2
      exact rdv_st r z _ _ (ex_loose (e12.trans e3)) (hi i z r h1 h2)
    · rw [List.getElem?_append_right (by omega)] at h1
      rw [List.getElem?_append_right (by omega), List.getElem?_map, ← hz] at h2
      cases hr : rs'[i - xs.length]? with
      | none => rw [hr] at h2; cases h2
      | some r' =>
        rw [hr] at h2
        obtain rfl := Option.some.inj h2
        exact rdv_st _ z _ _ (ex_loose e3) (hoi _ z h1 r' hr)
  · obtain ⟨_, rfl, _, rfl, w, rfl, hw⟩ := p
    exact ⟨s, t + t', w, _, by rw [Int.natCast_add] <;> rfl, hw, by simp; omega, q2⟩
end TW
namespace TW
open PySem L2 Evl RS RZ TN
section
variable {K : PySem.W.Frag} {g : Gs} {σ : L2.St} {H H' A B Bs : Hp} {te ta tb tv to ti : TE} {taa : TA} {tz : TS} {D : Ends} {v y : V} {φ : V → Hp → Prop} {χ : Addr → Hp → Prop} {wide m n w : Nat} {T : Tb} {s : Sx}
theorem row_at {f : Nat → Int} {j : Nat} (h : j < n) : (row n f)[j]? = some (.int (f j)) := by rw [List.getElem?_map, List.getElem?_range h] <;> rfl
theorem row_len {f : Nat → Int} : (row n f).length = n := by simp
theorem row_ix {f : Nat → Int} {j : Nat} (h : j < n) : atI (row n f) (j : Int) = some (.int (f j)) := by
  unfold atI
  rw [row_len, ixN_nat h]
  exact row_at h
theorem row_last {f : Nat → Int} : atI (row (n + 1) f) (-1) = some (.int (f n)) := by
  unfold atI ixN
  rw [row_len, if_neg (by decide), if_pos (by omega)]
  show (row (n + 1) f)[((-1 : Int) + ((n + 1 : Nat) : Int)).toNat]? = _
  rw [show ((-1 : Int) + ((n + 1 : Nat) : Int)).toNat = n by omega]
  exact row_at (by omega)
theorem row_ext {f h : Nat → Int} (e : ∀ j, j < n → f j = h j) : row n f = row n h := List.map_congr_left fun j hj => by rw [e j (List.mem_range.mp hj)]
theorem row_set {f : Nat → Int} {j : Nat} {x : Int} : (row n f).set j (.int x) = row n fun k => if k = j then x else f k := by
  refine List.ext_getElem? fun k => ?_
  rw [List.getElem?_set, List.getElem?_map, List.getElem?_map, List.length_map, List.length_range]
  by_cases hk : k < n
  · rw [List.getElem?_range hk]
    by_cases h : j = k
    · subst h; simp [hk]
    · rw [if_neg h]; simp [Ne.symm h]
  · rw [List.getElem?_eq_none (by simpa using hk)]
    by_cases h : j = k
    · subst h; simp [hk]
    · rw [if_neg h] <;> rfl
theorem refs_ix {out : List Addr} {i : Nat} {r : Addr} (h : out[i]? = some r) : atI (out.map V.ref) (i : Int) = some (.ref r) := by
  have := (List.getElem?_eq_some_iff.mp h).1
  unfold atI
  rw [List.length_map, ixN_nat this]
  show (out.map V.ref)[i]? = _
  rw [List.getElem?_map, h] <;> rfl
theorem RowsAt.get {a : Addr} {f : Nat → Nat → Int} {bad : List Addr} (h : RowsAt H a n w f bad) {i : Nat} (hi : i < n) : ∃ (out : List Addr) (r : Addr), H a = some (.lst (out.map V.ref)) ∧ out.length = n ∧ out[i]? = some r ∧ H r = some (.lst (row w (f i))) ∧ r ∉ bad := by
  obtain ⟨out, h1, h2, h3⟩ := h
  have e := List.getElem?_eq_getElem (l := out) (by omega : i < out.length)
  exact ⟨out, out[i], h1, h2, e, h3 i _ e⟩
theorem RowsAt.up {a : Addr} {f : Nat → Nat → Int} {bad : List Addr} (e : Ex H A) (h : RowsAt H a n w f bad) : RowsAt A a n w f bad := let ⟨out, h1, h2, h3⟩ := h; ⟨out, e _ _ h1, h2, fun i r hi => ⟨e _ _ (h3 i r hi).1, (h3 i r hi).2⟩⟩
theorem RowsAt.ext {a : Addr} {f f' : Nat → Nat → Int} {bad : List Addr} (h : RowsAt H a n w f bad) (e : ∀ i, i < n → ∀ j, j < w → f i j = f' i j) : RowsAt H a n w f' bad := let ⟨out, h1, h2, h3⟩ := h; ⟨out, h1, h2, fun i r hi => by
  have := (List.getElem?_eq_some_iff.mp hi).1
  rw [← row_ext (e i (by omega))]; exact h3 i r hi⟩
/-- a row takes another's place -/
theorem RowsAt.put {a p : Addr} {f : Nat → Nat → Int} {f' : Nat → Int} {bad : List Addr} {i : Nat} (h : RowsAt H a n w f bad) (ha : a ∈ bad) (e : Ex H A) (hp : A p = some (.lst (row w f'))) (hb : p ∉ bad) {out : List Addr} (ho : H a = some (.lst (out.map V.ref))) :
    RowsAt (upd A a (.lst ((out.map V.ref).set i (.ref p)))) a n w (fun k => if k = i then f' else f k) bad := by
  obtain ⟨out', h1, h2, h3⟩ := h
  rw [ho] at h1
  have h1 : out.map V.ref = out'.map V.ref := by injection h1 with h1; injection h1
  rw [h1, ← List.map_set]
  refine ⟨out'.set i p, upd_same, by simpa using h2, fun k r hk => ?_⟩
  rw [List.getElem?_set] at hk
  by_cases hki : i = k
  · subst hki
    rw [if_pos rfl] at hk
    by_cases hl : i < out'.length
    · rw [if_pos hl] at hk
      obtain rfl := Option.some.inj hk
      rw [upd_ne (fun z => hb (by rw [z]; exact ha))]
      refine ⟨?_, hb⟩
      show A p = some (.lst (row w (if i = i then f' else f i)))
      rw [if_pos rfl]
      exact hp
    · rw [if_neg hl] at hk; cases hk
  · rw [if_neg hki] at hk
    obtain ⟨h4, h5⟩ := h3 k r hk
    rw [upd_ne (fun z => h5 (by rw [z]; exact ha))]
    refine ⟨?_, h5⟩
    show A r = some (.lst (row w (if k = i then f' else f k)))
    rw [if_neg (Ne.symm hki)]
    exact e _ _ h4
theorem RowsAt.other {a b : Addr} {f : Nat → Nat → Int} {bad : List Addr} {o : HO} (h : RowsAt A a n w f bad) (hab : a ≠ b) (hb : b ∈ bad ∨ ∀ xs, A b ≠ some (.lst xs)) : RowsAt (upd A b o) a n w f bad := by
  obtain ⟨out, h1, h2, h3⟩ := h
  refine ⟨out, by rw [upd_ne hab]; exact h1, h2, fun i r hi => ?_⟩
  obtain ⟨h4, h5⟩ := h3 i r hi
  have : r ≠ b := by
    rintro rfl
    rcases hb with hb | hb
    · exact h5 hb
    · exact hb _ h4
  exact ⟨by rw [upd_ne this]; exact h4, h5⟩
theorem TabAt.up (e : Ex H A) (X : TabAt g wide m Bs T s H) : TabAt g wide m Bs T s A := ⟨X.ex.trans e, X.na, X.nL, X.nB, e _ _ X.ins, e _ _ X.sg, X.rows.up e, e _ _ X.base, X.LB, X.SL, X.SB⟩
theorem TabAt.ext {s' : Sx} (X : TabAt g wide m Bs T s H) (hd : s.d = s'.d) (ht : ∀ i, i < m + 2 → ∀ j, j < wide + m + 1 → s.t i j = s'.t i j) (hB : ∀ i, i < m → s.B i = s'.B i) : TabAt g wide m Bs T s' H :=
  ⟨X.ex, X.na, X.nL, X.nB, by rw [← hd]; exact X.ins, X.sg, X.rows.ext ht, by rw [row_ext (h := fun i => (s.B i : Int)) fun i hi => by rw [hB i hi]]; exact X.base, X.LB, X.SL, X.SB⟩
theorem TabAt.aL (X : TabAt g wide m Bs T s H) : T.a ≠ T.aL := fun z => by
  obtain ⟨out, h, _⟩ := X.rows
  have := X.ins; rw [z, h] at this; cases this
theorem TabAt.aB_ (X : TabAt g wide m Bs T s H) : T.a ≠ T.aB := fun z => by
  have := X.ins; rw [z, X.base] at this; cases this
theorem TabAt.aS_ (X : TabAt g wide m Bs T s H) : T.aS ≠ T.a := fun z => by
  have := X.ins; rw [← z, X.sg] at this; cases this
/-- a new line -/
theorem TabAt.line {i : Nat} {p : Addr} {f' : Nat → Int} {out : List Addr} (X : TabAt g wide m Bs T s H) (e : Ex H A) (hp0 : H p = none) (hp : A p = some (.lst (row (wide + m + 1) f'))) (ho : H T.aL = some (.lst (out.map V.ref))) :
    TabAt g wide m Bs T ⟨fun k => if k = i then f' else s.t k, s.d, s.B⟩ (upd A T.aL (.lst ((out.map V.ref).set i (.ref p)))) := by
  have hb : p ∉ [T.aL, T.aB] := fun z => by
    rcases List.mem_cons.mp z with z | z
    · rw [z, ho] at hp0; cases hp0
    · rw [List.mem_singleton.mp z, X.base] at hp0; cases hp0
  have X1 := X.up e
  exact ⟨X1.ex.mut X.nL, X.na, X.nL, X.nB, by rw [upd_ne X.aL]; exact X1.ins, by rw [upd_ne X.SL]; exact X1.sg, X.rows.put List.mem_cons_self e hp hb ho, by rw [upd_ne X.LB.symm]; exact X1.base, X.LB, X.SL, X.SB⟩
theorem TabAt.setB {r c : Nat} (X : TabAt g wide m Bs T s H) : TabAt g wide m Bs T ⟨s.t, s.d, put s.B r c⟩ (upd H T.aB (.lst ((row m fun i => (s.B i : Int)).set r (.int (c : Int))))) := by
  refine ⟨X.ex.mut X.nB, X.na, X.nL, X.nB, by rw [upd_ne X.aB_]; exact X.ins, by rw [upd_ne X.SB]; exact X.sg, X.rows.other X.LB (.inl (by simp)), ?_, X.LB, X.SL, X.SB⟩
  rw [upd_same, row_set]
  congr 2
  exact row_ext fun j _ => by
    show (if j = r then (c : Int) else (s.B j : Int)) = ((if j = r then c else s.B j : Nat) : Int)
    split <;> rfl
theorem TabAt.setD {d : Int} (X : TabAt g wide m Bs T s H) : TabAt g wide m Bs T ⟨s.t, d, s.B⟩ (upd H T.a (.ins g.T T.dx (tabF T wide m d))) :=
  ⟨X.ex.mut X.na, X.na, X.nL, X.nB, upd_same, by rw [upd_ne X.aS_]; exact X.sg, X.rows.other X.aL.symm (.inr fun xs z => by rw [X.ins] at z; cases z), by rw [upd_ne X.aB_.symm]; exact X.base, X.LB, X.SL, X.SB⟩
/-! what is read of it -/
theorem ev_lines (C : CF K g) (X : TabAt g wide m Bs T s H) (ho : Ev te σ H (.ref T.a)) : Ev (tFld K te "lines") σ H (.ref T.aL) := ev_fld ho X.ins C.T C.tL rfl
theorem ev_wide (C : CF K g) (X : TabAt g wide m Bs T s H) (ho : Ev te σ H (.ref T.a)) : Ev (tFld K te "wide") σ H (.int (wide : Int)) := ev_fld ho X.ins C.T C.tW rfl
theorem ev_many (C : CF K g) (X : TabAt g wide m Bs T s H) (ho : Ev te σ H (.ref T.a)) : Ev (tFld K te "many") σ H (.int (m : Int)) := ev_fld ho X.ins C.T C.tM rfl
theorem ev_bottom (C : CF K g) (X : TabAt g wide m Bs T s H) (ho : Ev te σ H (.ref T.a)) : Ev (tFld K te "bottom") σ H (.int s.d) := ev_fld ho X.ins C.T C.tD rfl
theorem ev_line (C : CF K g) (X : TabAt g wide m Bs T s H) (ho : Ev te σ H (.ref T.a)) {i : Nat} (hi : Ev ti σ H (.int (i : Int))) (hm : i < m + 2) : ∃ r, H r = some (.lst (row (wide + m + 1) (s.t i))) ∧ r ≠ T.aL ∧ r ≠ T.aB ∧ Ev (tOp (rIxL K) (tFld K te "lines") ti) σ H (.ref r) := by
  obtain ⟨out, r, h1, h2, h3, h4, h5⟩ := X.rows.get hm
  simp only [List.mem_cons, List.not_mem_nil, or_false, not_or] at h5
  exact ⟨r, h4, h5.1, h5.2, ev_op (ev_lines C X ho) hi (rv_ixL (sq_of h1) (refs_ix h3))⟩
theorem ev_cell (C : CF K g) (X : TabAt g wide m Bs T s H) (ho : Ev te σ H (.ref T.a)) {i j : Nat} (hi : Ev ti σ H (.int (i : Int))) (hj : Ev tb σ H (.int (j : Int))) (hm : i < m + 2) (hw : j < wide + m + 1) :
    Ev (tOp (rIxL K) (tOp (rIxL K) (tFld K te "lines") ti) tb) σ H (.int (s.t i j)) := by
  obtain ⟨r, h1, _, _, h2⟩ := ev_line C X ho hi hm
  exact ev_op h2 hj (rv_ixL (sq_of h1) (row_ix hw))
theorem ev_base (C : CF K g) (X : TabAt g wide m Bs T s H) (ho : Ev te σ H (.ref T.a)) {i : Nat} (hi : Ev ti σ H (.int (i : Int))) (hm : i < m) : Ev (tOp (rIxL K) (tFld K te "base") ti) σ H (.int (s.B i : Int)) :=
  ev_op (ev_fld ho X.ins C.T C.tB rfl) hi (rv_ixL (sq_of X.base) (row_ix hm))
theorem ev_rowix {r : Addr} {f : Nat → Int} {j : Nat} (hr : H r = some (.lst (row n f))) (ho : Ev te σ H (.ref r)) (hj : Ev ti σ H (.int (j : Int))) (hw : j < n) : Ev (tOp (rIxL K) te ti) σ H (.int (f j)) := ev_op ho hj (rv_ixL (sq_of hr) (row_ix hw))
theorem ev_rowlast {r : Addr} {f : Nat → Int} (hr : H r = some (.lst (row (n + 1) f))) (ho : Ev te σ H (.ref r)) : Ev (tOp (rIxL K) te (tUn rNegI (tC (.int 1)))) σ H (.int (f n)) := ev_op ho (ev_un ev_c ru_neg) (rv_ixL (sq_of hr) row_last)
/-- o[i] = a new list -/
theorem sl_setL {l : Addr} {xs ys : List V} {j : Nat} (hl : H l = some (.lst xs)) (h : EvL te σ H ys) (ho : Ev ta σ H (.ref l)) (hi : Ev tb σ H (.int (j : Int))) (hj : j < xs.length) (k : ∀ p H1, H p = none → Ex H H1 → H1 p = some (.lst ys) → D.nx σ (upd H1 l (.lst (xs.set j (.ref p))))) :
    tAsg te (gSub ta tb rSetL) D σ H := h H (Ex.refl H) _ fun p H1 hp e1 hy => ho H1 e1 _ fun H2 e2 => hi H2 (e1.trans e2) _ fun H3 e3 =>
  ⟨l, xs, (j : Int), j, rfl, rfl, ((e1.trans e2).trans e3) l _ hl, ixN_nat hj, k p H3 hp ((e1.trans e2).trans e3) ((e2.trans e3) p _ hy)⟩
theorem rv_isno {x : V} : RV rIsNo x .non H (.bl (decide (x = .non))) := fun H1 _ _ q => ⟨rfl, q H1 (Ex.refl H1)⟩
theorem rv_notno {x : V} : RV rNotNo x .non H (.bl (!decide (x = .non))) := fun H1 _ _ q => ⟨rfl, q H1 (Ex.refl H1)⟩
theorem firstN_at {p : Nat → Bool} {i : Nat} (h : firstN p i = none) (hp : p i = true) : ∀ {n}, i < n → firstN p n = some i := fun {n} hn => by
  induction n with
  | zero => omega
  | succ n ih =>
    unfold firstN
    by_cases hin : i = n
    · subst hin; rw [h]; dsimp only; rw [if_pos hp]
    · rw [ih (by omega)]
theorem firstN_no {p : Nat → Bool} {i : Nat} (h : firstN p i = none) (hp : p i = false) : firstN p (i + 1) = none := by
  unfold firstN
  rw [h]; dsimp only; rw [hp] <;> rfl
end
theorem len_Tableau_entering {K : PySem.W.Frag} {g : Gs} {vs : List V} {H : Hp} {Q : VK} {E : XK} (h : sp_Tableau_entering K g vs H Q E) : vs.length = 2 := by
  obtain ⟨_, _, _, _, _, _, rfl, _⟩ := h
  rfl
theorem pure_Tableau_entering {K : PySem.W.Frag} {g : Gs} (C : CF K g) (vs : List V) (H : Hp) (Q : VK) (E : XK) (h : sp_Tableau_entering K g vs H Q E) : t_Tableau_entering K g { nx := fun _ H' => Q .non H', rt := Q } (start ["self", "number", "line", "place"] vs) H := by
  obtain ⟨wide, m, Bs, T, s, num, rfl, X, hn, hw, hm, q⟩ := h
  obtain ⟨r, hr, _, _, hl⟩ := ev_line C X (te := tVar 0) (ti := tVar 1) (σ := [some (.ref T.a), some (.int (num : Int)), none, none]) (ev_var rfl) (ev_var rfl) hn
  refine q_asg hl fun A1 e1 => ?_
  refine q_for (ei_range (ea_cons (ev_wide C (X.up e1) (ev_var rfl)) ea_nil) (by omega) (by omega)) (fun A1 i σ' A => Ex A1 A ∧ firstN (fun j => decide (s.t num j < 0)) i = none ∧ ∃ u, σ' = [some (.ref T.a), some (.int num), some (.ref r), u]) (fun A e => ⟨Ex.refl A, rfl, _, rfl⟩) (fun _ _ _ _ _ _ _ => trivial) (fun A i σ' B x B2 e hi p e3 it => ?_) fun A σ' B e p => ?_
  · obtain ⟨p1, p2, u, rfl⟩ := p
    subst it
    have eB := ((e1.trans e).trans p1).trans e3
    refine pt_name _ fun B3 e4 => ?_
    refine s_when (et_test (ev_op (ev_rowix ((eB.trans e4) r _ hr) (ev_var rfl) (ev_var rfl) (by omega)) ev_c rv_I0)) (fun z B4 e5 => ?_) fun z B4 e5 => ?_
    · refine s_ret (ev_var rfl) fun B5 e6 => ?_
      rw [firstN_at p2 z (by omega)] at q
      exact q B5 (((eB.trans e4).trans e5).trans e6)
    · exact ⟨((p1.trans e3).trans e4).trans e5, firstN_no p2 z, _, rfl⟩
  · obtain ⟨p1, p2, u, rfl⟩ := p
    rw [Int.toNat_natCast] at p2
    rw [p2] at q
    exact s_ret ev_c fun B2 e3 => q B2 (((e1.trans e).trans p1).trans e3)
theorem len_Tableau_leaving {K : PySem.W.Frag} {g : Gs} {vs : List V} {H : Hp} {Q : VK} {E : XK} (h : sp_Tableau_leaving K g vs H Q E) : vs.length = 2 := by
  obtain ⟨_, _, _, _, _, _, rfl, _⟩ := h
  rfl
theorem pure_Tableau_leaving {K : PySem.W.Frag} {g : Gs} (C : CF K g) (vs : List V) (H : Hp) (Q : VK) (E : XK) (h : sp_Tableau_leaving K g vs H Q E) : t_Tableau_leaving K g { nx := fun _ H' => Q .non H', rt := Q } (start ["self", "place", "best", "at", "line", "other", "one", "two"] vs) H := by
  obtain ⟨wide, m, Bs, T, s, c, rfl, X, hc, hw, hm, hs, q⟩ := h
  obtain ⟨hd, hbd, hb⟩ := hs
  refine q_asg ev_c fun A1 e1 => ?_
  refine q_for (ei_range (ea_cons (ev_many C (X.up e1) (ev_var rfl)) ea_nil) (by omega) (by omega)) (fun A1 i σ' A => Ex A1 A ∧ ∃ u1 u2 u3 u4 u5, σ' = [some (.ref T.a), some (.int c), some (optV (leaveF s.t s.B (wide + m) c i)), u1, u2, u3, u4, u5]) (fun A e => ⟨Ex.refl A, _, _, _, _, _, rfl⟩) (fun _ _ _ _ _ _ _ => trivial) (fun A i σ' B x B2 e hi p e3 it => ?_) fun A σ' B e p => ?_
  · obtain ⟨p1, u1, u2, u3, u4, u5, rfl⟩ := p
    rw [Int.toNat_natCast] at hi
    subst it
    have eB := ((e1.trans e).trans p1).trans e3
    refine pt_name _ fun B3 e4 => ?_
    have X3 := X.up (eB.trans e4)
    obtain ⟨r, hr, _, _, hl⟩ := ev_line C X3 (te := tVar 0) (ti := tVar 3) (i := i) (σ := [some (.ref T.a), some (.int c), some (optV (leaveF s.t s.B (wide + m) c i)), some (.int (i : Int)), u2, u3, u4, u5]) (ev_var rfl) (ev_var rfl) (by omega)
    refine q_asg hl fun B4 e5 => ?_
    have hr4 := e5 r _ hr
    have done : ∀ B5, Ex B4 B5 → Ex A B5 := fun B5 e6 => (((p1.trans e3).trans e4).trans e5).trans e6
    refine s_when (et_test (ev_op (ev_rowix hr4 (ev_var rfl) (ev_var rfl) (by omega)) ev_c rv_I0)) (fun z B5 e6 => ?_) fun z B5 e6 => ⟨done B5 e6, ?_⟩
    · have z : 0 < s.t i c := of_decide_eq_true z
      cases hL : leaveF s.t s.B (wide + m) c i with
      | none =>
        refine s_if (b := true) (et_is (et_test (ev_op (ev_var rfl) ev_c rv_isno)) (by simp [optV])) (fun _ B6 e7 => s_asg (ev_var rfl) fun B7 e8 => ⟨done B7 ((e6.trans e7).trans e8), ?_⟩) (fun z => nomatch z)
        have : leaveF s.t s.B (wide + m) c (i + 1) = some i := by
          unfold leaveF; rw [if_pos z, hL]
        rw [this]; exact ⟨_, _, _, _, _, rfl⟩
      | some b =>
        have hbm : b < i := (leave_some hL).1
        refine s_if (b := false) (et_is (et_test (ev_op (ev_var rfl) ev_c rv_isno)) (by simp [optV])) (fun z => nomatch z) fun _ B6 e7 => ?_
        have X6 := X3.up ((e5.trans e6).trans e7)
        obtain ⟨r2, hr2, _, _, hl2⟩ := ev_line C X6 (te := tVar 0) (ti := tVar 2) (i := b) (σ := [some (.ref T.a), some (.int c), some (.int (b : Int)), some (.int (i : Int)), some (.ref r), u3, u4, u5]) (ev_var rfl) (ev_var rfl) (by omega)
        refine q_asg hl2 fun B7 e8 => ?_
        have e47 := (e6.trans e7).trans e8
        have hr7 := e47 r _ hr4
        have hr27 := e8 r2 _ hr2
        have b1 := hb i (by omega) (wide + m) (by omega)
        have b2 := hb b (by omega) c (by omega)
        have b3 := hb b (by omega) (wide + m) (by omega)
        have b4 := hb i (by omega) c (by omega)
        refine q_par (ea_cons (ev_op (ev_rowlast hr7 (ev_var rfl)) (ev_rowix hr27 (ev_var rfl) (ev_var rfl) (by omega)) (rv_I (mulW b1 b2 (by decide)))) (ea_cons (ev_op (ev_rowlast hr27 (ev_var rfl)) (ev_rowix hr7 (ev_var rfl) (ev_var rfl) (by omega)) (rv_I (mulW b3 b4 (by decide)))) ea_nil)) fun B8 e9 => ?_
        have X8 := X6.up (e8.trans e9)
        have un : leaveF s.t s.B (wide + m) c (i + 1) = if s.t i (wide + m) * s.t b c < s.t b (wide + m) * s.t i c ∨ (s.t i (wide + m) * s.t b c = s.t b (wide + m) * s.t i c ∧ s.B i < s.B b) then some i else some b := by
          conv => lhs; unfold leaveF
          rw [if_pos z, hL]
        refine s_if (et_or (et_test (ev_op (ev_var rfl) (ev_var rfl) rv_I0)) fun _ => et_and (et_test (ev_op (ev_var rfl) (ev_var rfl) (rv_eq rfl))) fun _ => et_test (ev_op (ev_base C X8 (ev_var rfl) (ev_var rfl) (by omega)) (ev_base C X8 (ev_var rfl) (ev_var rfl) (by omega)) rv_I0)) (fun y B9 e10 => s_asg (ev_var rfl) fun B10 e11 => ⟨done _ (((e47.trans e9).trans e10).trans e11), ?_⟩) fun y B9 e10 => ⟨done _ ((e47.trans e9).trans e10), ?_⟩
        · rw [un, if_pos]
          · exact ⟨_, _, _, _, _, rfl⟩
          · rw [int_eq] at y
            simpa using y
        · rw [un, if_neg]
          · exact ⟨_, _, _, _, _, rfl⟩
          · rw [int_eq] at y
            simp only [Bool.or_eq_false_iff, Bool.and_eq_false_iff, decide_eq_false_iff_not] at y
            omega
    · have z : ¬ 0 < s.t i c := of_decide_eq_false z
      have : leaveF s.t s.B (wide + m) c (i + 1) = leaveF s.t s.B (wide + m) c i := by
        conv => lhs; unfold leaveF
        rw [if_neg z]
      rw [this]; exact ⟨_, _, _, _, _, rfl⟩
  · obtain ⟨p1, u1, u2, u3, u4, u5, rfl⟩ := p
    exact s_ret (ev_var rfl) fun B2 e3 => q B2 (((e1.trans e).trans p1).trans e3)
end TW
namespace TW
open PySem L2 Evl RS RZ TN
section
variable {K : PySem.W.Frag} {g : Gs} {σ : L2.St} {H H' A B Bs : Hp} {te ta tb tv to ti : TE} {taa : TA} {tz : TS} {D : Ends} {v y : V} {φ : V → Hp → Prop} {χ : Addr → Hp → Prop} {wide m n w : Nat} {T : Tb} {s : Sx}
theorem ev_nlines (C : CF K g) (X : TabAt g wide m Bs T s H) (ho : Ev te σ H (.ref T.a)) : Ev (tCB (rLn K) (tCons (tFld K te "lines") tNil)) σ H (.int ((m + 2 : Nat) : Int)) := by
  obtain ⟨out, h1, h2, _⟩ := X.rows
  have := ev_lenL (K := K) (ev_lines C X ho) (sq_of h1)
  rw [List.length_map, h2] at this
  exact this
theorem step_fdiv {t : Nat → Nat → Int} {d : Int} (hd : 0 < d) {r c i j : Nat} (h : i ≠ r) : TN.stepF t d r c i j = (t i j * t r c - t i c * t r j) / d := by
  unfold TN.stepF
  rw [if_neg h, Int.fdiv_eq_ediv_of_nonneg _ (Int.le_of_lt hd)]
end
theorem len_Tableau_step {K : PySem.W.Frag} {g : Gs} {vs : List V} {H : Hp} {Q : VK} {E : XK} (h : sp_Tableau_step K g vs H Q E) : vs.length = 3 := by
  obtain ⟨_, _, _, _, _, _, _, rfl, _⟩ := h
  rfl
theorem pure_Tableau_step {K : PySem.W.Frag} {g : Gs} (C : CF K g) (vs : List V) (H : Hp) (Q : VK) (E : XK) (h : sp_Tableau_step K g vs H Q E) : t_Tableau_step K g { nx := fun _ H' => Q .non H', rt := Q } (start ["self", "at", "place", "line", "pivot", "other", "old", "part", "one", "two"] vs) H := by
  obtain ⟨wide, m, Bs, T, s, r, c, rfl, X, hr, hc, hw, hm, ⟨hd, hbd, hb⟩, q⟩ := h
  obtain ⟨lr, hlr, nL, nB, hl⟩ := ev_line C X (te := tVar 0) (ti := tVar 1) (i := r) (σ := [some (.ref T.a), some (.int (r : Int)), some (.int (c : Int)), none, none, none, none, none, none, none]) (ev_var rfl) (ev_var rfl) (by omega)
  refine q_asg hl fun A1 e1 => ?_
  refine q_asg (ev_rowix (e1 lr _ hlr) (ev_var rfl) (ev_var rfl) (by omega)) fun A2 e2 => ?_
  have X2 := X.up (e1.trans e2)
  have hlr2 := (e1.trans e2) lr _ hlr
  refine q_for (ei_range (ea_cons (ev_nlines C X2 (ev_var rfl)) ea_nil) (by omega) (by omega)) (fun A1 i σ' A => TabAt g wide m Bs T ⟨fun x => if x < i ∧ x ≠ r then TN.stepF s.t s.d r c x else s.t x, s.d, s.B⟩ A ∧ A lr = some (.lst (row (wide + m + 1) (s.t r))) ∧
      ∃ u1 u2 u3 u4 u5, σ' = [some (.ref T.a), some (.int r), some (.int c), some (.ref lr), some (.int (s.t r c)), u1, u2, u3, u4, u5]) (fun A e => ⟨(X2.up e).ext rfl (fun i _ j _ => by
        show s.t i j = (if i < 0 ∧ i ≠ r then TN.stepF s.t s.d r c i else s.t i) j
        rw [if_neg (by omega)]) fun _ _ => rfl, e lr _ hlr2, _, _, _, _, _, rfl⟩) (fun _ _ _ _ _ _ _ => trivial) (fun A i σ' B x B2 e hi p e3 it => ?_) fun A σ' B e p => ?_
  · obtain ⟨XB, hlrB, u1, u2, u3, u4, u5, rfl⟩ := p
    rw [Int.toNat_natCast] at hi
    subst it
    refine pt_name _ fun B3 e4 => ?_
    have e34 := e3.trans e4
    refine s_if (et_test (ev_op (ev_var rfl) (ev_var rfl) (rv_ne rfl))) (fun z B4 e5 => ?_) fun z B4 e5 => ?_
    · have hir : i ≠ r := by
        rw [int_eq, Bool.not_eq_true', decide_eq_false_iff_not] at z
        omega
      have X4 := XB.up (e34.trans e5)
      have hlr4 := (e34.trans e5) lr _ hlrB
      obtain ⟨ro, hro, _, _, ho⟩ := ev_line C X4 (te := tVar 0) (ti := tVar 5) (i := i) (σ := [some (.ref T.a), some (.int r), some (.int c), some (.ref lr), some (.int (s.t r c)), some (.int (i : Int)), u2, u3, u4, u5]) (ev_var rfl) (ev_var rfl) hi
      have hro : B4 ro = some (.lst (row (wide + m + 1) (s.t i))) := by
        rw [hro]
        show some (HO.lst (row (wide + m + 1) (if i < i ∧ i ≠ r then TN.stepF s.t s.d r c i else s.t i))) = _
        rw [if_neg (by omega)]
      refine q_asg ho fun B5 e6 => ?_
      refine q_asg (ev_rowix (e6 ro _ hro) (ev_var rfl) (ev_var rfl) (by omega)) fun B6 e7 => ?_
      have e67 := e6.trans e7
      have X6 := X4.up e67
      obtain ⟨out, ho1, ho2, _⟩ := id X6.rows
      have b1 := hb i hi
      have b2 := hb r (by omega) c (by omega)
      have b3 := hb i hi c (by omega)
      have b4 := hb r (by omega)
      refine sl_setL ho1 (el_lcA (ei_zipL (ea_cons (ev_var rfl) (ea_cons (ev_var rfl) ea_nil)) (sq_of (e67 ro _ hro)) (sq_of (e67 lr _ hlr4)) row_len row_len) (by omega) (fun j => .int ((s.t i j * s.t r c - s.t i c * s.t r j) / s.d)) fun j x A7 e8 hj it => ?_)
        (ev_lines C X6 (ev_var rfl)) (ev_var rfl) (by rw [List.length_map, ho2]; exact hi) fun p B7 hp e8 h8 => ?_
      · obtain ⟨T', x1, x2, rfl, hT, h1, h2⟩ := it
        rw [row_at hj] at h1 h2
        obtain rfl := Option.some.inj h1
        obtain rfl := Option.some.inj h2
        exact ⟨_, pt_two (st_of hT), rfl, ev_op (ev_op (ev_op (ev_var rfl) (ev_var rfl) (rv_I (mulW (b1 j hj) b2 (by decide)))) (ev_op (ev_var rfl) (ev_var rfl) (rv_I (mulW b3 (b4 j hj) (by decide)))) rv_I0) (ev_bottom C (X6.up e8) (ev_var rfl)) (rv_I (divW hd hbd (by decide)))⟩
      · have XN := X6.line (i := i) e8 hp h8 ho1
        refine ⟨XN.ext rfl (fun x hx j hj => ?_) fun _ _ => rfl, ?_, _, _, _, _, _, rfl⟩
        · show (if x = i then (fun j => (s.t i j * s.t r c - s.t i c * s.t r j) / s.d) else (if x < i ∧ x ≠ r then TN.stepF s.t s.d r c x else s.t x)) j = (if x < i + 1 ∧ x ≠ r then TN.stepF s.t s.d r c x else s.t x) j
          by_cases hxi : x = i
          · subst hxi
            rw [if_pos rfl, if_pos ⟨by omega, hir⟩, step_fdiv hd hir]
          · rw [if_neg hxi]
            by_cases hxr : x < i ∧ x ≠ r
            · rw [if_pos hxr, if_pos ⟨by omega, hxr.2⟩]
            · rw [if_neg hxr, if_neg (by omega)]
        · rw [upd_ne nL]
          exact (e67.trans e8) lr _ hlr4
    · have hir : i = r := by
        rw [int_eq, Bool.not_eq_false', decide_eq_true_iff] at z
        omega
      refine ⟨(XB.up (e34.trans e5)).ext rfl (fun x hx j hj => ?_) fun _ _ => rfl, (e34.trans e5) lr _ hlrB, _, _, _, _, _, rfl⟩
      show (if x < i ∧ x ≠ r then TN.stepF s.t s.d r c x else s.t x) j = (if x < i + 1 ∧ x ≠ r then TN.stepF s.t s.d r c x else s.t x) j
      by_cases hxr : x < i ∧ x ≠ r
      · rw [if_pos hxr, if_pos ⟨by omega, hxr.2⟩]
      · rw [if_neg hxr, if_neg (by omega)]
  · obtain ⟨XB, hlrB, u1, u2, u3, u4, u5, rfl⟩ := p
    rw [Int.toNat_natCast] at XB
    refine q_setL (j := r) XB.base (ev_var rfl) (ev_fld (ev_var rfl) XB.ins C.T C.tB rfl) (ev_var rfl) (by rw [row_len]; exact hr) fun B1 e1 => ?_
    have X1 := (XB.up e1).setB (r := r) (c := c)
    refine s_fld (ev_var rfl) (ev_var rfl) X1.ins C.T C.tD (by simp) fun B2 e2 => q _ (((X1.up e2).setD (d := s.t r c)).ext rfl (fun i hi j hj => ?_) fun _ _ => rfl)
    show (if i < m + 2 ∧ i ≠ r then TN.stepF s.t s.d r c i else s.t i) j = TN.stepF s.t s.d r c i j
    by_cases hir : i = r
    · rw [if_neg (by omega), hir]
      unfold TN.stepF
      rw [if_pos rfl]
    · rw [if_pos ⟨hi, hir⟩]
section
variable {K : PySem.W.Frag} {g : Gs} {σ : L2.St} {H H' A B Bs : Hp} {te ta tb tv to ti : TE} {taa : TA} {tz : TS} {D : Ends} {v y : V} {φ : V → Hp → Prop} {χ : Addr → Hp → Prop} {wide m n w : Nat} {T : Tb} {s : Sx}
theorem ev_enter (X : TabAt g wide m Bs T s H) (ho : Ev te σ H (.ref T.a)) {num : Nat} (hi : Ev ti σ H (.int (num : Int))) (h1 : num < m + 2) (h2 : wide ≤ 1000) (h3 : m ≤ 1000) :
    Ev (tMeth g.T "entering" (sp_Tableau_entering K g) [] E0 te (tCons ti tNil)) σ H (optV (firstN (fun j => decide (s.t num j < 0)) wide)) :=
  ev_ep (ep_meth ho X.ins rfl (ea_cons hi ea_nil) fun H1 e Q q E => ⟨wide, m, Bs, T, s, num, rfl, X.up e, h1, h2, h3, fun H2 e2 => q _ H2 e2 rfl⟩)
theorem ev_leave (X : TabAt g wide m Bs T s H) (ho : Ev te σ H (.ref T.a)) {c : Nat} (hi : Ev ti σ H (.int (c : Int))) (h1 : c < wide) (h2 : wide ≤ 1000) (h3 : m ≤ 1000) (hs : Small wide m s) :
    Ev (tMeth g.T "leaving" (sp_Tableau_leaving K g) [] E0 te (tCons ti tNil)) σ H (optV (leaveF s.t s.B (wide + m) c m)) :=
  ev_ep (ep_meth ho X.ins rfl (ea_cons hi ea_nil) fun H1 e Q q E => ⟨wide, m, Bs, T, s, c, rfl, X.up e, h1, h2, h3, hs, fun H2 e2 => q _ H2 e2 rfl⟩)
theorem filt_head (f : Nat → Bool) : ∀ n, ((List.range n).filter f)[0]? = firstN f n
  | 0 => rfl
  | n + 1 => by
    have ih := filt_head f n
    rw [List.range_succ, List.filter_append]
    unfold firstN
    cases h : firstN f n with
    | some k =>
      rw [h] at ih
      rw [List.getElem?_append_left (List.getElem?_eq_some_iff.mp ih).1]
      exact ih
    | none =>
      rw [h] at ih
      have e : (List.range n).filter f = [] := by
        cases hl : (List.range n).filter f with
        | nil => rfl
        | cons a l => rw [hl] at ih; cases ih
      rw [e]
      by_cases hf : f n = true
      · simp [hf]
      · simp [hf]
end
theorem len_Tableau_run {K : PySem.W.Frag} {g : Gs} {vs : List V} {H : Hp} {Q : VK} {E : XK} (h : sp_Tableau_run K g vs H Q E) : vs.length = 2 := by
  obtain ⟨_, _, _, _, _, _, rfl, _⟩ := h
  rfl
theorem pure_Tableau_run {K : PySem.W.Frag} {g : Gs} (C : CF K g) (vs : List V) (H : Hp) (Q : VK) (E : XK) (h : sp_Tableau_run K g vs H Q E) : t_Tableau_run K g { nx := fun _ H' => Q .non H', rt := Q } (start ["self", "number", "place", "at"] vs) H := by
  obtain ⟨wide, m, Bs, T, s, num, rfl, X, hn, hw, hm, ⟨k0, hk0⟩, hs, q⟩ := h
  refine q_asg (ev_enter X (ev_var rfl) (ev_var rfl) hn hw hm) fun A1 e1 => ?_
  refine q_while (fun k σ' A => ∃ u, Reach ⟨m, wide, wide + m, num⟩ s u ∧ TabAt g wide m Bs T u A ∧ Sx.stopsIn ⟨m, wide, wide + m, num⟩ k u ∧ ∃ w, σ' = [some (.ref T.a), some (.int num), some (optV (u.enter ⟨m, wide, wide + m, num⟩)), w]) k0 ⟨s, .refl s, X.up e1, hk0, _, rfl⟩ ?_
  rintro k σ' A ⟨u, R, XA, hk, w, rfl⟩
  refine ⟨_, et_test (ev_op (ev_var rfl) ev_c rv_notno), fun z B eB => ?_, fun z B eB => ?_⟩
  · cases hc : u.enter ⟨m, wide, wide + m, num⟩ with
    | none => rw [hc] at z; simp [optV] at z
    | some c =>
      have hcw : c < wide := (firstN_some hc).1
      have XB := XA.up eB
      have hsm := hs u R
      refine ⟨fun σ' A => ∃ k', k = k' + 1 ∧ ∃ v, u.next ⟨m, wide, wide + m, num⟩ = some v ∧ TabAt g wide m Bs T v A ∧ ∃ w, σ' = [some (.ref T.a), some (.int num), some (optV (v.enter ⟨m, wide, wide + m, num⟩)), w], ?_, ?_⟩
      · rintro σ2 A2 ⟨k', rfl, v, hv, Xv, w2, rfl⟩
        refine ⟨k', Nat.lt_succ_self _, v, .step R hv, Xv, ?_, w2, rfl⟩
        unfold Sx.stopsIn at hk
        rw [hv] at hk
        exact hk
      · refine q_asg (ev_leave XB (ev_var rfl) (ev_var rfl) hcw hw hm hsm) fun B1 e2 => ?_
        cases hl : leaveF u.t u.B (wide + m) c m with
        | none =>
          have hnx : u.next ⟨m, wide, wide + m, num⟩ = none := by
            unfold Sx.next
            rw [hc]
            dsimp only
            rw [show u.leave ⟨m, wide, wide + m, num⟩ c = none from hl]
          refine q_if (b := true) (et_is (et_test (ev_op (ev_var rfl) ev_c rv_isno)) (by simp [optV])) (fun _ B2 e3 => ?_) (fun z => nomatch z)
          refine s_ret (ev_var rfl) fun B3 e4 => ?_
          have := q u B3 R hnx (XB.up ((e2.trans e3).trans e4))
          rw [hc] at this
          exact this
        | some r =>
          have hrm := (leave_some hl).1
          refine q_when (b := false) (et_is (et_test (ev_op (ev_var rfl) ev_c rv_isno)) (by simp [optV])) (fun z => nomatch z) fun _ B2 e3 => ?_
          have X2 := XB.up (e2.trans e3)
          have hnx : u.next ⟨m, wide, wide + m, num⟩ = some (u.piv r c) := by
            unfold Sx.next
            rw [hc]
            dsimp only
            rw [show u.leave ⟨m, wide, wide + m, num⟩ c = some r from hl]
          refine q_meth (ev_var rfl) X2.ins rfl (ea_cons (ev_var rfl) (ea_cons (ev_var rfl) ea_nil)) fun B3 e4 => ⟨wide, m, Bs, T, u, r, c, rfl, X2.up e4, hrm, hcw, hw, hm, hsm, fun B4 X4 => ?_⟩
          refine s_asg (ev_enter X4 (ev_var rfl) (ev_var rfl) hn hw hm) fun B5 e5 => ?_
          obtain ⟨k', rfl⟩ : ∃ k', k = k' + 1 := by
            cases k with
            | zero =>
              unfold Sx.stopsIn at hk
              rw [hnx] at hk; cases hk
            | succ k => exact ⟨k, rfl⟩
          exact ⟨k', rfl, _, hnx, X4.up e5, _, rfl⟩
  · cases hc : u.enter ⟨m, wide, wide + m, num⟩ with
    | some c => rw [hc] at z; simp [optV] at z
    | none =>
      refine s_ret ev_c fun B2 e2 => ?_
      have := q u B2 R (by unfold Sx.next; rw [hc]) (XA.up (eB.trans e2))
      rw [hc] at this
      exact this
end TW
namespace TW
open PySem L2 Evl RS RZ TN
section
variable {K : PySem.W.Frag} {g : Gs} {σ : L2.St} {H H' A B Bs : Hp} {te ta tb tv to ti : TE} {taa : TA} {tz : TS} {D : Ends} {v y : V} {φ : V → Hp → Prop} {χ : Addr → Hp → Prop} {wide m n w : Nat} {T : Tb} {s : Sx}
theorem map_ix {α : Type} {l : List α} {f : α → V} {i : Nat} {x : α} (h : l[i]? = some x) : atI (l.map f) (i : Int) = some (f x) := by
  have := (List.getElem?_eq_some_iff.mp h).1
  unfold atI
  rw [List.length_map, ixN_nat this]
  show (l.map f)[i]? = _
  rw [List.getElem?_map, h] <;> rfl
theorem ev_lenK {p : Addr} {xs : List V} (hp : H p = some (.lst xs)) (h : Ev te σ H (.ref p)) : Ev (tCB (rLn K) (tCons te tNil)) σ H (.int (xs.length : Int)) := ev_lenL h (sq_of hp)
theorem ei_rg (h : EvA taa σ H [.int (n : Int)]) (h1 : n ≤ 40000) : EvI (iRng1 taa) σ H Ex n (fun i x _ => x = .int (i : Int)) := by
  have := ei_range h (by omega) (by omega)
  rw [Int.toNat_natCast] at this
  exact this.weak fun _ _ _ => trivial
theorem sgn_cases (x : Int) : sgn x = 1 ∧ 0 ≤ x ∨ sgn x = -1 ∧ x < 0 := by
  unfold sgn
  split
  · exact .inr ⟨rfl, by assumption⟩
  · exact .inl ⟨rfl, by omega⟩
theorem small_flip {r : Nat} {q : Int} (h : Small wide m s) (hq : q = 1 ∨ q = -1) : Small wide m ⟨flipF s.t r q, s.d, s.B⟩ := by
  obtain ⟨h1, h2, h3⟩ := h
  refine ⟨h1, h2, fun i hi j hj => ?_⟩
  show Bits 4000 (if i = r then q * s.t r j else s.t i j)
  by_cases e : i = r
  · subst e
    rw [if_pos rfl]
    rcases hq with rfl | rfl
    · rw [Int.one_mul]; exact h3 i hi j hj
    · rw [Int.neg_mul, Int.one_mul]; exact (h3 i hi j hj).neg
  · rw [if_neg e]; exact h3 i hi j hj
end
theorem len_Tableau_clear {K : PySem.W.Frag} {g : Gs} {vs : List V} {H : Hp} {Q : VK} {E : XK} (h : sp_Tableau_clear K g vs H Q E) : vs.length = 1 := by
  obtain ⟨_, _, _, _, _, rfl, _⟩ := h
  rfl
theorem pure_Tableau_clear {K : PySem.W.Frag} {g : Gs} (C : CF K g) (vs : List V) (H : Hp) (Q : VK) (E : XK) (h : sp_Tableau_clear K g vs H Q E) : t_Tableau_clear K g { nx := fun _ H' => Q .non H', rt := Q } (start ["self", "at", "places", "place", "item"] vs) H := by
  obtain ⟨wide, m, Bs, T, s, rfl, X, hw, hm, hs, q⟩ := h
  refine s_for (ei_range (ea_cons (ev_many C X (ev_var rfl)) ea_nil) (by omega) (by omega)) (fun A1 i σ' A => TabAt g wide m Bs T (s.clears wide i) A ∧ ∃ u1 u2 u3 u4, σ' = [some (.ref T.a), u1, u2, u3, u4]) (fun A e => ⟨X.up e, _, _, _, _, rfl⟩) (fun _ _ _ _ _ _ _ => trivial) (fun A i σ' B x B2 e hi p e3 it => ?_) fun A σ' B e p => ?_
  · obtain ⟨XB, u1, u2, u3, u4, rfl⟩ := p
    rw [Int.toNat_natCast] at hi
    subst it
    have hsm := hs i (by omega)
    have cl : s.clears wide (i + 1) = (s.clears wide i).clear1 wide i := rfl
    generalize s.clears wide i = u at *
    refine pt_name _ fun B3 e4 => ?_
    have X3 := XB.up (e3.trans e4)
    refine s_when (et_test (ev_op (ev_base C X3 (ev_var rfl) (ev_var rfl) hi) (ev_wide C X3 (ev_var rfl)) rv_I0)) (fun z B4 e5 => ?_) fun z B4 e5 => ⟨?_, _, _, _, _, rfl⟩
    · have hwB : wide ≤ u.B i := by have := of_decide_eq_true z; omega
      have X4 := X3.up e5
      refine q_asgL (el_lcV (n := wide) (ei_rg (ea_cons (ev_wide C X4 (ev_var rfl)) ea_nil) (by omega)) (by omega) (fun j => decide (u.t i j ≠ 0)) (fun j => .int (j : Int)) fun j x A5 e6 hj it => ?_) fun p B5 hp e6 hP => ?_
      · subst it
        exact ⟨_, pt_name, rfl, et_is (et_test (ev_op (ev_cell C (X4.up e6) (i := i) (j := j) (ev_var rfl) (ev_var rfl) (ev_var rfl) (by omega) (by omega)) ev_c (rv_ne rfl))) (by rw [int_eq]; simp), fun _ => ev_var rfl⟩
      have X5 := X4.up e6
      have hh := filt_head (fun j => decide (u.t i j ≠ 0)) wide
      refine s_when (et_test (ev_op (ev_lenK hP (ev_var rfl)) ev_c rv_I0)) (fun z B6 e7 => ?_) fun z B6 e7 => ⟨?_, _, _, _, _, rfl⟩
      · have z : (0 : Int) < ((kept_ wide (fun j => decide (u.t i j ≠ 0)) fun j => .int (j : Int)).length : Int) := of_decide_eq_true z
        obtain ⟨c, hc⟩ : ∃ c, ((List.range wide).filter fun j => decide (u.t i j ≠ 0))[0]? = some c := by
          refine ⟨_, List.getElem?_eq_getElem ?_⟩
          unfold kept_ at z
          rw [List.length_map] at z
          omega
        rw [hc] at hh
        have hcw : c < wide := (firstN_some hh.symm).1
        have X6 := X5.up e7
        have hP6 := e7 p _ hP
        have first : ∀ {σ : L2.St} {A : Hp} {te : TE}, Ex B6 A → Ev te σ A (.ref p) → Ev (tOp (rIxL K) te (tC (.int 0))) σ A (.int (c : Int)) := fun e h => ev_op h ev_c (rv_ixL (sq_of (e p _ hP6)) (by
          have := map_ix (f := fun j : Nat => V.int (j : Int)) hc
          exact this))
        have un : u.clear1 wide i = Sx.piv ⟨flipF u.t i (sgn (u.t i c)), u.d, u.B⟩ i c := by
          unfold Sx.clear1
          rw [if_pos hwB, ← hh]
        rw [un] at cl
        have go : ∀ {A : Hp} {u3 u4 : Option V}, TabAt g wide m Bs T ⟨flipF u.t i (sgn (u.t i c)), u.d, u.B⟩ A → A p = some (.lst (kept_ wide (fun j => decide (u.t i j ≠ 0)) fun j => .int (j : Int))) →
            ∀ (N : Ends), (∀ A2 u1 u2 u3 u4, TabAt g wide m Bs T (s.clears wide (i + 1)) A2 → N.nx [some (.ref T.a), u1, u2, u3, u4] A2) → tDrop (tMeth g.T "step" (sp_Tableau_step K g) [] E0 (tVar 0) (tCons (tVar 1) (tCons (tOp (rIxL K) (tVar 2) (tC (.int 0))) tNil))) N [some (.ref T.a), some (.int (i : Int)), some (.ref p), u3, u4] A := by
          intro A u3 u4 XA hPA N hN
          refine s_meth (ev_var rfl) XA.ins rfl (ea_cons (ev_var rfl) (ea_cons (ev_op (ev_var rfl) ev_c (rv_ixL (sq_of hPA) (map_ix (f := fun j : Nat => V.int (j : Int)) hc))) ea_nil)) fun A2 e2 => ⟨wide, m, Bs, T, _, i, c, rfl, XA.up e2, hi, hcw, hw, hm, small_flip hsm (by unfold sgn; split <;> simp), fun A3 X3 => hN A3 _ _ _ _ (by rw [cl]; exact X3)⟩
        refine q_if (et_test (ev_op (ev_cell C X6 (i := i) (j := c) (ev_var rfl) (ev_var rfl) (first (Ex.refl _) (ev_var rfl)) (by omega) (by omega)) ev_c rv_I0)) (fun z2 B7 e8 => ?_) fun z2 B7 e8 => ?_
        · have z2 : u.t i c < 0 := of_decide_eq_true z2
          have X7 := X6.up e8
          have hP7 := e8 p _ hP6
          obtain ⟨out, ho1, ho2, _⟩ := id X7.rows
          obtain ⟨ro, hro, _, _, ho⟩ := ev_line C X7 (te := tVar 0) (ti := tVar 1) (i := i) (σ := [some (.ref T.a), some (.int (i : Int)), some (.ref p), u3, u4]) (ev_var rfl) (ev_var rfl) (by omega)
          have hneg : EvL (tLc (iList K (tOp (rIxL K) (tFld K (tVar 0) "lines") (tVar 1))) (gName 4) tYes (tUn rNegI (tVar 4)) [4]) [some (.ref T.a), some (.int (i : Int)), some (.ref p), u3, u4] B7 ((List.range (row (wide + m + 1) (u.t i)).length).map fun j => V.int (-(u.t i j))) :=
            el_lcA ((ei_list ho (sq_of hro)).weak fun _ _ e => ex_ll e) (by rw [row_len]; omega) _ fun j x A e hj it => by
              rw [row_len] at hj
              rw [row_at hj] at it
              obtain rfl := Option.some.inj it
              exact ⟨_, pt_name, rfl, ev_un (ev_var rfl) ru_neg⟩
          rw [row_len] at hneg
          refine sl_setL ho1 hneg (ev_lines C X7 (ev_var rfl)) (ev_var rfl) (by rw [List.length_map, ho2]; omega) fun p2 B8 hp2 e9 h9 => ?_
          have hpne : p ≠ T.aL := by
            rintro rfl
            obtain ⟨out0, ho0, _⟩ := X4.rows
            rw [hp] at ho0
            cases ho0
          refine go ((X7.line (i := i) e9 hp2 h9 ho1).ext rfl (fun x hx j hj => ?_) fun _ _ => rfl) (by rw [upd_ne hpne]; exact e9 p _ hP7) _ fun A2 u1 u2 u3 u4 XA => ⟨XA, _, _, _, _, rfl⟩
          show (if x = i then (fun j => -(u.t i j)) else u.t x) j = (if x = i then sgn (u.t i c) * u.t i j else u.t x j)
          rcases sgn_cases (u.t i c) with ⟨s1, s2⟩ | ⟨s1, s2⟩
          · omega
          · rw [s1]
            split
            · show -(u.t i j) = _
              omega
            · rfl
        · have z2 : ¬ u.t i c < 0 := of_decide_eq_false z2
          refine go ((X6.up e8).ext rfl (fun x hx j hj => ?_) fun _ _ => rfl) (e8 p _ hP6) _ fun A2 u1 u2 u3 u4 XA => ⟨XA, _, _, _, _, rfl⟩
          show u.t x j = (if x = i then sgn (u.t i c) * u.t i j else u.t x j)
          rcases sgn_cases (u.t i c) with ⟨s1, s2⟩ | ⟨s1, s2⟩
          · rw [s1]
            split
            · rename_i hxi; rw [hxi]; omega
            · rfl
          · omega
      · have z : ¬ (0 : Int) < ((kept_ wide (fun j => decide (u.t i j ≠ 0)) fun j => .int (j : Int)).length : Int) := of_decide_eq_false z
        have : u.clear1 wide i = u := by
          unfold Sx.clear1
          rw [if_pos hwB]
          have h0 : ((List.range wide).filter fun j => decide (u.t i j ≠ 0))[0]? = none := by
            refine List.getElem?_eq_none ?_
            unfold kept_ at z
            rw [List.length_map] at z
            omega
          rw [h0] at hh
          rw [← hh]
        rw [cl, this]
        exact X5.up e7
    · have z : ¬ (wide : Int) ≤ (u.B i : Int) := of_decide_eq_false z
      have : u.clear1 wide i = u := by
        unfold Sx.clear1
        rw [if_neg (by omega)]
      rw [cl, this]
      exact X3.up e5
  · obtain ⟨XB, u1, u2, u3, u4, rfl⟩ := p
    rw [Int.toNat_natCast] at XB
    exact q B XB
end TW
namespace TW
open PySem L2 Evl RS RZ TN
section
variable {K : PySem.W.Frag} {g : Gs} {σ : L2.St} {H H' A B Bs : Hp} {te ta tb tv to ti : TE} {taa : TA} {tz : TS} {D : Ends} {v y : V} {φ : V → Hp → Prop} {χ : Addr → Hp → Prop} {wide m n w : Nat} {T : Tb} {s : Sx}
theorem ef_repP {k : Nat} (h : EvP ta σ H φ) (up : Up φ) (h2 : ∀ A, Ex H A → Ev tb σ A (.int (k : Int))) (hk : k ≤ 40000) : EvF (tOp rRep (tLst (tCons ta tNil)) tb) σ H fun p A => ∃ x, φ x A ∧ A p = some (.lst (List.replicate k x)) := fun H1 e Q q =>
  h H1 e _ fun x H2 e2 hx => ⟨sz_of (by simp), fun p hp => by
    have e3 : Ex H2 (upd H2 p (.lst [x])) := Ex.new hp
    refine h2 H2 (e.trans e2) _ e3 _ fun H4 e4 => ⟨p, (k : Int), [x], rfl, rfl, e4 p _ upd_same, by omega, by omega, sz_of (by simp; omega), fun l hl => ?_⟩
    rw [Int.toNat_natCast, flat_rep]
    have eN : Ex H4 (upd H4 l (.lst (List.replicate k x))) := Ex.new hl
    exact q l _ (fresh_back ((e2.trans e3).trans e4) hl) (((e2.trans e3).trans e4).trans eN) ⟨x, up _ _ _ ((e3.trans e4).trans eN) hx, upd_same⟩⟩
/-- o[i] = something known -/
theorem sk_setL {l : Addr} {xs : List V} {j : Nat} (hl : H l = some (.lst xs)) (h : EvP te σ H φ) (up : Up φ) (ho : Ev ta σ H (.ref l)) (hi : Ev tb σ H (.int (j : Int))) (hj : j < xs.length) (k : ∀ v H1, Ex H H1 → H1 l = some (.lst xs) → φ v H1 → D.nx σ (upd H1 l (.lst (xs.set j v)))) :
    tAsg te (gSub ta tb rSetL) D σ H := h H (Ex.refl H) _ fun v H1 e1 hv => ho H1 e1 _ fun H2 e2 => hi H2 (e1.trans e2) _ fun H3 e3 =>
  ⟨l, xs, (j : Int), j, rfl, rfl, ((e1.trans e2).trans e3) l _ hl, ixN_nat hj, k v H3 ((e1.trans e2).trans e3) (((e1.trans e2).trans e3) l _ hl) (up _ _ _ (e2.trans e3) hv)⟩
/-- xs.append(something known) -/
theorem sk_app {l : Addr} {xs : List V} (hl : H l = some (.lst xs)) (ho : Ev ta σ H (.ref l)) (h : EvP te σ H φ) (hz : xs.length < 100000) (k : ∀ v H1, Ex H H1 → H1 l = some (.lst xs) → φ v H1 → D.nx σ (upd H1 l (.lst (xs ++ [v])))) :
    tDrop (tBM K "list" rAppend ta (tCons te tNil)) D σ H := ho H (Ex.refl H) _ fun H1 e1 => ⟨.inl ⟨rfl, xs, sq_of (e1 l _ hl)⟩, h H1 e1 _ fun v H2 e2 hv => ⟨l, xs, v, rfl, rfl, (e1.trans e2) l _ hl, sz_lt hz, k v H2 (e1.trans e2) ((e1.trans e2) l _ hl) hv⟩⟩
theorem fr_zero {d : Int} (hd : 0 < d) : fr 0 d = (0, 1) := by
  unfold fr
  rw [Int.gcd_zero_left, Int.zero_ediv, Int.natAbs_of_nonneg (Int.le_of_lt hd), Int.ediv_self (by omega)]
theorem fracs_tup {p : Addr} {xs : List V} {f : Nat → Int × Int} (h : Ev te σ H (.ref p)) (ho : H p = some (.lst xs)) (hz : xs.length = n) (hi : ∀ (i : Nat) x, xs[i]? = some x → FrAt K (f i) x H) : EvP (tCB (rTupOf K) (tCons te tNil)) σ H (FrsT K n f) :=
  (eu_ep (eu_tupV (K := K) h ho)).imp fun v A e ⟨q, hv, hq⟩ => ⟨q, xs, hv, st_of hq, hz, fun i x hx => frAt_st _ _ _ _ (ex_loose e) (hi i x hx)⟩
theorem ep_frac {x d : Int} (h : Ev ta σ H (.int x)) (h2 : Ev tb σ H (.int d)) (hd : 0 < d) (hb : Bits 8900 d) : EvP (tCall (sp_fraction K g) [] E0 (tCons ta (tCons tb tNil))) σ H (FrAt K (fr x d)) :=
  ep_call (ea_cons h (ea_cons h2 ea_nil)) fun H1 e Q q E => ⟨x, d, rfl, hd, hb, q⟩
end
theorem len_Tableau_wanted {K : PySem.W.Frag} {g : Gs} {vs : List V} {H : Hp} {Q : VK} {E : XK} (h : sp_Tableau_wanted K g vs H Q E) : vs.length = 1 := by
  obtain ⟨_, _, _, _, _, rfl, _⟩ := h
  rfl
theorem pure_Tableau_wanted {K : PySem.W.Frag} {g : Gs} (C : CF K g) (vs : List V) (H : Hp) (Q : VK) (E : XK) (h : sp_Tableau_wanted K g vs H Q E) : t_Tableau_wanted K g { nx := fun _ H' => Q .non H', rt := Q } (start ["self", "found", "at"] vs) H := by
  obtain ⟨wide, m, Bs, T, s, rfl, X, hw1, hw, hm, ⟨hd, hbd, hb⟩, inj, q⟩ := h
  refine qf_asg (ef_repP (φ := FrAt K (0, 1)) ((eu_ep (eu_tup (ea_cons ev_c (ea_cons ev_c ea_nil)) (by simp))).imp fun v A e ⟨p, h1, h2⟩ => ⟨p, h1, st_of h2⟩) (fun v A B e h => frAt_st _ v A B (ex_loose e) h) (fun A e => ev_wide C (X.up e) (ev_var rfl)) (by omega)) fun p A1 hp e1 ⟨x0, hx0, h1⟩ => ?_
  have X1 := X.up e1
  refine q_for (ei_range (ea_cons (ev_many C X1 (ev_var rfl)) ea_nil) (by omega) (by omega)) (fun A1 i σ' A => Ex H A ∧ (∃ xs : List V, A p = some (.lst xs) ∧ xs.length = wide ∧ ∀ (j : Nat) x, xs[j]? = some x → FrAt K (fr (S i fun k => if s.B k = j then s.t k (wide + m) else 0) s.d) x A) ∧ ∃ u, σ' = [some (.ref T.a), some (.ref p), u])
    (fun A e => ⟨e1.trans e, ⟨_, e p _ h1, by simp, fun j x hj => ?_⟩, _, rfl⟩) (fun _ _ _ _ _ _ _ => trivial) (fun A i σ' B x B2 e hi pv e3 it => ?_) fun A σ' B e pv => ?_
  · have := List.eq_of_mem_replicate (List.mem_of_getElem? hj)
    subst this
    show FrAt K (fr 0 s.d) _ A
    rw [fr_zero hd]
    exact frAt_st _ _ _ _ (ex_loose e) hx0
  · obtain ⟨p1, ⟨xs, h2, h3, h4⟩, u, rfl⟩ := pv
    rw [Int.toNat_natCast] at hi
    subst it
    refine pt_name _ fun B3 e4 => ?_
    have e34 := e3.trans e4
    have X3 := X.up (p1.trans e34)
    have keep : ∀ B4, Ex B3 B4 → ∀ (j : Nat) x, xs[j]? = some x → FrAt K (fr (S i fun k => if s.B k = j then s.t k (wide + m) else 0) s.d) x B4 := fun B4 e j x hj => frAt_st _ _ _ _ (ex_loose (e34.trans e)) (h4 j x hj)
    refine s_when (et_test (ev_op (ev_base C X3 (ev_var rfl) (ev_var rfl) hi) (ev_wide C X3 (ev_var rfl)) rv_I0)) (fun z B4 e5 => ?_) fun z B4 e5 => ⟨(p1.trans e34).trans e5, ⟨xs, e5 _ _ (e34 _ _ h2), h3, fun j x hj => ?_⟩, _, rfl⟩
    · have z : s.B i < wide := by have := of_decide_eq_true z; omega
      have X4 := X3.up e5
      obtain ⟨r, hr, _, _, hl⟩ := ev_line C X4 (te := tVar 0) (ti := tVar 2) (i := i) (σ := [some (.ref T.a), some (.ref p), some (.int (i : Int))]) (ev_var rfl) (ev_var rfl) (by omega)
      refine sk_setL (e5 _ _ (e34 _ _ h2)) (ep_frac (g := g) (ev_rowlast hr hl) (ev_bottom C X4 (ev_var rfl)) hd (hbd.mono (by decide))) (fun v A B e h => frAt_st _ v A B (ex_loose e) h) (ev_var rfl) (ev_base C X4 (ev_var rfl) (ev_var rfl) hi) (by omega) fun v B5 e6 h5 hv => ⟨?_, ⟨_, upd_same, by simp [h3], fun j x hj => ?_⟩, _, rfl⟩
      · exact (((p1.trans e34).trans e5).trans e6).mut hp
      · rw [List.getElem?_set] at hj
        by_cases e : s.B i = j
        · subst e
          rw [if_pos rfl, if_pos (by omega)] at hj
          obtain rfl := Option.some.inj hj
          have : (S (i + 1) fun k => if s.B k = s.B i then s.t k (wide + m) else 0) = s.t i (wide + m) := by
            show (S i _) + (if s.B i = s.B i then s.t i (wide + m) else 0) = _
            rw [S_zero fun k hk => if_neg fun z => by have := inj k i (by omega) hi z; omega, if_pos rfl, Int.zero_add]
          rw [this]
          exact frAt_st _ _ _ _ (loose_upd h5) hv
        · rw [if_neg e] at hj
          have : (S (i + 1) fun k => if s.B k = j then s.t k (wide + m) else 0) = S i fun k => if s.B k = j then s.t k (wide + m) else 0 := by
            show (S i _) + (if s.B i = j then s.t i (wide + m) else 0) = _
            rw [if_neg e, Int.add_zero]
          rw [this]
          exact frAt_st _ _ _ _ (loose_upd h5) (keep B5 (e5.trans e6) j x hj)
    · have z : ¬ s.B i < wide := by have := of_decide_eq_false z; omega
      have : (S (i + 1) fun k => if s.B k = j then s.t k (wide + m) else 0) = S i fun k => if s.B k = j then s.t k (wide + m) else 0 := by
        show (S i _) + (if s.B i = j then s.t i (wide + m) else 0) = _
        have hj2 := (List.getElem?_eq_some_iff.mp hj).1
        rw [if_neg (by omega), Int.add_zero]
      rw [this]
      exact keep B4 e5 j x hj
  · obtain ⟨p1, ⟨xs, h2, h3, h4⟩, u, rfl⟩ := pv
    rw [Int.toNat_natCast] at h4
    exact sp_ret (fracs_tup (f := shF wide m s) (ev_var rfl) h2 h3 h4) fun v B2 e2 hv => q v B2 (p1.trans e2) hv
theorem len_Tableau_other_side {K : PySem.W.Frag} {g : Gs} {vs : List V} {H : Hp} {Q : VK} {E : XK} (h : sp_Tableau_other_side K g vs H Q E) : vs.length = 3 := by
  obtain ⟨_, _, _, _, _, rfl, _⟩ := h
  rfl
theorem pure_Tableau_other_side {K : PySem.W.Frag} {g : Gs} (C : CF K g) (vs : List V) (H : Hp) (Q : VK) (E : XK) (h : sp_Tableau_other_side K g vs H Q E) : t_Tableau_other_side K g { nx := fun _ H' => Q .non H', rt := Q } (start ["self", "number", "less", "found", "at", "top"] vs) H := by
  obtain ⟨wide, m, Bs, T, s, rfl, X, hw, hm, ⟨hd, hbd, hb⟩, q⟩ := h
  refine q_asgL (el_lst ea_nil (by simp)) fun p A1 hp e1 h1 => ?_
  have X1 := X.up e1
  refine q_for (ei_range (ea_cons (ev_many C X1 (ev_var rfl)) ea_nil) (by omega) (by omega)) (fun A1 i σ' A => Ex H A ∧ (∃ xs : List V, A p = some (.lst xs) ∧ xs.length = i ∧ ∀ (j : Nat) x, xs[j]? = some x → FrAt K (siF wide m s j) x A) ∧ ∃ u1 u2, σ' = [some (.ref T.a), some (.int m), some (.int 0), some (.ref p), u1, u2])
    (fun A e => ⟨e1.trans e, ⟨_, e p _ h1, rfl, nofun⟩, _, _, rfl⟩) (fun _ _ _ _ _ _ _ => trivial) (fun A i σ' B x B2 e hi pv e3 it => ?_) fun A σ' B e pv => ?_
  · obtain ⟨p1, ⟨xs, h2, h3, h4⟩, u1, u2, rfl⟩ := pv
    rw [Int.toNat_natCast] at hi
    subst it
    refine pt_name _ fun B3 e4 => ?_
    have e34 := e3.trans e4
    have X3 := X.up (p1.trans e34)
    have b0 : Bits 1 0 := by unfold Bits; decide
    refine q_asg (ev_op (ev_cell C X3 (i := m) (j := wide + i) (ev_var rfl) (ev_var rfl) (ev_is (ev_op (ev_wide C X3 (ev_var rfl)) (ev_var rfl) rv_I0) (by rw [Int.natCast_add])) (by omega) (by omega)) (ev_op (ev_var rfl) (ev_bottom C X3 (ev_var rfl)) (rv_I (mulW b0 hbd (by decide)))) rv_I0) fun B4 e5 => ?_
    have X4 := X3.up e5
    have b1 : Bits 1 1 := by unfold Bits; decide
    have b2 : Bits 4001 (s.t m (wide + i) - 0 * s.d) := by rw [Int.zero_mul, Int.sub_zero]; exact (hb m (by omega) (wide + i) (by omega)).mono (by decide)
    refine sk_app (e5 _ _ (e34 _ _ h2)) (ev_var rfl) (ep_frac (g := g) (ev_op (ev_op (ev_fld (ev_var rfl) X4.ins C.T C.tS rfl) (ev_var rfl) (rv_ixL (sq_of X4.sg) (row_ix hi))) (ev_var rfl) (rv_I (mulW b1 b2 (by decide)))) (ev_bottom C X4 (ev_var rfl)) hd (hbd.mono (by decide))) (by omega) fun v B5 e6 h5 hv => ⟨?_, ⟨_, upd_same, by simp [h3], fun j x hj => ?_⟩, _, _, rfl⟩
    · exact (((p1.trans e34).trans e5).trans e6).mut hp
    · by_cases hj2 : j < xs.length
      · rw [List.getElem?_append_left hj2] at hj
        exact frAt_st _ _ _ _ (((ex_loose (e34.trans (e5.trans e6)))).trans (loose_upd h5)) (h4 j x hj)
      · rw [List.getElem?_append_right (by omega)] at hj
        have hj0 : j - xs.length = 0 := by
          have := (List.getElem?_eq_some_iff.mp hj).1
          simpa using this
        rw [hj0] at hj
        obtain rfl : v = x := by simpa using hj
        obtain rfl : j = i := by omega
        have : siF wide m s j = fr (1 * (s.t m (wide + j) - 0 * s.d)) s.d := by rw [Int.zero_mul, Int.sub_zero, Int.one_mul] <;> rfl
        rw [this]
        exact frAt_st _ _ _ _ (loose_upd h5) hv
  · obtain ⟨p1, ⟨xs, h2, h3, h4⟩, u1, u2, rfl⟩ := pv
    rw [Int.toNat_natCast] at h3
    exact sp_ret (fracs_tup (f := siF wide m s) (ev_var rfl) h2 h3 h4) fun v B2 e2 hv => q v B2 (p1.trans e2) hv
end TW
namespace TW
open PySem L2 Evl RS RZ TN
section
variable {K : PySem.W.Frag} {g : Gs} {σ : L2.St} {H H' A B Bs : Hp} {te ta tb tv to ti : TE} {taa : TA} {tz : TS} {D : Ends} {v y : V} {φ : V → Hp → Prop} {χ : Addr → Hp → Prop} {wide m n w : Nat} {T : Tb} {s : Sx}
theorem ev_lenRow {p : Addr} {f : Nat → Int} (hp : H p = some (.lst (row n f))) (h : Ev te σ H (.ref p)) : Ev (tCB (rLn K) (tCons te tNil)) σ H (.int (n : Int)) := by
  have := ev_lenL (K := K) h (sq_of hp)
  rw [row_len] at this
  exact this
theorem sum_row (f : Nat → Int) : ∀ n, ((List.range n).map f).sum = S n f
  | 0 => rfl
  | n + 1 => by
    rw [List.range_succ, List.map_append, List.sum_append, sum_row f n]
    show _ + (f n + 0) = _ + _
    rw [Int.add_zero]
theorem ev_sumRow {f : Nat → Int} (h : EvL te σ H (row n f)) : Ev (tCB (rSum K) (tCons te tNil)) σ H (.int (S n f)) := fun H1 e Q q =>
  h H1 e _ fun p H2 hp e2 ho => ⟨p, (List.range n).map f, rfl, by rw [List.map_map]; exact sq_of ho, by rw [sum_row]; exact q H2 e2⟩
theorem row_app {a b : Nat} {f : Nat → Int} : row (a + b) f = row a f ++ row b fun j => f (a + j) := by
  unfold row
  rw [List.range_add, List.map_append, List.map_map]
  rfl
theorem row_one {f : Nat → Int} {n : Nat} : row (n + 1) f = row n f ++ [.int (f n)] := by rw [row_app] <;> rfl
theorem rep_row {k : Nat} {z : Int} : List.replicate k (V.int z) = row k fun _ => z := by
  refine List.ext_getElem? fun i => ?_
  rw [List.getElem?_map]
  by_cases h : i < k
  · rw [List.getElem?_range h, List.getElem?_replicate, if_pos h] <;> rfl
  · rw [List.getElem?_eq_none (by simpa using h), List.getElem?_eq_none (by simpa using h)] <;> rfl
theorem RowsAt.snoc {a p : Addr} {f : Nat → Nat → Int} {bad : List Addr} {out : List Addr} (h : RowsAt A a n w f bad) (ha : a ∈ bad) (hp : A p = some (.lst (row w (f n)))) (hb : p ∉ bad) (ho : A a = some (.lst (out.map V.ref))) : RowsAt (upd A a (.lst (out.map V.ref ++ [.ref p]))) a (n + 1) w f bad := by
  obtain ⟨out', h1, h2, h3⟩ := h
  rw [ho] at h1
  have h1 : out.map V.ref = out'.map V.ref := by injection h1 with h1; injection h1
  rw [h1]
  refine ⟨out' ++ [p], by rw [upd_same, List.map_append] <;> rfl, by simp [h2], fun k r hk => ?_⟩
  by_cases hk2 : k < out'.length
  · rw [List.getElem?_append_left hk2] at hk
    obtain ⟨h4, h5⟩ := h3 k r hk
    exact ⟨by rw [upd_ne (fun z => h5 (by rw [z]; exact ha))]; exact h4, h5⟩
  · rw [List.getElem?_append_right (by omega)] at hk
    have hk0 : k - out'.length = 0 := by
      have := (List.getElem?_eq_some_iff.mp hk).1
      simpa using this
    rw [hk0] at hk
    obtain rfl : p = r := by simpa using hk
    obtain rfl : k = n := by omega
    exact ⟨by rw [upd_ne (fun z => hb (by rw [z]; exact ha))]; exact hp, hb⟩
theorem RowsAt.free {a p : Addr} {f : Nat → Nat → Int} {bad : List Addr} (h : RowsAt A a n w f bad) (hp : A p = none) {bad' : List Addr} (hb : ∀ r, r ∈ bad' → r ∈ bad ∨ r = p) : RowsAt A a n w f bad' := let ⟨out, h1, h2, h3⟩ := h; ⟨out, h1, h2, fun i r hi => ⟨(h3 i r hi).1, fun z => (hb r z).elim (h3 i r hi).2 fun e => by
  have := (h3 i r hi).1
  rw [e, hp] at this; cases this⟩⟩
theorem exl_of {a : Addr} {ys : List V} (h : A a = some (.lst ys)) (h' : B a = some (.lst ys)) : ExL K a A B := fun xs k => by
  rcases k with (k | ⟨o, k⟩) | k
  · rw [h] at k; injection k with k; injection k with k; subst k; exact sq_of h'
  · rw [h] at k; cases k
  · exact .inr k
theorem exX_base {x : Addr} (e : Ex Bs H) (h : Bs x = none) (e' : ExX x H B) : Ex Bs B := fun b o hb => e' b o (by rintro rfl; rw [h] at hb; cases hb) (e b o hb)
theorem qx_fld {C a dx : Addr} {fs : List (Str × V)} {f : Str} (hv : Ev tv σ H y) (ho : Ev to σ H (.ref a)) (hi : H a = some (.ins C dx fs)) (c : Cls K C) (n : NoAttr K C f) (hl : fs.length < 1000)
    (k : ∀ B, ExX a H B → B a = some (.ins C dx (putF f y fs)) → tz D σ B) : tSeq (sFld K to tv f) tz D σ H := q_fld hv ho hi c n hl fun H1 e => k _ (exX_of e) upd_same
theorem qxl_fld {C a dx : Addr} {fs : List (Str × V)} {f : Str} {xs : List V} (hv : EvL tv σ H xs) (ho : Ev to σ H (.ref a)) (hi : H a = some (.ins C dx fs)) (c : Cls K C) (n : NoAttr K C f) (hl : fs.length < 1000)
    (k : ∀ p B, H p = none → ExX a H B → B a = some (.ins C dx (putF f (.ref p) fs)) → B p = some (.lst xs) → tz D σ B) : tSeq (sFld K to tv f) tz D σ H :=
  qf_fld (ep_l hv) ho hi c n hl (fun p A B e h => e _ _ h) fun p H1 hp e h1 => k p _ hp (exX_of e) upd_same (by rw [upd_ne (by rintro rfl; rw [hi] at hp; cases hp)]; exact h1)
theorem sx_app {l : Addr} {xs ys : List V} (hl : H l = some (.lst xs)) (ho : Ev ta σ H (.ref l)) (h : EvL te σ H ys) (hz : xs.length < 100000) (k : ∀ p B, H p = none → ExX l H B → B l = some (.lst (xs ++ [.ref p])) → B p = some (.lst ys) → D.nx σ B) :
    tDrop (tBM K "list" rAppend ta (tCons te tNil)) D σ H := ho H (Ex.refl H) _ fun H1 e1 => ⟨.inl ⟨rfl, xs, sq_of (e1 l _ hl)⟩, h H1 e1 _ fun p H2 hp e2 hv => ⟨l, xs, .ref p, rfl, rfl, (e1.trans e2) l _ hl, sz_lt hz,
      k p _ (fresh_back e1 hp) (exX_of (e1.trans e2)) upd_same (by rw [upd_ne (by rintro rfl; rw [e1 _ _ hl] at hp; cases hp)]; exact hv)⟩⟩
theorem sx_appV {l : Addr} {xs : List V} (hl : H l = some (.lst xs)) (ho : Ev ta σ H (.ref l)) (h : Ev te σ H v) (hz : xs.length < 100000) (k : ∀ B, ExX l H B → B l = some (.lst (xs ++ [v])) → D.nx σ B) :
    tDrop (tBM K "list" rAppend ta (tCons te tNil)) D σ H := ho H (Ex.refl H) _ fun H1 e1 => ⟨.inl ⟨rfl, xs, sq_of (e1 l _ hl)⟩, h H1 e1 _ fun H2 e2 => ⟨l, xs, v, rfl, rfl, (e1.trans e2) l _ hl, sz_lt hz, k _ (exX_of (e1.trans e2)) upd_same⟩⟩
theorem qx_appV {l : Addr} {xs : List V} (hl : H l = some (.lst xs)) (ho : Ev ta σ H (.ref l)) (h : Ev te σ H v) (hz : xs.length < 100000) (k : ∀ B, ExX l H B → B l = some (.lst (xs ++ [v])) → tz D σ B) :
    tSeq (tDrop (tBM K "list" rAppend ta (tCons te tNil))) tz D σ H := sx_appV (D := { D with nx := tz D }) hl ho h hz k
theorem RowsAt.exX {a b : Addr} {f : Nat → Nat → Int} {bad : List Addr} (h : RowsAt A a n w f bad) (e : ExX b A B) (hab : a ≠ b) (hb : b ∈ bad ∨ ∀ xs, A b ≠ some (.lst xs)) : RowsAt B a n w f bad := by
  obtain ⟨out, h1, h2, h3⟩ := h
  refine ⟨out, e _ _ hab h1, h2, fun i r hi => ?_⟩
  obtain ⟨h4, h5⟩ := h3 i r hi
  refine ⟨e _ _ ?_ h4, h5⟩
  rintro rfl
  rcases hb with hb | hb
  · exact h5 hb
  · exact hb _ h4
theorem RowsAt.snocX {a p : Addr} {f : Nat → Nat → Int} {bad : List Addr} {xs : List V} (h : RowsAt A a n w f bad) (ha : a ∈ bad) (e : ExX a A B) (hx : A a = some (.lst xs)) (ho : B a = some (.lst (xs ++ [.ref p]))) (hp : B p = some (.lst (row w (f n)))) (hb : p ∉ bad) : RowsAt B a (n + 1) w f bad := by
  obtain ⟨out', h1, h2, h3⟩ := h
  rw [hx] at h1
  have h1 : xs = out'.map V.ref := by injection h1 with h1; injection h1
  subst h1
  refine ⟨out' ++ [p], by rw [ho, List.map_append] <;> rfl, by simp [h2], fun k r hk => ?_⟩
  by_cases hk2 : k < out'.length
  · rw [List.getElem?_append_left hk2] at hk
    obtain ⟨h4, h5⟩ := h3 k r hk
    exact ⟨e _ _ (fun z => h5 (by rw [z]; exact ha)) h4, h5⟩
  · rw [List.getElem?_append_right (by omega)] at hk
    have hk0 : k - out'.length = 0 := by
      have := (List.getElem?_eq_some_iff.mp hk).1
      simpa using this
    rw [hk0] at hk
    obtain rfl : p = r := by simpa using hk
    obtain rfl : k = n := by omega
    exact ⟨hp, hb⟩
end
theorem len_Tableau_init {K : PySem.W.Frag} {g : Gs} {vs : List V} {H : Hp} {Q : VK} {E : XK} (h : sp_Tableau_init K g vs H Q E) : vs.length = 4 := by
  obtain ⟨_, _, _, _, _, _, _, _, _, _, _, rfl, _⟩ := h
  rfl
theorem pure_Tableau_init {K : PySem.W.Frag} {g : Gs} (C : CF K g) (vs : List V) (H : Hp) (Q : VK) (E : XK) (h : sp_Tableau_init K g vs H Q E) : t_Tableau_init K g { nx := fun _ H' => Q .non H', rt := Q } (start ["self", "rows", "amounts", "worths", "at", "row", "helpers", "line", "gains", "lacks", "amount", "other", "worth", "place", "item"] vs) H := by
  obtain ⟨x, dx, a, b, c, wide, m, rows, amt, w, Bs, rfl, hx, eB, hBx, hw, hm, hR, hb, hc, h0, hb1, hb2, q⟩ := h
  obtain ⟨ra, hra, hral, hrr⟩ := id hR
  refine qx_fld (ev_lenRow (eB _ _ hc) (ev_var rfl)) (ev_var rfl) hx C.T C.tW (by decide) fun B1 e1 hx1 => ?_
  have eB1 := exX_base eB hBx e1
  have hx1 : B1 x = some (.ins g.T dx [("wide", .int wide)]) := hx1
  refine qx_fld (y := .int (m : Int)) (ev_is (ev_lenL (ev_var rfl) (sq_of (eB1 _ _ hra))) (by rw [List.length_map, hral])) (ev_var rfl) hx1 C.T C.tM (by simp) fun B2 e2 hx2 => ?_
  have eB2 := exX_base eB1 hBx e2
  have hx2 : B2 x = some (.ins g.T dx [("wide", .int wide), ("many", .int m)]) := hx2
  have hsg : EvL (tLc (iList K (tVar 2)) (gName 10) tYes (tIf (tTest (tOp rLtI (tVar 10) (tC (.int 0)))) (tUn rNegI (tC (.int 1))) (tC (.int 1))) [10]) _ B2 _ :=
    el_lcA (σ := [some (.ref x), some (.ref a), some (.ref b), some (.ref c), none, none, none, none, none, none, none, none, none, none, none]) ((ei_list (ev_var rfl) (sq_of (eB2 _ _ hb))).weak fun _ _ e => ex_ll e) (by rw [row_len]; omega) (fun _ => .int 1) fun i y A e hi it => by
      rw [row_len] at hi
      rw [row_at hi] at it
      obtain rfl := Option.some.inj it
      exact ⟨_, pt_name, rfl, ev_if (b := false) (et_is (et_test (ev_op (ev_var rfl) ev_c rv_I0)) (decide_eq_false (by have := h0 i hi; omega))) (fun z => nomatch z) fun _ => ev_c⟩
  rw [row_len] at hsg
  refine qxl_fld hsg (ev_var rfl) hx2 C.T C.tS (by simp) fun aS B3 fS e3 hx3 hS => ?_
  have eB3 := exX_base eB2 hBx e3
  have hx3 : B3 x = some (.ins g.T dx [("wide", .int wide), ("many", .int m), ("signs", .ref aS)]) := hx3
  refine qxl_fld (el_lst ea_nil (by simp)) (ev_var rfl) hx3 C.T C.tL (by simp) fun aL B4 fL e4 hx4 hL => ?_
  have eB4 := exX_base eB3 hBx e4
  have neS : aS ≠ x := by rintro rfl; rw [hx2] at fS; cases fS
  have neL : aL ≠ x := by rintro rfl; rw [hx3] at fL; cases fL
  have SL : aS ≠ aL := by rintro rfl; rw [hS] at fL; cases fL
  have hS4 := e4 _ _ neS hS
  have BL : Bs aL = none := fresh_back eB3 fL
  have hx4 : B4 x = some (.ins g.T dx [("wide", .int wide), ("many", .int m), ("signs", .ref aS), ("lines", .ref aL)]) := hx4
  refine q_for (ei_enumL (ea_cons (ev_var rfl) ea_nil) (sq_of (eB4 _ _ hra))) (fun A1 i σ' A => Ex Bs A ∧ A x = some (.ins g.T dx [("wide", .int wide), ("many", .int m), ("signs", .ref aS), ("lines", .ref aL)]) ∧ A aS = some (.lst (row m fun _ => 1)) ∧
      RowsAt A aL i (wide + m + 1) (A0 rows wide m amt w) [aL] ∧ ∃ u4 u5 u6 u7 u11 u14, σ' = [some (.ref x), some (.ref a), some (.ref b), some (.ref c), u4, u5, u6, u7, none, none, none, u11, none, none, u14])
    (fun A e => ⟨eB4.trans e, e _ _ hx4, e _ _ hS4, ⟨[], e _ _ hL, rfl, nofun⟩, _, _, _, _, _, _, rfl⟩) (fun A i σ' A' e _ p => exl_of (e _ _ (eB4 _ _ hra)) (p.1 _ _ hra)) (fun A i σ' B x B2 e hi pv e3 it => ?_) fun A σ' B e pv => ?_
  · obtain ⟨pB, px, pS, pR, u4, u5, u6, u7, u11, u14, rfl⟩ := pv
    obtain ⟨T', y, rfl, hT, hy⟩ := it
    rw [List.length_map, hral] at hi
    have pB2 := pB.trans e3
    obtain ⟨r, hr⟩ : ∃ r, ra[i]? = some r := ⟨_, List.getElem?_eq_getElem (by omega)⟩
    rw [List.getElem?_map, hr] at hy
    obtain rfl := Option.some.inj hy
    have hrow := (hrr i r hr).1
    refine pt_two (st_of hT) _ fun B3 e4 => ?_
    have pB3 := pB2.trans e4
    have px3 := (e3.trans e4) _ _ px
    have pS3 := (e3.trans e4) _ _ pS
    have pR3 := pR.up (e3.trans e4)
    have l1 : EvL (tLc (iRng1 (tCons (tFld K (tVar 0) "many") tNil)) (gName 11) tYes (tCB rInt1 (tCons (tOp rEq (tVar 4) (tVar 11)) tNil)) [11]) [some (.ref x), some (.ref a), some (.ref b), some (.ref c), some (.int (i : Int)), some (.ref r), u6, u7, none, none, none, u11, none, none, u14] B3 (row m fun j => if i = j then 1 else 0) :=
      el_lcA (ei_rg (ea_cons (ev_fld (ev_var rfl) px3 C.T C.tM rfl) ea_nil) (by omega)) (by omega) _ fun j y A e hj it => by
        subst it
        refine ⟨_, pt_name, rfl, ev_cb (ea_cons (ev_op (ev_var rfl) (ev_var rfl) (rv_eq rfl)) ea_nil) fun H1 e1 Q q => .inr ⟨_, rfl, ?_⟩⟩
        rw [int_eq]
        have : (if decide ((i : Int) = (j : Int)) = true then (1 : Int) else 0) = if i = j then 1 else 0 := by
          by_cases h : i = j
          · subst h; simp
          · rw [if_neg h, if_neg (by simp; omega)]
        rw [this]
        exact q H1 (Ex.refl H1)
    refine q_asgL l1 fun p1 B4 f1 e5 h1 => ?_
    have px4 := e5 _ _ px3
    have pS4 := e5 _ _ pS3
    have b1 : Bits 1 1 := by unfold Bits; decide
    have l2 : EvL (tLc (iList K (tVar 5)) (gName 14) tYes (tOp rMulI (tOp (rIxL K) (tFld K (tVar 0) "signs") (tVar 4)) (tVar 14)) [14]) [some (.ref x), some (.ref a), some (.ref b), some (.ref c), some (.int (i : Int)), some (.ref r), some (.ref p1), u7, none, none, none, u11, none, none, u14] B4 ((List.range (row wide (rows i)).length).map fun j => V.int (1 * rows i j)) :=
      el_lcA ((ei_list (ev_var rfl) (sq_of ((pB3.trans e5) _ _ hrow))).weak fun _ _ e => ex_ll e) (by rw [row_len]; omega) _ fun j y A e hj it => by
        rw [row_len] at hj
        rw [row_at hj] at it
        obtain rfl := Option.some.inj it
        exact ⟨_, pt_name, rfl, ev_op (ev_op (ev_fld (ev_var rfl) (e _ _ px4) C.T C.tS rfl) (ev_var rfl) (rv_ixL (sq_of (e _ _ pS4)) (row_ix hi))) (ev_var rfl) (rv_I (mulW b1 (hb2 i hi j hj) (by decide)))⟩
    rw [row_len] at l2
    refine q_asgL (el_catL l2 (ev_var rfl) h1 (by rw [row_len, row_len]; omega)) fun p2 B5 f2 e6 h2 => ?_
    have px5 := e6 _ _ px4
    have pS5 := e6 _ _ pS4
    have pB5 := (pB3.trans e5).trans e6
    have pR5 := pR3.up (e5.trans e6)
    obtain ⟨out, ho1, ho2, ho3⟩ := id pR5
    refine sx_app ho1 (ev_fld (ev_var rfl) px5 C.T C.tL rfl) (el_catR (ev_var rfl) h2 (el_lst (ea_cons (ev_op (ev_op (ev_fld (ev_var rfl) px5 C.T C.tS rfl) (ev_var rfl) (rv_ixL (sq_of pS5) (row_ix hi))) (ev_op (ev_var rfl) (ev_var rfl) (rv_ixL (sq_of (pB5 _ _ hb)) (row_ix hi))) (rv_I (mulW b1 (hb1 i hi) (by decide)))) ea_nil) (by simp)) (by rw [List.length_append, row_len, row_len]; simp; omega)) (by rw [List.length_map]; omega) fun p B6 fp e7 h6 hp => ⟨exX_base pB5 BL e7, e7 _ _ neL.symm px5, e7 _ _ SL pS5, pR5.snocX List.mem_cons_self e7 ho1 h6 ?_ (by rw [List.mem_singleton]; rintro rfl; rw [ho1] at fp; cases fp), _, _, _, _, _, _, rfl⟩
    have a1 : row wide (fun j => 1 * rows i j) = row wide (A0 rows wide m amt w i) := row_ext fun j hj => by
      rw [Int.one_mul, A0_rows hi hj]
    have a2 : row m (fun j => if i = j then (1 : Int) else 0) = row m fun j => A0 rows wide m amt w i (wide + j) := row_ext fun j hj => by
      rw [A0_help hi (by omega) (by omega), Nat.add_sub_cancel_left]
    have a3 : 1 * amt i = A0 rows wide m amt w i (wide + m) := by
      rw [Int.one_mul, A0_amt hi]
    rw [hp, row_one, row_app, ← a1, ← a2, ← a3]
  · obtain ⟨pB, px, pS, pR, u4, u5, u6, u7, u11, u14, rfl⟩ := pv
    rw [List.length_map, hral] at pR
    refine qxl_fld (xs := row m fun j => (wide : Int) + j) (el_lcA (ei_rg (ea_cons (ev_fld (ev_var rfl) px C.T C.tM rfl) ea_nil) (by omega)) (by omega) _ fun j y A e hj it => by
      subst it
      exact ⟨_, pt_name, rfl, ev_op (ev_fld (ev_var rfl) (e _ _ px) C.T C.tW rfl) (ev_var rfl) rv_I0⟩) (ev_var rfl) px C.T C.tB (by simp) fun aB B5 fB e5 hx5 hB => ?_
    have hx5 : B5 x = some (.ins g.T dx [("wide", .int wide), ("many", .int m), ("signs", .ref aS), ("lines", .ref aL), ("base", .ref aB)]) := hx5
    have eB5 := exX_base pB hBx e5
    have neB : aB ≠ x := by rintro rfl; rw [px] at fB; cases fB
    have SB : aS ≠ aB := by rintro rfl; rw [pS] at fB; cases fB
    have LB : aL ≠ aB := by rintro rfl; obtain ⟨o0, ho0, _⟩ := pR; rw [ho0] at fB; cases fB
    have BB : Bs aB = none := fresh_back pB fB
    have pS5 := e5 _ _ neS pS
    have pR5 : RowsAt B5 aL m (wide + m + 1) (A0 rows wide m amt w) [aL, aB] := (pR.free fB (bad' := [aL, aB]) (by simp)).exX e5 neL (.inr fun xs z => by rw [px] at z; cases z)
    refine qx_fld ev_c (ev_var rfl) hx5 C.T C.tD (by simp) fun B6 e6 hx6 => ?_
    have hx6 : B6 x = some (.ins g.T dx [("wide", .int wide), ("many", .int m), ("signs", .ref aS), ("lines", .ref aL), ("base", .ref aB), ("bottom", .int 1)]) := hx6
    have eB6 := exX_base eB5 hBx e6
    have pS6 := e6 _ _ neS pS5
    have hB6 := e6 _ _ neB hB
    have pR6 := pR5.exX e6 neL (.inr fun xs z => by rw [hx5] at z; cases z)
    have l1 : EvL (tLc (iList K (tVar 3)) (gName 12) tYes (tUn rNegI (tVar 12)) [12]) [some (.ref x), some (.ref a), some (.ref b), some (.ref c), u4, u5, u6, u7, none, none, none, u11, none, none, u14] B6 ((List.range (row wide w).length).map fun j => V.int (-(w j))) :=
      el_lcA ((ei_list (ev_var rfl) (sq_of (eB6 _ _ hc))).weak fun _ _ e => ex_ll e) (by rw [row_len]; omega) _ fun j y A e hj it => by
        rw [row_len] at hj
        rw [row_at hj] at it
        obtain rfl := Option.some.inj it
        exact ⟨_, pt_name, rfl, ev_un (ev_var rfl) ru_neg⟩
    rw [row_len] at l1
    refine q_asgL (el_cat l1 (el_rep (k := m + 1) ev_c (ev_is (ev_op (ev_fld (ev_var rfl) hx6 C.T C.tM rfl) ev_c rv_I0) (by rw [Int.natCast_add] <;> rfl)) (by omega)) (by simp; omega)) fun pg B7 fg e7 hg => ?_
    have hx7 := e7 _ _ hx6
    have pR7 := pR6.up e7
    obtain ⟨out, ho1, ho2, ho3⟩ := id pR7
    have inner : ∀ {σ : L2.St} {A : Hp} {te : TE} {k : Nat}, Ex B7 A → k < wide + m + 1 → σ[0]? = some (some (.ref x)) →
        (∀ (i : Nat) (r : Addr) A2, Ex A A2 → i < m → A2 r = some (.lst (row (wide + m + 1) (A0 rows wide m amt w i))) → Ev (tOp (rIxL K) (tVar 7) te) ((wipe σ [7]).set 7 (some (.ref r))) A2 (.int (A0 rows wide m amt w i k))) →
        Ev (tUn rNegI (tCB (rSum K) (tCons (tLc (iList K (tFld K (tVar 0) "lines")) (gName 7) tYes (tOp (rIxL K) (tVar 7) te) [7]) tNil))) σ A (.int (-(S m fun i => A0 rows wide m amt w i k))) := by
      intro σ A te k eA hk h0 hte
      have l : EvL (tLc (iList K (tFld K (tVar 0) "lines")) (gName 7) tYes (tOp (rIxL K) (tVar 7) te) [7]) σ A ((List.range (out.map V.ref).length).map fun i => V.int (A0 rows wide m amt w i k)) :=
        el_lcA ((ei_list (ev_fld (ev_var h0) (eA _ _ hx7) C.T C.tL rfl) (sq_of (eA _ _ ho1))).weak fun _ _ e => ex_ll e) (by rw [List.length_map]; omega) _ fun i y A2 e hi it => by
          rw [List.length_map] at hi
          obtain ⟨r, hr⟩ : ∃ r, out[i]? = some r := ⟨_, List.getElem?_eq_getElem hi⟩
          rw [List.getElem?_map, hr] at it
          obtain rfl := Option.some.inj it
          refine ⟨_, pt_name, ?_, hte i r A2 e (by omega) ((eA.trans e) _ _ (ho3 i r hr).1)⟩
          show ((σ.set 7 none).set 7 (some (V.ref r))).set 7 none = σ.set 7 none
          rw [List.set_set, List.set_set]
      rw [List.length_map, ho2] at l
      exact ev_un (ev_sumRow l) ru_neg
    have l9 : EvL (tLc (iRng1 (tCons (tFld K (tVar 0) "wide") tNil)) (gName 13) tYes (tUn rNegI (tCB (rSum K) (tCons (tLc (iList K (tFld K (tVar 0) "lines")) (gName 7) tYes (tOp (rIxL K) (tVar 7) (tVar 13)) [7]) tNil))) [13]) [some (.ref x), some (.ref a), some (.ref b), some (.ref c), u4, u5, u6, u7, some (.ref pg), none, none, u11, none, none, u14] B7 (row wide fun j => -(S m fun i => A0 rows wide m amt w i j)) :=
      el_lcA (ei_rg (ea_cons (ev_fld (ev_var rfl) hx7 C.T C.tW rfl) ea_nil) (by omega)) (by omega) _ fun j y A e hj it => by
        subst it
        exact ⟨_, pt_name, rfl, inner e (by omega) rfl fun i r A2 e2 hi hr => ev_rowix hr (ev_var rfl) (ev_var rfl) (by omega)⟩
    refine q_asgL (el_cat l9 (el_rep (k := m) ev_c (ev_fld (ev_var rfl) hx7 C.T C.tM rfl) (by omega)) (by simp; omega)) fun pl B8 fl e8 hl => ?_
    have e8l := inner (σ := [some (.ref x), some (.ref a), some (.ref b), some (.ref c), u4, u5, u6, u7, some (.ref pg), some (.ref pl), none, u11, none, none, u14]) (k := wide + m) (te := tUn rNegI (tC (.int 1))) e8 (by omega) rfl fun i r A2 e2 hi hr => ev_rowlast hr (ev_var rfl)
    have hx8 := e8 _ _ hx7
    have npg : pg ≠ aL := by rintro rfl; obtain ⟨o0, ho0, _⟩ := pR6; rw [ho0] at fg; cases fg
    have npg2 : pg ≠ aB := by rintro rfl; rw [hB6] at fg; cases fg
    have npl : pl ≠ aL := by rintro rfl; rw [ho1] at fl; cases fl
    have npl2 : pl ≠ aB := by rintro rfl; rw [e7 _ _ hB6] at fl; cases fl
    have npl3 : pl ≠ x := by rintro rfl; rw [hx7] at fl; cases fl
    have nplS : aS ≠ pl := by rintro rfl; rw [e7 _ _ pS6] at fl; cases fl
    have npgl : pg ≠ pl := by rintro rfl; rw [hg] at fl; cases fl
    refine qx_appV hl (ev_var rfl) e8l (by simp; omega) fun B9 e9 hl9 => ?_
    have eB8 := (eB6.trans e7).trans e8
    have hpl : Bs pl = none := fresh_back (eB6.trans e7) fl
    have eB9 := exX_base eB8 hpl e9
    have hx9 := e9 _ _ npl3.symm hx8
    have hR9 : RowsAt B9 aL m (wide + m + 1) (A0 rows wide m amt w) [aL, aB] := by
      have : RowsAt B8 aL m (wide + m + 1) (A0 rows wide m amt w) [aL, aB, pl] := ((pR7.free fl (bad' := [aL, aB, pl]) (by simp)).up e8)
      have := this.exX e9 npl.symm (.inl (by simp))
      obtain ⟨o, z1, z2, z3⟩ := this
      exact ⟨o, z1, z2, fun i r hi => ⟨(z3 i r hi).1, fun z => (z3 i r hi).2 (by simp at z ⊢; rcases z with z | z <;> simp [z])⟩⟩
    have hg9 : B9 pg = some (.lst (row (wide + m + 1) (A0 rows wide m amt w m))) := by
      rw [e9 _ _ npgl (e8 _ _ hg)]
      have a1 : row wide (fun j => -(w j)) = row wide (A0 rows wide m amt w m) := row_ext fun j hj => by rw [A0_gain hj]
      have a2 : List.replicate (m + 1) (V.int 0) = row (m + 1) fun j => A0 rows wide m amt w m (wide + j) := by
        rw [rep_row]
        exact row_ext fun j hj => by rw [A0_gain0 (by omega)]
      rw [show wide + m + 1 = wide + (m + 1) by omega, row_app, ← a1, ← a2]
    have hl9' : B9 pl = some (.lst (row (wide + m + 1) (A0 rows wide m amt w (m + 1)))) := by
      rw [hl9]
      have a1 : (row wide fun j => -(S m fun i => A0 rows wide m amt w i j)) = row wide (A0 rows wide m amt w (m + 1)) := row_ext fun j hj => by
        rw [A0_lack hj, S_congr fun i hi => A0_rows hi hj]
      have a2 : List.replicate m (V.int 0) = row m fun j => A0 rows wide m amt w (m + 1) (wide + j) := by
        rw [rep_row]
        exact row_ext fun j hj => by rw [A0_lackH (by omega) (by omega)]
      have a3 : (-(S m fun i => A0 rows wide m amt w i (wide + m))) = A0 rows wide m amt w (m + 1) (wide + m) := by
        rw [A0_lackA, S_congr fun i hi => A0_amt hi]
      rw [row_one, row_app, ← a1, ← a2, ← a3]
    obtain ⟨o9, h91, h92, h93⟩ := id hR9
    refine qx_appV h91 (ev_fld (ev_var rfl) hx9 C.T C.tL rfl) (ev_var rfl) (by rw [List.length_map]; omega) fun B10 e10 h10 => ?_
    have eB10 := exX_base eB9 BL e10
    have hx10 := e10 _ _ neL.symm hx9
    have hR10 := hR9.snocX (by simp) e10 h91 h10 (e10 _ _ npg hg9) (by simp [npg, npg2])
    refine sx_appV h10 (ev_fld (ev_var rfl) hx10 C.T C.tL rfl) (ev_var rfl) (by simp; omega) fun B11 e11 h11 => ?_
    have eB11 := exX_base eB10 BL e11
    have hR11 := hR10.snocX (by simp) e11 h10 h11 (e11 _ _ npl (e10 _ _ npl hl9')) (by simp [npl, npl2])
    refine q ⟨x, dx, aS, aL, aB⟩ B11 rfl ⟨eB11, hBx, BL, BB, e11 _ _ neL.symm hx10, ?_, hR11, ?_, LB, SL, SB⟩
    · exact e11 _ _ SL (e10 _ _ SL (e9 _ _ nplS (e8 _ _ (e7 _ _ pS6))))
    · have hB9 := e9 _ _ npl2.symm (e8 _ _ (e7 _ _ hB6))
      have := e11 _ _ LB.symm (e10 _ _ LB.symm hB9)
      rw [this]
      congr 2
end TW
namespace TW
open PySem L2 Evl RS RZ TN
section
variable {K : PySem.W.Frag} {g : Gs} {σ : L2.St} {H H' A B Bs : Hp} {te ta tb tv to ti : TE} {taa : TA} {tz : TS} {D : Ends} {v y : V} {φ : V → Hp → Prop} {χ : Addr → Hp → Prop} {wide m n w : Nat} {T : Tb} {s : Sx}
/-- i = C(..) -/
theorem q_make {C : Addr} {sp : Sp} {E : XK} {vs : List V} {i : Nat} (h : EvA taa σ H vs)
    (hs : ∀ H1, Ex H H1 → ∀ x dx, H1 x = none → H1 dx = none → dx ≠ x → sp (.ref x :: vs) (upd (upd H1 dx (.own x)) x (.ins C dx [])) (fun v H2 => v = .non ∧ tz D (σ.set i (some (.ref x))) H2) E) : tSeq (tAsg (tMake C sp [] E taa) (gName i)) tz D σ H :=
  h H (Ex.refl H) _ fun H2 e2 x dx hx hd hne => by
    rw [List.append_nil]
    exact hs H2 e2 x dx hx hd hne
/-- a tuple of things known -/
theorem ep_tup {Φ : List V → Hp → Prop} (h : EaP taa σ H Φ) (hl : ∀ vs A, Φ vs A → vs.length ≤ 100000) : EvP (tTup taa) σ H fun v A => ∃ p vs A0, v = .ref p ∧ A p = some (.tup vs) ∧ Ex A0 A ∧ Φ vs A0 := fun H1 e Q q =>
  h H1 e _ fun vs H2 e2 k => ⟨sz_of (hl vs H2 k), fun p hp => q _ _ (e2.trans (Ex.new hp)) ⟨p, vs, H2, rfl, upd_same, Ex.new hp, k⟩⟩
end
theorem len_solved {K : PySem.W.Frag} {g : Gs} {vs : List V} {H : Hp} {Q : VK} {E : XK} (h : sp_solved K g vs H Q E) : vs.length = 3 := by
  obtain ⟨_, _, _, _, _, _, _, _, rfl, _⟩ := h
  rfl
theorem pure_solved {K : PySem.W.Frag} {g : Gs} (C : CF K g) (vs : List V) (H : Hp) (Q : VK) (E : XK) (h : sp_solved K g vs H Q E) : t_solved K g { nx := fun _ H' => Q .non H', rt := Q } (start ["rows", "amounts", "worths", "table", "place"] vs) H := by
  obtain ⟨a, b, c, cc, gg, u, n, f, rfl, hR, hb, hc, L, q⟩ := h
  have n36 := L.n36
  have u20 := L.u20
  have f4 := L.f4
  have n1 := L.n1
  have hw : 3 * n + f ≤ 1000 := by omega
  have hm : u + n ≤ 1000 := by omega
  refine q_make (ea_cons (ev_var rfl) (ea_cons (ev_var rfl) (ea_cons (ev_var rfl) ea_nil))) fun A e x dx hx hd hne => ?_
  have e0 : Ex A (upd (upd A dx (.own x)) x (.ins g.T dx [])) := (Ex.new hd).trans (Ex.new (by rw [upd_ne hne.symm]; exact hx))
  refine ⟨x, dx, a, b, c, 3 * n + f, u + n, rowsF cc gg u n, amtF u, worF n, A, rfl, upd_same, e0, hx, hw, hm, hR.up e, e _ _ hb, e _ _ hc, fun i hi => amtF_nonneg (n := n) i hi, fun i hi => bits_of _ amtF_le (by decide), fun i hi j hj => bits_of _ (rowsF_le L hi hj) (by
    have : (1000000000000 : Nat) < 2 ^ 40 := by decide
    exact Nat.lt_trans this (Nat.pow_lt_pow_right (by decide) (by decide))), fun T A1 hT X => ⟨rfl, ?_⟩⟩
  subst hT
  have ⟨pa1, pa2⟩ := phase_a L
  refine q_meth (ev_var rfl) X.ins rfl (ea_cons (ev_is (ev_op (ev_many C X (ev_var rfl)) ev_c rv_I0) (by rw [show ((u + n : Nat) : Int) + 1 = ((u + n + 1 : Nat) : Int) by omega])) ea_nil) fun A2 e2 => ⟨3 * n + f, u + n, A, T, _, u + n + 1, rfl, X.up e2, by omega, hw, hm, pa1, pa2, fun v A3 R1 hn1 X3 => ?_⟩
  have ⟨pb1, pb2, pb3, pb4⟩ := phase_b L R1 hn1
  have cell := ev_cell C X3 (te := tVar 3) (ti := tOp rAddI (tFld K (tVar 3) "many") (tC (.int 1))) (σ := [some (.ref a), some (.ref b), some (.ref c), some (.ref T.a), none]) (i := u + n + 1) (j := 3 * n + f + (u + n)) (tb := tC (.int (3 * n + f + (u + n) : Nat))) (ev_var rfl) (ev_is (ev_op (ev_many C X3 (ev_var rfl)) ev_c rv_I0) (by rw [show ((u + n : Nat) : Int) + 1 = ((u + n + 1 : Nat) : Int) by omega])) ev_c (by omega) (by omega)
  obtain ⟨r, hr, _, _, hl⟩ := ev_line C X3 (te := tVar 3) (ti := tOp rAddI (tFld K (tVar 3) "many") (tC (.int 1))) (σ := [some (.ref a), some (.ref b), some (.ref c), some (.ref T.a), none]) (i := u + n + 1) (ev_var rfl) (ev_is (ev_op (ev_many C X3 (ev_var rfl)) ev_c rv_I0) (by rw [show ((u + n : Nat) : Int) + 1 = ((u + n + 1 : Nat) : Int) by omega])) (by omega)
  refine q_never (b := false) (et_is (et_test (ev_op (ev_rowlast hr hl) ev_c rv_I0)) (decide_eq_false (by rw [pb1]; decide))) rfl fun A4 e4 => ?_
  have X4 := X3.up e4
  refine q_meth (ev_var rfl) X4.ins rfl ea_nil fun A5 e5 => ⟨3 * n + f, u + n, A, T, v, rfl, X4.up e5, hw, hm, pb2, fun A6 X6 => ?_⟩
  refine q_methA (ev_var rfl) X6.ins rfl (ea_cons (ev_many C X6 (ev_var rfl)) ea_nil) fun A7 e7 => ⟨3 * n + f, u + n, A, T, _, u + n, rfl, X6.up e7, by omega, hw, hm, pb3, pb4, fun w A8 R2 hn2 X8 => ?_⟩
  have F : FinU (rowsF cc gg u n) (3 * n + f) (u + n) (amtF u) (worF n) w := ⟨v, R1, hn1, R2, hn2⟩
  have Dn := F.done L
  have hent : w.enter ⟨u + n, 3 * n + f, 3 * n + f + (u + n), u + n⟩ = none := Dn.enter
  rw [hent]
  refine q_never (b := false) (et_is (et_test (ev_op (ev_var rfl) ev_c rv_notno)) (by simp [optV])) rfl fun A9 e9 => ?_
  have X9 := X8.up e9
  have wt : EvP (tMeth g.T "wanted" (sp_Tableau_wanted K g) [] E0 (tVar 3) tNil) [some (.ref a), some (.ref b), some (.ref c), some (.ref T.a), some .non] A9 (FrsT K (3 * n + f) (shF (3 * n + f) (u + n) w)) :=
    ep_meth (ev_var rfl) X9.ins rfl ea_nil fun H1 e Q q E => ⟨3 * n + f, u + n, A, T, w, rfl, X9.up e, by omega, hw, hm, Dn.small, Dn.inj, q⟩
  have os : EvP (tMeth g.T "other_side" (sp_Tableau_other_side K g) [] E0 (tVar 3) (tCons (tFld K (tVar 3) "many") (tCons (tC (.int 0)) tNil))) [some (.ref a), some (.ref b), some (.ref c), some (.ref T.a), some .non] A9 (FrsT K (u + n) (siF (3 * n + f) (u + n) w)) :=
    ep_meth (ev_var rfl) X9.ins rfl (ea_cons (ev_many C X9 (ev_var rfl)) (ea_cons ev_c ea_nil)) fun H1 e1 Q q E => ⟨3 * n + f, u + n, A, T, w, rfl, X9.up e1, hw, hm, Dn.small, q⟩
  have eH9 : Ex H A9 := e.trans X9.ex
  refine sp_ret (ep_tup (eap_v ev_c (eap_cons wt (frs_st _ _).up (eap_one os))) fun vs A k => ?_) fun y B eB k => ?_
  · obtain ⟨_, rfl, _, _, rfl, _, _, rfl, _⟩ := k
    simp
  · obtain ⟨p, _, A0, rfl, hp, e10, _, rfl, x1, _, rfl, h1, x2, rfl, h2⟩ := k
    have k1 := frs_st _ _ _ _ _ (ex_loose e10) h1
    have k2 := frs_st _ _ _ _ _ (ex_loose e10) h2
    obtain ⟨q1, xs1, rfl, k3⟩ := k1
    obtain ⟨q2, xs2, rfl, k4⟩ := k2
    exact q _ B (eH9.trans eB) ⟨w, p, q1, q2, rfl, F, st_of hp, ⟨q1, xs1, rfl, k3⟩, q2, xs2, rfl, k4⟩
end TW
namespace TW
open PySem L2 Evl RS RZ TN
section
variable {K : PySem.W.Frag} {g : Gs} {σ : L2.St} {H H' A B Bs : Hp} {te ta tb tv to ti : TE} {taa : TA} {tz : TS} {D : Ends} {v y : V} {φ : V → Hp → Prop} {χ : Addr → Hp → Prop} {wide m n w : Nat} {T : Tb} {s : Sx}
theorem qk_asg {gg : TG} (h : EvP te σ H φ) (k : ∀ v H1, Ex H H1 → φ v H1 → gg v σ H1 fun σ2 H2 => tz D σ2 H2) : tSeq (tAsg te gg) tz D σ H := h H (Ex.refl H) _ fun v H1 e p => k v H1 e p
theorem ep_ixT {p : Addr} {xs : List V} {i : Int} {x : V} (h : Ev te σ H (.ref p)) (hi : Ev ti σ H (.int i)) (hx : SqT K H p xs) (hv : atI xs i = some x) : Ev (tOp (rIxT K) te ti) σ H x := ev_op h hi (rv_ixT hx hv)
/-- o[i] += e, in a row of ints -/
theorem q_augS {l : Addr} {f : Nat → Int} {j : Nat} {d : Int} {op : Int → Int → Int} (hl : H l = some (.lst (row n f))) (ho : Ev to σ H (.ref l)) (hi : Ev ti σ H (.int (j : Int))) (hj : j < n) (he : Ev te σ H (.int d))
    (k : ∀ B, ExX l H B → B l = some (.lst (row n fun k => if k = j then op (f j) d else f k)) → tz D σ B) : tSeq (tAugS to ti te (rIxL K) (ipI op) rSetL) tz D σ H :=
  ho H (Ex.refl H) _ fun H1 e1 => hi H1 e1 _ fun H2 e2 => ⟨l, _, _, _, rfl, rfl, sq_of ((e1.trans e2) _ _ hl), row_ix hj, he H2 (e1.trans e2) _ fun H3 e3 => ⟨_, _, rfl, rfl, l, _, _, j, rfl, rfl, ((e1.trans e2).trans e3) _ _ hl, by rw [row_len]; exact ixN_nat hj,
    k _ (exX_of ((e1.trans e2).trans e3)) (by rw [upd_same, row_set])⟩⟩
theorem ints_row {l : List Int} {f : Nat → Int} (h : l.length = n) (e : ∀ j, j < n → l.getD j 0 = f j) : intsV l = row n f := by
  refine List.ext_getElem? fun i => ?_
  rw [List.getElem?_map, List.getElem?_map]
  by_cases hi : i < n
  · rw [List.getElem?_range hi, ← h] at *
    have := e i (by omega)
    rw [List.getD_eq_getElem?_getD, List.getElem?_eq_getElem (by omega)] at this
    rw [List.getElem?_eq_getElem (by omega)]
    show some (V.int _) = some (V.int _)
    rw [← this] <;> rfl
  · rw [List.getElem?_eq_none (by omega), List.getElem?_eq_none (by simpa using hi)] <;> rfl
/-- [c[j] for c in rows] -/
theorem el_col {i j : Nat} {p : Addr} {f : Nat → Nat → Int} {bad : List Addr} (hR : RowsAt H p n w f bad) (hn : n ≤ 40000) (ho : Ev te σ H (.ref p)) (hi : i < σ.length) (hj : j < w) (hv : ∀ r A, Ev ti ((σ.set i none).set i (some (.ref r))) A (.int (j : Int))) :
    EvL (tLc (iList K te) (gName i) tYes (tOp (rIxL K) (tVar i) ti) [i]) σ H (row n fun k => f k j) := by
  obtain ⟨out, h1, h2, h3⟩ := hR
  have l : EvL (tLc (iList K te) (gName i) tYes (tOp (rIxL K) (tVar i) ti) [i]) σ H ((List.range (out.map V.ref).length).map fun k => V.int (f k j)) :=
    el_lcA ((ei_list ho (sq_of h1)).weak fun _ _ e => ex_ll e) (by rw [List.length_map]; omega) _ fun k y A e hk it => by
      rw [List.length_map] at hk
      obtain ⟨r, hr⟩ : ∃ r, out[k]? = some r := ⟨_, List.getElem?_eq_getElem hk⟩
      rw [List.getElem?_map, hr] at it
      obtain rfl := Option.some.inj it
      refine ⟨_, pt_name, ?_, ev_rowix (e _ _ (h3 k r hr).1) (ev_var ?_) (hv r A) hj⟩
      · show ((σ.set i none).set i (some (V.ref r))).set i none = σ.set i none
        rw [List.set_set, List.set_set]
      · show ((σ.set i none).set i (some (V.ref r)))[i]? = _
        rw [List.set_set, List.getElem?_set_self hi]
  rw [List.length_map, h2] at l
  exact l
theorem getI {l : List Rdg} {k : Nat} (h : k < l.length) : l[k]? = some (rdk l k) := by
  unfold rdk
  rw [List.getD_eq_getElem?_getD, List.getElem?_eq_getElem h] <;> rfl
theorem rdk_mem {l : List Rdg} {k : Nat} (h : k < l.length) : rdk l k ∈ l := List.mem_of_getElem? (getI h)
/-- int(a == b) -/
theorem ev_inteq {i j : Nat} (ha : Ev ta σ H (.int (i : Int))) (hb : Ev tb σ H (.int (j : Int))) : Ev (tCB rInt1 (tCons (tOp rEq ta tb) tNil)) σ H (.int (if i = j then 1 else 0)) := by
  refine ev_is (ev_cb (z := .int (if decide (V.int (i : Int) = V.int (j : Int)) = true then 1 else 0)) (ea_cons (ev_op ha hb (rv_eq rfl)) ea_nil) fun H1 e1 Q q => .inr ⟨_, rfl, q H1 (Ex.refl H1)⟩) ?_
  rw [int_eq]
  by_cases h : i = j
  · subst h; simp
  · rw [if_neg h, if_neg (by simp; omega)]
end
theorem len_column_of {K : PySem.W.Frag} {g : Gs} {vs : List V} {H : Hp} {Q : VK} {E : XK} (h : sp_column_of K g vs H Q E) : vs.length = 2 := by
  obtain ⟨_, _, _, _, _, rfl, _⟩ := h
  rfl
theorem pure_column_of {K : PySem.W.Frag} {g : Gs} (C : CF K g) (vs : List V) (H : Hp) (Q : VK) (E : XK) (h : sp_column_of K g vs H Q E) : t_column_of K g { nx := fun _ H' => Q .non H', rt := Q } (start ["program", "number", "reader", "read", "step", "found"] vs) H := by
  obtain ⟨s, t, rs, pv, k, rfl, ⟨x, dx, rv, rfl, hx, a, xs, rfl, ha, hz, hi⟩, hk, hf, hs, ht, q⟩ := h
  obtain ⟨v, hv⟩ : ∃ v, xs[k]? = some v := ⟨_, List.getElem?_eq_getElem (by omega)⟩
  have hr := hi k v _ hv (getI hk)
  obtain ⟨f1, f2, f3, f4, f5, f6⟩ := hf _ (rdk_mem hk)
  generalize rdk rs k = r at *
  obtain ⟨r1, r2, st⟩ := r
  dsimp only at f1 f2 f3 f4 f5 f6
  obtain ⟨i, rfl⟩ := Int.eq_ofNat_of_zero_le f1
  obtain ⟨j, rfl⟩ := Int.eq_ofNat_of_zero_le f3
  have hix : atI xs (k : Int) = some v := by
    unfold atI
    rw [ixN_nat (by omega)]
    exact hv
  refine qk_asg (ep_ev (ep_ixT (ev_fld (ev_var rfl) hx C.P C.pR rfl) (ev_var rfl) ha hix)) fun v' A1 e1 p1 => ?_
  subst p1
  obtain ⟨c0, rfl, d, h1, h2⟩ := rdv_st _ _ _ _ (ex_loose e1) hr
  refine pt_three h1 _ fun A2 e2 => ?_
  have e12 := e1.trans e2
  refine q_asgL (el_rep (k := t) ev_c (ev_fld (ev_var rfl) (e12 _ _ hx) C.P C.pT rfl) (by omega)) fun p A3 hp e3 h3 => ?_
  rw [rep_row] at h3
  refine q_augS h3 (ev_var rfl) (ev_var rfl) (by omega) ev_c fun B1 e4 h4 => ?_
  refine q_augS h4 (ev_var rfl) (ev_var rfl) (by omega) ev_c fun B2 e5 h5 => ?_
  have e123 := e12.trans e3
  have eB2 : Ex H B2 := fun b o hb => by
    have : b ≠ p := by rintro rfl; rw [e12 _ _ hb] at hp; cases hp
    exact e5 b o this (e4 b o this (e123 b o hb))
  have h2' : SqT K B2 d (intsV st) := by
    refine (?_ : ExT K A2 B2) _ _ (ex_t e2 h2)
    intro a xs h
    have ne : ∀ u, A2 a = some u → a ≠ p := by rintro u hu rfl; rw [hp] at hu; cases hu
    rcases h with (h | ⟨o, h⟩) | h
    · exact .inl (.inl (e5 a _ (ne _ h) (e4 a _ (ne _ h) (e3 a _ h))))
    · exact .inl (.inr ⟨o, e5 a _ (ne _ h) (e4 a _ (ne _ h) (e3 a _ h))⟩)
    · exact .inr h
  refine s_retL (el_catR (ev_var rfl) h5 (el_lstT (ev_var rfl) h2') (by rw [row_len, List.length_map]; omega)) fun z B3 hz e6 h6 => q z B3 (fresh_back eB2 hz) (eB2.trans e6) ?_
  rw [h6, row_app]
  congr 3
  · refine row_ext fun y hy => ?_
    unfold colF
    rw [if_pos hy]
    show (if y = j then (if j = i then (0 : Int) + 1 else 0) - 1 else if y = i then (0 : Int) + 1 else 0) = (if (y : Int) = (i : Int) then 1 else 0) - (if (y : Int) = (j : Int) then 1 else 0)
    repeat' split
    all_goals omega
  · refine ints_row f5 fun y hy => ?_
    unfold colF
    rw [if_neg (by omega), Nat.add_sub_cancel_left]
theorem len_far_columns {K : PySem.W.Frag} {g : Gs} {vs : List V} {H : Hp} {Q : VK} {E : XK} (h : sp_far_columns K g vs H Q E) : vs.length = 2 := by
  obtain ⟨_, _, _, _, _, rfl, _⟩ := h
  rfl
theorem pure_far_columns {K : PySem.W.Frag} {g : Gs} (C : CF K g) (vs : List V) (H : Hp) (Q : VK) (E : XK) (h : sp_far_columns K g vs H Q E) : t_far_columns K g { nx := fun _ H' => Q .non H', rt := Q } (start ["program", "world", "unit", "side", "place"] vs) H := by
  obtain ⟨s, t, rs, pv, w, rfl, ⟨x, dx, rv, rfl, hx, hrv⟩, hw, hs, ht, q⟩ := h
  refine q_when (et_test (ev_op (ev_var rfl) ev_c (rv_eq rfl))) (fun z A1 e1 => ?_) fun z A1 e1 => ?_
  · have z : w = "boxes" := by simpa using z
    refine s_retL (el_lst ea_nil (by simp)) fun p A2 hp e2 h2 => q p A2 (fresh_back e1 hp) (e1.trans e2) ⟨[], h2, by unfold farN; rw [if_pos z] <;> rfl, nofun⟩
  · have z : w ≠ "boxes" := by simpa using z
    have hx1 := e1 _ _ hx
    have unit : Ev (tOp rAddI (tFld K (tVar 0) "tables") (tFld K (tVar 0) "sides")) [some (.ref x), some (.str w), none, none, none] A1 (.int ((t + s : Nat) : Int)) := ev_is (ev_op (ev_fld (ev_var rfl) hx1 C.P C.pT rfl) (ev_fld (ev_var rfl) hx1 C.P C.pS rfl) rv_I0) (by rw [Int.natCast_add])
    refine q_asg unit fun A2 e2 => ?_
    have hx2 := e2 _ _ hx1
    refine sf_ret (ef_lcL (ei_rg (ea_cons (ev_fld (ev_var rfl) hx2 C.P C.pS rfl) ea_nil) (by omega)) (by omega) (fun q => row (t + s) fun x => gF t x q) fun i y A e hi it => ?_) fun p A3 hp e3 ⟨out, h1, h2, h3⟩ => q p A3 (fresh_back (e1.trans e2) hp) ((e1.trans e2).trans e3) ⟨out, h1, by unfold farN; rw [if_neg z]; exact h2, fun i r hr => ⟨(h3 i r hr).1, nofun⟩⟩
    subst it
    refine ⟨_, pt_name, rfl, el_lcA (ei_rg (ea_cons (ev_var rfl) ea_nil) (by omega)) (by omega) _ fun j y A' e' hj it' => ?_⟩
    subst it'
    exact ⟨_, pt_name, rfl, ev_is (ev_inteq (i := j) (j := t + i) (ev_var rfl) (ev_is (ev_op (ev_fld (ev_var rfl) (e' _ _ (e _ _ hx2)) C.P C.pT rfl) (ev_var rfl) rv_I0) (by rw [Int.natCast_add]))) rfl⟩
end TW
namespace TW
open PySem L2 Evl RS RZ TN
section
variable {K : PySem.W.Frag} {g : Gs} {σ : L2.St} {H H' A B Bs : Hp} {te ta tb tv to ti : TE} {taa : TA} {tz : TS} {D : Ends} {v y : V} {φ : V → Hp → Prop} {χ : Addr → Hp → Prop} {wide m n w : Nat} {T : Tb} {s : Sx}
theorem el_is {xs ys : List V} (h : EvL te σ H xs) (e : xs = ys) : EvL te σ H ys := e ▸ h
theorem RowsAt.loose {a : Addr} {f : Nat → Nat → Int} {bad : List Addr} (h : RowsAt A a n w f bad) : RowsAt A a n w f [] := let ⟨o, h1, h2, h3⟩ := h; ⟨o, h1, h2, fun i r hi => ⟨(h3 i r hi).1, nofun⟩⟩
theorem ei_rgT (h : EvA taa σ H [.int (n : Int)]) (h1 : n ≤ 40000) : EvI (iRng1 taa) σ H (fun _ _ => True) n (fun i x _ => x = .int (i : Int)) := by
  have := ei_range h (by omega) (by omega)
  rw [Int.toNat_natCast] at this
  exact this
theorem ei_lot {a : Addr} {f : Nat → Int} (h : Ev te σ H (.ref a)) (hx : SqT K H a (row n f)) : EvI (iTup K te) σ H Ex n (fun i x _ => x = .int (f i)) := by
  have := (ei_tup h hx).weak (St' := Ex) fun _ _ e => ex_tt e
  rw [row_len] at this
  refine this.imp fun i x A it => ?_
  have hi := (List.getElem?_eq_some_iff.mp it).1
  rw [row_len] at hi
  rw [row_at hi] at it
  exact (Option.some.inj it).symm
end
theorem len_task_of {K : PySem.W.Frag} {g : Gs} {vs : List V} {H : Hp} {Q : VK} {E : XK} (h : sp_task_of K g vs H Q E) : vs.length = 3 := by
  obtain ⟨_, _, _, _, _, _, _, rfl, _⟩ := h
  rfl
theorem pure_task_of {K : PySem.W.Frag} {g : Gs} (C : CF K g) (vs : List V) (H : Hp) (Q : VK) (E : XK) (h : sp_task_of K g vs H Q E) : t_task_of K g { nx := fun _ H' => Q .non H', rt := Q } (start ["program", "lot", "world", "columns", "far", "many", "rows", "place", "line", "at", "unit", "amounts", "worths", "number", "column", "other"] vs) H := by
  obtain ⟨s, t, rs, pv, a, n, w, rfl, hp, ha, hw, Z, q⟩ := h
  obtain ⟨x, dx, rv, rfl, hx, hrv⟩ := id hp
  have s4 := Z.s4
  have t16 := Z.t16
  have r36 := Z.r36
  have nle := Z.n_le
  have f4 : farN s w ≤ 4 := by unfold farN; split <;> omega
  generalize hf : farN s w = f at *
  have hcol : EvF (tLc (iTup K (tVar 1)) (gName 13) tYes (tCall (sp_column_of K g) [] E0 (tCons (tVar 0) (tCons (tVar 13) tNil))) [13]) [some (.ref x), some (.ref a), some (.str w), none, none, none, none, none, none, none, none, none, none, none, none, none] H _ :=
    ef_lcL (n := n) (ei_lot (ev_var rfl) ha) (by omega) (fun i => row (t + s) (colF t (rdk rs i))) fun i y A e hi it => by
      subst it
      exact ⟨_, pt_name, rfl, el_call (ea_cons (ev_var rfl) (ea_cons (ev_var rfl) ea_nil)) fun H1 e1 Q q E => ⟨s, t, rs, _, i, rfl, prog_st _ _ _ (ex_loose (e.trans e1)) hp, by omega, Z.fine, by omega, by omega, q⟩⟩
  refine qf_asg hcol fun pc A1 _ e1 ⟨oc, c1, c2, c3⟩ => ?_
  have Rc : RowsAt A1 pc n (t + s) (fun k => colF t (rdk rs k)) [] := ⟨oc, c1, c2, fun i r hi => ⟨(c3 i r hi).1, nofun⟩⟩
  refine qf_asg (ef_call (sp := sp_far_columns K g) (χ := fun p H2 => RowsAt H2 p f (t + s) (fun q x => gF t x q) []) (ea_cons (ev_var rfl) (ea_cons (ev_var rfl) ea_nil)) fun H1 e Q q E => ⟨s, t, rs, _, w, rfl, prog_st _ _ _ (ex_loose (e1.trans e)) hp, hw, by omega, by omega, by rw [hf]; exact q⟩) fun pf A2 _ e2 Rf => ?_
  have e12 := e1.trans e2
  have nlen : ∀ {σ : L2.St} {A : Hp} {te : TE}, Ex A2 A → Ev te σ A (.ref a) → Ev (tCB (rLn K) (tCons te tNil)) σ A (.int (n : Int)) := fun e h => by
    have := ev_lenT (K := K) h (ex_t (e12.trans e) ha)
    rw [row_len] at this
    exact this
  refine q_asg (nlen (Ex.refl _) (ev_var rfl)) fun A3 e3 => ?_
  refine q_asgL (el_lst ea_nil (by simp)) fun pr A4 hpr e4 h4 => ?_
  have e13 := e12.trans e3
  have Rc3 := Rc.up (e2.trans e3)
  have Rf3 := Rf.up e3
  have hx3 := e13 _ _ hx
  have tsn : ∀ {σ : L2.St} {A : Hp} {te : TE}, Ex A3 A → Ev te σ A (.ref x) → Ev (tOp rAddI (tFld K te "tables") (tFld K te "sides")) σ A (.int ((t + s : Nat) : Int)) := fun e h => ev_is (ev_op (ev_fld h (e _ _ hx3) C.P C.pT rfl) (ev_fld h (e _ _ hx3) C.P C.pS rfl) rv_I0) (by rw [Int.natCast_add])
  -- the rows of the sums
  refine q_for (n := t + s) (ei_rgT (ea_cons (tsn e4 (ev_var rfl)) ea_nil) (by omega)) (fun _ i σ' A => Ex A3 A ∧ RowsAt A pr i (3 * n + f) (rowsF (cF t rs) (gF t) (t + s) n) [pr] ∧ ∃ u7 u8 u14, σ' = [some (.ref x), some (.ref a), some (.str w), some (.ref pc), some (.ref pf), some (.int (n : Int)), some (.ref pr), u7, u8, none, none, none, none, none, u14, none])
    (fun A e => ⟨e4.trans e, ⟨[], e _ _ h4, rfl, nofun⟩, _, _, _, rfl⟩) (fun _ _ _ _ _ _ _ => trivial) (fun A i σ' B y B2 e hi p e5 it => ?_) fun A σ' B e p => ?_
  · obtain ⟨eA, R, u7, u8, u14, rfl⟩ := p
    subst it
    refine pt_name _ fun B3 e6 => ?_
    have eB3 := (eA.trans e5).trans e6
    refine q_asgL (el_col (i := 14) (j := i) (Rc3.up eB3) (by omega) (ev_var rfl) (by simp) hi fun r A => ev_var rfl) fun pl B4 _ e7 h7 => ?_
    have eB4 := eB3.trans e7
    obtain ⟨o, o1, o2, o3⟩ := id (R.up ((e5.trans e6).trans e7))
    refine sx_app o1 (ev_var rfl) (el_is (el_cat (el_cat (el_catV (ev_var rfl) (ev_var rfl) h7 h7 (by simp; omega)) (el_rep (k := n) ev_c (ev_var rfl) (by omega)) (by simp; omega)) (el_col (i := 14) (j := i) (Rf3.up eB4) (by omega) (ev_var rfl) (by simp) hi fun r A => ev_var rfl) (by simp; omega)) (ys := row (3 * n + f) (rowsF (cF t rs) (gF t) (t + s) n i)) ?_) (by rw [List.length_map]; omega) fun p B5 fp e8 h8 hp8 => ⟨?_, ?_, _, _, _, rfl⟩
    · have a1 : row n (fun k => colF t (rdk rs k) i) = row n (rowsF (cF t rs) (gF t) (t + s) n i) := row_ext fun k hk => (R_lo (c := cF t rs) (g := gF t) hi hk).symm
      have a2 : row n (fun k => colF t (rdk rs k) i) = row n fun k => rowsF (cF t rs) (gF t) (t + s) n i (n + k) := row_ext fun k hk => (R_lo2 (c := cF t rs) (g := gF t) hi hk).symm
      have a3 : row n (fun _ => (0 : Int)) = row n fun k => rowsF (cF t rs) (gF t) (t + s) n i (n + n + k) := row_ext fun k hk => by rw [show n + n + k = 2 * n + k by omega]; exact (R_lo3 (c := cF t rs) (g := gF t) hi hk).symm
      have a4 : row f (fun k => gF t i k) = row f fun k => rowsF (cF t rs) (gF t) (t + s) n i (n + n + n + k) := row_ext fun k hk => by rw [show n + n + n + k = 3 * n + k by omega]; exact (R_lo4 (c := cF t rs) (g := gF t) hi).symm
      rw [rep_row, show 3 * n + f = n + n + n + f by omega, row_app, row_app, row_app, ← a1, ← a2, ← a3, ← a4]
    · exact fun b o hb => e8 b o (by rintro rfl; rw [hpr] at hb; cases hb) (eB4 b o hb)
    · exact (R.up ((e5.trans e6).trans e7)).snocX (by simp) e8 o1 h8 hp8 (by rw [List.mem_singleton]; rintro rfl; rw [o1] at fp; cases fp)
  · obtain ⟨eA, R, u7, u8, u14, rfl⟩ := p
    refine q_for (n := n) (ei_rgT (ea_cons (ev_var rfl) ea_nil) (by omega)) (fun _ i σ' A => Ex A3 A ∧ RowsAt A pr (t + s + i) (3 * n + f) (rowsF (cF t rs) (gF t) (t + s) n) [pr] ∧ ∃ u9 u10 u15, σ' = [some (.ref x), some (.ref a), some (.str w), some (.ref pc), some (.ref pf), some (.int (n : Int)), some (.ref pr), u7, u8, u9, u10, none, none, none, u14, u15])
      (fun A e => ⟨eA.trans e, R.up e, _, _, _, rfl⟩) (fun _ _ _ _ _ _ _ => trivial) (fun A i σ' B y B2 e hi p e5 it => ?_) fun A σ' B e p => ?_
    · obtain ⟨eA, R, u9, u10, u15, rfl⟩ := p
      subst it
      refine pt_name _ fun B3 e6 => ?_
      have eB3 := (eA.trans e5).trans e6
      refine q_asgL (el_lcA (ei_rg (ea_cons (ev_var rfl) ea_nil) (by omega)) (by omega) (fun j => .int (if i = j then 1 else 0)) fun j y A e hj it => ?_) fun pl B4 _ e7 h7 => ?_
      · subst it
        exact ⟨_, pt_name, rfl, ev_inteq (ev_var rfl) (ev_var rfl)⟩
      have eB4 := eB3.trans e7
      obtain ⟨o, o1, o2, o3⟩ := id (R.up ((e5.trans e6).trans e7))
      obtain ⟨of, f1, f2, f3⟩ := id (Rf3.up eB4)
      have flen : ∀ {σ : L2.St} {A : Hp} {te : TE}, Ex B4 A → Ev te σ A (.ref pf) → Ev (tCB (rLn K) (tCons te tNil)) σ A (.int (f : Int)) := fun e h => by
        have := ev_lenL (K := K) h (sq_of (e _ _ f1))
        rw [List.length_map, f2] at this
        exact this
      refine sx_app o1 (ev_var rfl) (el_is (el_cat (el_catL (el_catR (ev_var rfl) h7 (el_rep (k := n) ev_c (ev_var rfl) (by omega)) (by simp; omega)) (ev_var rfl) h7 (by simp; omega)) (el_rep (k := f) ev_c (flen (Ex.refl _) (ev_var rfl)) (by omega)) (by simp; omega)) (ys := row (3 * n + f) (rowsF (cF t rs) (gF t) (t + s) n (t + s + i))) ?_) (by rw [List.length_map]; omega) fun p B5 fp e8 h8 hp8 => ⟨?_, ?_, _, _, _, rfl⟩
      · have a1 : row n (fun k => if i = k then (1 : Int) else 0) = row n (rowsF (cF t rs) (gF t) (t + s) n (t + s + i)) := row_ext fun k hk => (R_hi hk).symm
        have a2 : row n (fun _ => (0 : Int)) = row n fun k => rowsF (cF t rs) (gF t) (t + s) n (t + s + i) (n + k) := row_ext fun k hk => (R_hi2 hk).symm
        have a3 : row n (fun k => if i = k then (1 : Int) else 0) = row n fun k => rowsF (cF t rs) (gF t) (t + s) n (t + s + i) (n + n + k) := row_ext fun k hk => by rw [show n + n + k = 2 * n + k by omega]; exact (R_hi3 hk).symm
        have a4 : row f (fun _ => (0 : Int)) = row f fun k => rowsF (cF t rs) (gF t) (t + s) n (t + s + i) (n + n + n + k) := row_ext fun k hk => by rw [show n + n + n + k = 3 * n + k by omega]; exact R_hi4.symm
        rw [rep_row, rep_row, show 3 * n + f = n + n + n + f by omega, row_app, row_app, row_app, ← a1, ← a2, ← a3, ← a4]
      · exact fun b o hb => e8 b o (by rintro rfl; rw [hpr] at hb; cases hb) (eB4 b o hb)
      · exact (R.up ((e5.trans e6).trans e7)).snocX (by simp) e8 o1 h8 hp8 (by rw [List.mem_singleton]; rintro rfl; rw [o1] at fp; cases fp)
    · obtain ⟨eA, R, u9, u10, u15, rfl⟩ := p
      have R := R.loose
      refine q_asgL (el_is (el_cat (el_rep (k := t + s) ev_c (tsn eA (ev_var rfl)) (by omega)) (el_rep (k := n) ev_c (ev_var rfl) (by omega)) (by simp; omega)) (ys := row (t + s + n) (amtF (t + s))) ?_) fun p1 A6 _ e6 h6 => ?_
      · have a1 : row (t + s) (fun _ => (0 : Int)) = row (t + s) (amtF (t + s)) := row_ext fun k hk => by unfold amtF; rw [if_pos hk]
        have a2 : row n (fun _ => (1 : Int)) = row n fun k => amtF (t + s) (t + s + k) := row_ext fun k hk => by unfold amtF; rw [if_neg (by omega)]
        rw [rep_row, rep_row, row_app (a := t + s), ← a1, ← a2]
      obtain ⟨of, f1, f2, f3⟩ := id (Rf3.up (eA.trans e6))
      have flen : Ev (tCB (rLn K) (tCons (tVar 4) tNil)) [some (.ref x), some (.ref a), some (.str w), some (.ref pc), some (.ref pf), some (.int (n : Int)), some (.ref pr), u7, u8, u9, u10, some (.ref p1), none, none, u14, u15] A6 (.int (f : Int)) := by
        refine ev_is (ev_lenL (K := K) (ev_var rfl) (sq_of f1)) ?_
        rw [List.length_map, f2]
      have b2 : Bits 2 2 := by unfold Bits; decide
      have bn : Bits 10 n := bits_of 36 (by omega) (by decide)
      refine q_asgL (el_is (el_cat (el_rep (k := n) ev_c (ev_var rfl) (by omega)) (el_rep (k := 2 * n + f) ev_c (ev_is (ev_op (ev_op ev_c (ev_var rfl) (rv_I (mulW b2 bn (by decide)))) flen rv_I0) (by rw [Int.natCast_add, Int.natCast_mul] <;> rfl)) (by omega)) (by simp; omega)) (ys := row (3 * n + f) (worF n)) ?_) fun p2 A7 _ e7 h7 => ?_
      · have a1 : row n (fun _ => (1 : Int)) = row n (worF n) := row_ext fun k hk => by unfold worF; rw [if_pos hk]
        have a2 : row (2 * n + f) (fun _ => (0 : Int)) = row (2 * n + f) fun k => worF n (n + k) := row_ext fun k hk => by unfold worF; rw [if_neg (by omega)]
        rw [rep_row, rep_row, show 3 * n + f = n + (2 * n + f) by omega, row_app (a := n), ← a1, ← a2]
      have eA7 : Ex H A7 := ((e13.trans eA).trans e6).trans e7
      exact s_retU (eu_tup (ea_cons (ev_var rfl) (ea_cons (ev_var rfl) (ea_cons (ev_var rfl) ea_nil))) (by simp)) fun p3 A8 _ e8 h8 => q _ A8 (eA7.trans e8) ⟨p3, pr, p1, p2, rfl, st_of h8, R.up ((e6.trans e7).trans e8), (e7.trans e8) _ _ h6, e8 _ _ h7⟩
end TW
namespace TW
open PySem L2 Evl RS RZ TN
/-! ### least common multiples -/
theorem lcm_two {a b M : Int} (ha : 0 < a) (hb : 0 < b) (h1 : a ∣ M) (h2 : b ∣ M) (hM : 0 < M) : 0 < a / (Int.gcd a b : Int) * b ∧ a / (Int.gcd a b : Int) * b ∣ M ∧ a ∣ a / (Int.gcd a b : Int) * b ∧ b ∣ a / (Int.gcd a b : Int) * b := by
  obtain ⟨x, rfl⟩ := Int.eq_ofNat_of_zero_le (Int.le_of_lt ha)
  obtain ⟨y, rfl⟩ := Int.eq_ofNat_of_zero_le (Int.le_of_lt hb)
  obtain ⟨m, rfl⟩ := Int.eq_ofNat_of_zero_le (Int.le_of_lt hM)
  have e : ((x : Int) / (Int.gcd (x : Int) (y : Int) : Int) * (y : Int)) = ((Nat.lcm x y : Nat) : Int) := by
    rw [Int.gcd_natCast_natCast, ← Int.natCast_ediv, ← Int.natCast_mul, Nat.div_mul_right_comm (Nat.gcd_dvd_left x y)]
    rfl
  rw [e]
  refine ⟨?_, ?_, ?_, ?_⟩
  · have := Nat.lcm_pos (m := x) (n := y) (by omega) (by omega)
    omega
  · exact Int.natCast_dvd_natCast.mpr (Nat.lcm_dvd (Int.natCast_dvd_natCast.mp h1) (Int.natCast_dvd_natCast.mp h2))
  · exact Int.natCast_dvd_natCast.mpr (Nat.dvd_lcm_left x y)
  · exact Int.natCast_dvd_natCast.mpr (Nat.dvd_lcm_right x y)
theorem lcmF_ok {M : Int} {n : Nat} {f : Nat → Int × Int} (h : Bots M n f) : ∀ k, k ≤ n → 0 < lcmF f k ∧ lcmF f k ∣ M ∧ ∀ i, i < k → (f i).2 ∣ lcmF f k
  | 0, _ => ⟨by show (0 : Int) < 1; decide, Int.one_dvd M, nofun⟩
  | k + 1, hk => by
    have ⟨h1, h2, h3⟩ := lcmF_ok h k (by omega)
    have ⟨b1, b2⟩ := h.2.2 k (by omega)
    have ⟨c1, c2, c3, c4⟩ := lcm_two h1 b1 h2 b2 h.1
    refine ⟨c1, c2, fun i hi => ?_⟩
    by_cases e : i = k
    · subst e; exact c4
    · exact Int.dvd_trans (h3 i (by omega)) c3
theorem lcmF_bits {M : Int} {n : Nat} {f : Nat → Int × Int} (h : Bots M n f) {k : Nat} (hk : k ≤ n) : Bits 8900 (lcmF f k) := by
  have ⟨h1, h2, _⟩ := lcmF_ok h k hk
  exact h.2.1.le (Int.le_of_lt h1) (Int.le_of_dvd h.1 h2)
theorem bot_bits {M : Int} {n : Nat} {f : Nat → Int × Int} (h : Bots M n f) {k : Nat} (hk : k < n) : Bits 8900 (f k).2 := by
  have ⟨h1, h2⟩ := h.2.2 k hk
  exact h.2.1.le (Int.le_of_lt h1) (Int.le_of_dvd h.1 h2)
section
variable {K : PySem.W.Frag} {g : Gs} {σ : L2.St} {H H' A B Bs : Hp} {te ta tb tv to ti : TE} {taa : TA} {tz : TS} {D : Ends} {v y : V} {φ : V → Hp → Prop} {χ : Addr → Hp → Prop} {wide m n w : Nat} {T : Tb} {s : Sx}
theorem ev_mult {i j : Int} (h : Ev ta σ H (.int i)) (h2 : Ev tb σ H (.int j)) (hi : 0 < i) (hj : 0 < j) (b1 : Bits 8900 i) (b2 : Bits 8900 j) : Ev (tCall (sp_multiple K g) [] E0 (tCons ta (tCons tb tNil))) σ H (.int (i / (Int.gcd i j : Int) * j)) :=
  ev_call (ea_cons h (ea_cons h2 ea_nil)) fun H1 e Q q E => ⟨i, j, rfl, hi, hj, b1, b2, q⟩
/-- t[lo:hi] of a tuple, not the whole -/
theorem eu_slice {tl th : TO} {a : Addr} {xs : List V} {lo hi : Option Int} (h : Ev te σ H (.ref a)) (h1 : EvO tl σ H lo) (h2 : EvO th σ H hi) (hs : SqT K H a xs) (hw : ¬ (HT.sIx xs.length 0 lo = 0 ∧ HT.sIx xs.length xs.length hi = xs.length)) : EvU (tSl (rSlT K) te tl th) σ H (cutV xs lo hi) := fun H1 e Q q =>
  h H1 e _ fun H2 e2 => h1 H2 (e.trans e2) _ fun H3 e3 => h2 H3 ((e.trans e2).trans e3) _ fun H4 e4 => ⟨a, xs, rfl, ex_t (((e.trans e2).trans e3).trans e4) hs, hw, fun p hp =>
    q p _ (fresh_back ((e2.trans e3).trans e4) hp) (((e2.trans e3).trans e4).trans (Ex.new hp)) upd_same⟩
theorem cut_to {xs : List V} {k : Nat} : cutV xs none (some (k : Int)) = xs.take k := by
  unfold cutV
  rw [HT.sIx_none, HT.sIx_nat, List.drop_zero, Nat.sub_zero]
  rcases Nat.le_total k xs.length with h | h
  · rw [Nat.min_eq_left h]
  · rw [Nat.min_eq_right h, List.take_length, List.take_of_length_le h]
theorem cut_from {xs : List V} {k : Nat} : cutV xs (some (k : Int)) none = xs.drop k := by
  unfold cutV
  rw [HT.sIx_none, HT.sIx_nat]
  rcases Nat.le_total k xs.length with h | h
  · rw [Nat.min_eq_left h, List.take_of_length_le (by rw [List.length_drop]; omega)]
  · rw [Nat.min_eq_right h, List.drop_length, List.take_nil, List.drop_eq_nil_of_le h]
theorem cut_mid {xs : List V} {k l : Nat} (h1 : k ≤ l) (h2 : l ≤ xs.length) : cutV xs (some (k : Int)) (some (l : Int)) = (xs.drop k).take (l - k) := by
  unfold cutV
  rw [HT.sIx_nat, HT.sIx_nat, show min k xs.length = k by omega, show min l xs.length = l by omega]
end
theorem len_common_bottom {K : PySem.W.Frag} {g : Gs} {vs : List V} {H : Hp} {Q : VK} {E : XK} (h : sp_common_bottom K g vs H Q E) : vs.length = 1 := by
  obtain ⟨_, _, _, _, rfl, _⟩ := h
  rfl
theorem pure_common_bottom {K : PySem.W.Frag} {g : Gs} (C : CF K g) (vs : List V) (H : Hp) (Q : VK) (E : XK) (h : sp_common_bottom K g vs H Q E) : t_common_bottom K g { nx := fun _ H' => Q .non H', rt := Q } (start ["shares", "found", "top", "bottom"] vs) H := by
  obtain ⟨v, n, f, M, rfl, ⟨a, xs, rfl, ha, hz, hi⟩, hn, hb, q⟩ := h
  refine q_asg ev_c fun A1 e1 => ?_
  refine q_for ((ei_tup (ev_var rfl) (ex_t e1 ha)).weak (St' := Ex) fun _ _ e => ex_tt e) (fun A1 i σ' A => Ex A1 A ∧ ∃ u2 u3, σ' = [some (.ref a), some (.int (lcmF f i)), u2, u3]) (fun A e => ⟨Ex.refl A, _, _, rfl⟩) (fun A i σ' B e _ p => p.1) (fun A i σ' B x B2 e hi2 p e3 it => ?_) fun A σ' B e p => ?_
  · obtain ⟨p1, u2, u3, rfl⟩ := p
    obtain ⟨c, rfl, hc⟩ := frAt_st _ _ _ _ (ex_loose (((e1.trans e).trans p1).trans e3)) (hi i x it)
    refine pt_two hc _ fun B3 e4 => ?_
    have hin : i < n := by omega
    exact s_asg (ev_mult (ev_var rfl) (ev_var rfl) (lcmF_ok hb i (by omega)).1 (hb.2.2 i hin).1 (lcmF_bits hb (by omega)) (bot_bits hb hin)) fun B4 e5 => ⟨((p1.trans e3).trans e4).trans e5, _, _, rfl⟩
  · obtain ⟨p1, u2, u3, rfl⟩ := p
    rw [hz]
    exact s_ret (ev_var rfl) fun B2 e3 => q B2 (((e1.trans e).trans p1).trans e3)
theorem len_common_bottom_l {K : PySem.W.Frag} {g : Gs} {vs : List V} {H : Hp} {Q : VK} {E : XK} (h : sp_common_bottom_l K g vs H Q E) : vs.length = 1 := by
  obtain ⟨_, _, _, _, rfl, _⟩ := h
  rfl
theorem pure_common_bottom_l {K : PySem.W.Frag} {g : Gs} (C : CF K g) (vs : List V) (H : Hp) (Q : VK) (E : XK) (h : sp_common_bottom_l K g vs H Q E) : t_common_bottom_l K g { nx := fun _ H' => Q .non H', rt := Q } (start ["shares", "found", "top", "bottom"] vs) H := by
  obtain ⟨v, n, f, M, rfl, ⟨a, xs, rfl, ha, hz, hi⟩, hn, hb, q⟩ := h
  refine q_asg ev_c fun A1 e1 => ?_
  refine q_for ((ei_list (ev_var rfl) (ex_l e1 ha)).weak (St' := Ex) fun _ _ e => ex_ll e) (fun A1 i σ' A => Ex A1 A ∧ ∃ u2 u3, σ' = [some (.ref a), some (.int (lcmF f i)), u2, u3]) (fun A e => ⟨Ex.refl A, _, _, rfl⟩) (fun A i σ' B e _ p => p.1) (fun A i σ' B x B2 e hi2 p e3 it => ?_) fun A σ' B e p => ?_
  · obtain ⟨p1, u2, u3, rfl⟩ := p
    obtain ⟨c, rfl, hc⟩ := frAt_st _ _ _ _ (ex_loose (((e1.trans e).trans p1).trans e3)) (hi i x it)
    refine pt_two hc _ fun B3 e4 => ?_
    have hin : i < n := by omega
    exact s_asg (ev_mult (ev_var rfl) (ev_var rfl) (lcmF_ok hb i (by omega)).1 (hb.2.2 i hin).1 (lcmF_bits hb (by omega)) (bot_bits hb hin)) fun B4 e5 => ⟨((p1.trans e3).trans e4).trans e5, _, _, rfl⟩
  · obtain ⟨p1, u2, u3, rfl⟩ := p
    rw [hz]
    exact s_ret (ev_var rfl) fun B2 e3 => q B2 (((e1.trans e).trans p1).trans e3)
theorem len_whole {K : PySem.W.Frag} {g : Gs} {vs : List V} {H : Hp} {Q : VK} {E : XK} (h : sp_whole K g vs H Q E) : vs.length = 1 := by
  obtain ⟨_, _, _, _, rfl, _⟩ := h
  rfl
theorem pure_whole {K : PySem.W.Frag} {g : Gs} (C : CF K g) (vs : List V) (H : Hp) (Q : VK) (E : XK) (h : sp_whole K g vs H Q E) : t_whole K g { nx := fun _ H' => Q .non H', rt := Q } (start ["shares", "bottom", "top", "other"] vs) H := by
  obtain ⟨v, n, f, M, rfl, hv, hn, hb, ht, q⟩ := h
  refine q_asg (ev_call (sp := sp_common_bottom K g) (z := .int (lcmF f n)) (ea_cons (ev_var rfl) ea_nil) fun H1 e Q q E => ⟨v, n, f, M, rfl, frs_st _ _ _ _ _ (ex_loose e) hv, hn, hb, q⟩) fun A1 e1 => ?_
  obtain ⟨a, xs, rfl, ha, hz, hi⟩ := frs_st _ _ _ _ _ (ex_loose e1) hv
  have l : EvL (tLc (iTup K (tVar 0)) (gTup K 2 (gCons (gName 2) (gCons (gName 3) gNil))) tYes (tOp rMulI (tVar 2) (tOp rDivI (tVar 1) (tVar 3))) [2, 3]) [some (.ref a), some (.int (lcmF f n)), none, none] A1 ((List.range xs.length).map fun i => V.int ((f i).1 * (lcmF f n / (f i).2))) :=
    el_lcA ((ei_tup (ev_var rfl) ha).weak fun _ _ e => ex_tt e) (by omega) _ fun i x A e hi2 it => by
      obtain ⟨c, rfl, hc⟩ := frAt_st _ _ _ _ (ex_loose e) (hi i x it)
      have hin : i < n := by omega
      exact ⟨_, pt_two hc, rfl, ev_op (ev_var rfl) (ev_op (ev_var rfl) (ev_var rfl) (rv_I (divW (hb.2.2 i hin).1 (bot_bits hb hin) (by decide)))) (rv_I (mulW (ht i hin) (div_bits (Int.le_of_lt (lcmF_ok hb n (Nat.le_refl _)).1) (hb.2.2 i hin).1 (lcmF_bits hb (Nat.le_refl _))) (by decide)))⟩
  rw [hz] at l
  exact s_retU (eu_tupL l) fun p A2 hp e2 h2 => q _ A2 (e1.trans e2) ⟨p, rfl, by unfold wholeF intsV; rw [List.map_map]; exact st_of h2⟩
theorem len_whole_l {K : PySem.W.Frag} {g : Gs} {vs : List V} {H : Hp} {Q : VK} {E : XK} (h : sp_whole_l K g vs H Q E) : vs.length = 1 := by
  obtain ⟨_, _, _, _, rfl, _⟩ := h
  rfl
theorem pure_whole_l {K : PySem.W.Frag} {g : Gs} (C : CF K g) (vs : List V) (H : Hp) (Q : VK) (E : XK) (h : sp_whole_l K g vs H Q E) : t_whole_l K g { nx := fun _ H' => Q .non H', rt := Q } (start ["shares", "bottom", "top", "other"] vs) H := by
  obtain ⟨v, n, f, M, rfl, hv, hn, hb, ht, q⟩ := h
  have up : ∀ {A B : Hp}, Ex A B → FrsL K n f v A → FrsL K n f v B := fun e ⟨a, xs, h, k, l, i⟩ => ⟨a, xs, h, ex_l e k, l, fun j x h1 => frAt_st _ x _ _ (ex_loose e) (i j x h1)⟩
  refine q_asg (ev_call (sp := sp_common_bottom_l K g) (z := .int (lcmF f n)) (ea_cons (ev_var rfl) ea_nil) fun H1 e Q q E => ⟨v, n, f, M, rfl, up e hv, hn, hb, q⟩) fun A1 e1 => ?_
  obtain ⟨a, xs, rfl, ha, hz, hi⟩ := up e1 hv
  have l : EvL (tLc (iList K (tVar 0)) (gTup K 2 (gCons (gName 2) (gCons (gName 3) gNil))) tYes (tOp rMulI (tVar 2) (tOp rDivI (tVar 1) (tVar 3))) [2, 3]) [some (.ref a), some (.int (lcmF f n)), none, none] A1 ((List.range xs.length).map fun i => V.int ((f i).1 * (lcmF f n / (f i).2))) :=
    el_lcA ((ei_list (ev_var rfl) ha).weak fun _ _ e => ex_ll e) (by omega) _ fun i x A e hi2 it => by
      obtain ⟨c, rfl, hc⟩ := frAt_st _ _ _ _ (ex_loose e) (hi i x it)
      have hin : i < n := by omega
      exact ⟨_, pt_two hc, rfl, ev_op (ev_var rfl) (ev_op (ev_var rfl) (ev_var rfl) (rv_I (divW (hb.2.2 i hin).1 (bot_bits hb hin) (by decide)))) (rv_I (mulW (ht i hin) (div_bits (Int.le_of_lt (lcmF_ok hb n (Nat.le_refl _)).1) (hb.2.2 i hin).1 (lcmF_bits hb (Nat.le_refl _))) (by decide)))⟩
  rw [hz] at l
  exact s_retU (eu_tupL l) fun p A2 hp e2 h2 => q _ A2 (e1.trans e2) ⟨p, rfl, by unfold wholeF intsV; rw [List.map_map]; exact st_of h2⟩
theorem len_check_asked {K : PySem.W.Frag} {g : Gs} {vs : List V} {H : Hp} {Q : VK} {E : XK} (h : sp_check_asked K g vs H Q E) : vs.length = 3 := by
  obtain ⟨_, _, _, _, _, ⟨_, _, rfl, _⟩, _⟩ := h
  rfl
theorem pure_check_asked {K : PySem.W.Frag} {g : Gs} (C : CF K g) (vs : List V) (H : Hp) (Q : VK) (E : XK) (h : sp_check_asked K g vs H Q E) : t_check_asked K g { nx := fun _ H' => Q .non H', rt := Q } (start ["program", "lot", "world"] vs) H := by
  obtain ⟨s, t, rs, n, w, ⟨pv, a, rfl, hp, ha, hw, Z⟩, q⟩ := h
  refine q_drop (ev_call (sp := sp_check_lot K g) (z := .non) (ea_cons (ev_var rfl) (ea_cons (ev_var rfl) ea_nil)) fun H1 e Q q E => ⟨s, t, rs, pv, a, n, rfl, prog_st _ _ _ (ex_loose e) hp, ex_t e ha, Z.n_le, q⟩) fun A1 e1 => ?_
  exact s_drop (ev_call (sp := sp_check_world K g) (z := .non) (ea_cons (ev_var rfl) ea_nil) fun H1 e Q q E => ⟨w, rfl, hw, q⟩) fun A2 e2 => q A2 (e1.trans e2)
section
variable {K : PySem.W.Frag} {g : Gs} {σ : L2.St} {H H' A B Bs : Hp} {te ta tb tv to ti : TE} {taa : TA} {tz : TS} {D : Ends} {v y : V} {φ : V → Hp → Prop} {χ : Addr → Hp → Prop}
theorem PreT.up {vs : List V} {s t : Nat} {rs : List Rdg} {n : Nat} {w : Str} (e : Ex H A) (h : PreT K g vs H s t rs n w) : PreT K g vs A s t rs n w := let ⟨pv, a, h1, h2, h3, h4⟩ := h; ⟨pv, a, h1, prog_st _ _ _ (ex_loose e) h2, ex_t e h3, h4⟩
/-- t[i] of something known -/
theorem ep_ixK {i : Int} {ψ : V → Hp → Prop} (h : EvP te σ H φ) (hi : ∀ A, Ev ti σ A (.int i)) (k : ∀ v A, φ v A → ∃ p xs x, v = .ref p ∧ SqT K A p xs ∧ atI xs i = some x ∧ ∀ B, Ex A B → ψ x B) : EvP (tOp (rIxT K) te ti) σ H ψ := fun H1 e Q q =>
  h H1 e _ fun v H2 e2 hv => by
    obtain ⟨p, xs, x, rfl, hs, hx, hψ⟩ := k v H2 hv
    exact hi H2 H2 (Ex.refl _) _ fun H3 e3 => ⟨p, xs, i, x, rfl, rfl, ex_t e3 hs, hx, q x H3 (e2.trans e3) (hψ H3 e3)⟩
end
theorem len_kept {K : PySem.W.Frag} {g : Gs} {vs : List V} {H : Hp} {Q : VK} {E : XK} (h : sp_kept K g vs H Q E) : vs.length = 3 := by
  obtain ⟨_, _, _, _, _, ⟨_, _, rfl, _⟩, _⟩ := h
  rfl
theorem pure_kept {K : PySem.W.Frag} {g : Gs} (C : CF K g) (vs : List V) (H : Hp) (Q : VK) (E : XK) (h : sp_kept K g vs H Q E) : t_kept K g { nx := fun _ H' => Q .non H', rt := Q } (start ["program", "lot", "world"] vs) H := by
  obtain ⟨s, t, rs, n, w, hP, q⟩ := h
  obtain ⟨pv, a, rfl, hp, ha, hw, Z⟩ := id hP
  refine q_drop (ev_call (sp := sp_check_asked K g) (z := .non) (ea_cons (ev_var rfl) (ea_cons (ev_var rfl) (ea_cons (ev_var rfl) ea_nil))) fun H1 e Q q E => ⟨s, t, rs, n, w, hP.up e, q⟩) fun A1 e1 => ?_
  exact sp_ret (φ := fun v H2 => ∃ d, ToldIs s t rs n (farN s w) d ∧ TupI K d.kl v H2) (ep_ixK (ep_call (sp := sp_told_of K g) (ea_cons (ev_var rfl) (ea_cons (ev_var rfl) (ea_cons (ev_var rfl) ea_nil))) fun H1 e Q q E => ⟨s, t, rs, n, w, hP.up (e1.trans e), q⟩) (fun _ => ev_c) fun v A ⟨d, p, b, c, z, hd, hv, h1, h2, h3, h4⟩ => ⟨p, _, _, hv, h1, rfl, fun B e => ⟨d, hd, tupI_st _ _ _ _ (ex_loose e) h2⟩⟩) fun v A2 e2 h => q v A2 (e1.trans e2) h
theorem len_flow {K : PySem.W.Frag} {g : Gs} {vs : List V} {H : Hp} {Q : VK} {E : XK} (h : sp_flow K g vs H Q E) : vs.length = 3 := by
  obtain ⟨_, _, _, _, _, ⟨_, _, rfl, _⟩, _⟩ := h
  rfl
theorem pure_flow {K : PySem.W.Frag} {g : Gs} (C : CF K g) (vs : List V) (H : Hp) (Q : VK) (E : XK) (h : sp_flow K g vs H Q E) : t_flow K g { nx := fun _ H' => Q .non H', rt := Q } (start ["program", "lot", "world"] vs) H := by
  obtain ⟨s, t, rs, n, w, hP, q⟩ := h
  obtain ⟨pv, a, rfl, hp, ha, hw, Z⟩ := id hP
  refine q_drop (ev_call (sp := sp_check_asked K g) (z := .non) (ea_cons (ev_var rfl) (ea_cons (ev_var rfl) (ea_cons (ev_var rfl) ea_nil))) fun H1 e Q q E => ⟨s, t, rs, n, w, hP.up e, q⟩) fun A1 e1 => ?_
  exact sp_ret (φ := fun v H2 => ∃ d, ToldIs s t rs n (farN s w) d ∧ TupI K d.fl v H2) (ep_ixK (ep_call (sp := sp_told_of K g) (ea_cons (ev_var rfl) (ea_cons (ev_var rfl) (ea_cons (ev_var rfl) ea_nil))) fun H1 e Q q E => ⟨s, t, rs, n, w, hP.up (e1.trans e), q⟩) (fun _ => ev_c) fun v A ⟨d, p, b, c, z, hd, hv, h1, h2, h3, h4⟩ => ⟨p, _, _, hv, h1, rfl, fun B e => ⟨d, hd, tupI_st _ _ _ _ (ex_loose e) h3⟩⟩) fun v A2 e2 h => q v A2 (e1.trans e2) h
theorem len_row {K : PySem.W.Frag} {g : Gs} {vs : List V} {H : Hp} {Q : VK} {E : XK} (h : sp_row K g vs H Q E) : vs.length = 3 := by
  obtain ⟨_, _, _, _, _, ⟨_, _, rfl, _⟩, _⟩ := h
  rfl
theorem pure_row {K : PySem.W.Frag} {g : Gs} (C : CF K g) (vs : List V) (H : Hp) (Q : VK) (E : XK) (h : sp_row K g vs H Q E) : t_row K g { nx := fun _ H' => Q .non H', rt := Q } (start ["program", "lot", "world"] vs) H := by
  obtain ⟨s, t, rs, n, w, hP, q⟩ := h
  obtain ⟨pv, a, rfl, hp, ha, hw, Z⟩ := id hP
  refine q_drop (ev_call (sp := sp_check_asked K g) (z := .non) (ea_cons (ev_var rfl) (ea_cons (ev_var rfl) (ea_cons (ev_var rfl) ea_nil))) fun H1 e Q q E => ⟨s, t, rs, n, w, hP.up e, q⟩) fun A1 e1 => ?_
  exact sp_ret (φ := fun v H2 => ∃ d, ToldIs s t rs n (farN s w) d ∧ PairI K d.A d.B v H2) (ep_ixK (ep_call (sp := sp_told_of K g) (ea_cons (ev_var rfl) (ea_cons (ev_var rfl) (ea_cons (ev_var rfl) ea_nil))) fun H1 e Q q E => ⟨s, t, rs, n, w, hP.up (e1.trans e), q⟩) (fun _ => ev_c) fun v A ⟨d, p, b, c, z, hd, hv, h1, h2, h3, h4⟩ => ⟨p, _, _, hv, h1, rfl, fun B e => ⟨d, hd, pair_st _ _ _ _ _ (ex_loose e) h4⟩⟩) fun v A2 e2 h => q v A2 (e1.trans e2) h
end TW
namespace TW
open PySem L2 Evl RS RZ TN
theorem fr_bot {x d : Int} (hd : 0 < d) : 0 < (fr x d).2 ∧ (fr x d).2 ∣ d := by
  have hg := gcd_pos x hd
  obtain ⟨q, hq⟩ := Int.gcd_dvd_right x d
  have e : d / (Int.gcd x d : Int) = q := by
    conv => lhs; arg 1; rw [hq]
    exact Int.mul_ediv_cancel_left _ (by omega)
  refine ⟨?_, ⟨(Int.gcd x d : Int), ?_⟩⟩
  · show 0 < d / (Int.gcd x d : Int)
    rw [e]
    rcases Int.lt_or_le 0 q with h | h
    · exact h
    · have : (Int.gcd x d : Int) * q ≤ 0 := Int.mul_nonpos_of_nonneg_of_nonpos (by omega) h
      omega
  · show d = d / (Int.gcd x d : Int) * _
    rw [e, Int.mul_comm]; exact hq
theorem fr_top {x d : Int} {k : Nat} (hd : 0 < d) (h : Bits k x) : Bits k (fr x d).1 := divS_bits (gcd_pos x hd) h
theorem fr_eq {x d : Int} (hd : 0 < d) : (fr x d).1 * (Int.gcd x d : Int) = x ∧ (fr x d).2 * (Int.gcd x d : Int) = d := ⟨Int.ediv_mul_cancel (Int.gcd_dvd_left ..), Int.ediv_mul_cancel (Int.gcd_dvd_right ..)⟩
theorem fr_pos {x d : Int} (hd : 0 < d) : 0 < (fr x d).1 ↔ 0 < x := by
  have hg := gcd_pos x hd
  have e := (fr_eq (x := x) hd).1
  generalize (fr x d).1 = y at *
  generalize ((Int.gcd x d : Nat) : Int) = z at *
  constructor
  · intro h
    have := Int.mul_pos h hg
    omega
  · intro h
    rcases Int.lt_or_le 0 y with h1 | h1
    · exact h1
    · have : y * z ≤ 0 := Int.mul_nonpos_of_nonpos_of_nonneg h1 (by omega)
      omega
theorem colF_le {s t : Nat} {r : Rdg} (h : Fine s t r) {x : Nat} (hx : x < t + s) : (colF t r x).natAbs ≤ 1000000000000 := by
  unfold colF
  split
  · split <;> split <;> decide
  · have hl : x - t < r.2.2.length := by have := h.2.2.2.2.1; omega
    rw [List.getD_eq_getElem?_getD, List.getElem?_eq_getElem hl]
    have := h.2.2.2.2.2 _ (List.getElem_mem hl)
    show (r.2.2[x - t]).natAbs ≤ _
    omega
theorem Sized.lim {s t : Nat} {rs : List Rdg} {n : Nat} (Z : Sized s t rs n) (hn : 0 < n) (w : Str) : Lim (cF t rs) (gF t) (t + s) n (farN s w) where
  n1 := hn
  n36 := by have := Z.n_le; have := Z.r36; omega
  f4 := by have := Z.s4; unfold farN; split <;> omega
  u20 := by have := Z.s4; have := Z.t16; omega
  c := fun x hx k hk => colF_le (Z.fine _ (rdk_mem (by have := Z.n_le; omega))) hx
  g := fun x hx k hk => by unfold gF; split <;> decide
section
variable {s t n f : Nat} {rs : List Rdg} {u : Sx}
theorem val_bits {cc gg : Nat → Nat → Int} {u n f : Nat} {w : Sx} (L : Lim cc gg u n f) (D : Done cc gg u n f w) (j : Nat) : Bits 4010 (valOf (p2 (3 * n + f) (u + n)) w j) := by
  obtain ⟨h1, h2, h3⟩ := D.small
  have hu := L.u20
  have hn := L.n36
  have : (valOf (p2 (3 * n + f) (u + n)) w j).natAbs ≤ (u + n) * 2 ^ 4000 := S_abs fun i hi => by
    have hi : i < u + n := hi
    split
    · exact Nat.le_of_lt (h3 i (by omega) _ (by show 3 * n + f + (u + n) < _; omega))
    · exact Nat.zero_le _
  refine Nat.lt_of_le_of_lt this ?_
  have h5 : u + n < 2 ^ 10 := by
    have : (2 : Nat) ^ 10 = 1024 := by decide
    omega
  have h4 : (u + n) * 2 ^ 4000 < 2 ^ 10 * 2 ^ 4000 := Nat.mul_lt_mul_of_pos_right h5 (Nat.pow_pos (by decide))
  rw [← Nat.pow_add] at h4
  exact h4
end
section
variable {cc gg : Nat → Nat → Int} {u n f : Nat} {w : Sx}
theorem sum_bots (L : Lim cc gg u n f) (D : Done cc gg u n f w) : Bots (w.d * w.d) n (sumF n (shF (3 * n + f) (u + n) w)) ∧ ∀ i, i < n → Bits 20000 (sumF n (shF (3 * n + f) (u + n) w) i).1 := by
  have hd := D.small.1
  have hb := D.small.2.1
  have b : ∀ j, 0 < (shF (3 * n + f) (u + n) w j).2 ∧ (shF (3 * n + f) (u + n) w j).2 ∣ w.d := fun j => fr_bot hd
  have tb : ∀ j, Bits 4010 (shF (3 * n + f) (u + n) w j).1 := fun j => fr_top hd (val_bits L D j)
  have bb : ∀ j, Bits 4000 (shF (3 * n + f) (u + n) w j).2 := fun j => hb.le (Int.le_of_lt (b j).1) (Int.le_of_dvd hd (b j).2)
  refine ⟨⟨Int.mul_pos hd hd, (hb.mul hb).mono (by decide), fun i _ => ⟨Int.mul_pos (b i).1 (b (n + i)).1, Int.mul_dvd_mul (b i).2 (b (n + i)).2⟩⟩, fun i _ => ?_⟩
  exact (((tb i).mul (bb (n + i))).add ((tb (n + i)).mul (bb i))).mono (by decide)
theorem side_bots (D : Done cc gg u n f w) : Bots w.d u (siF (3 * n + f) (u + n) w) ∧ ∀ i, i < u → Bits 20000 (siF (3 * n + f) (u + n) w i).1 := by
  have hd := D.small.1
  refine ⟨⟨hd, D.small.2.1.mono (by decide), fun i _ => fr_bot hd⟩, fun i hi => (fr_top hd (D.small.2.2 (u + n) (by omega) _ (by omega))).mono (by decide)⟩
end
section
variable {K : PySem.W.Frag} {g : Gs} {σ : L2.St} {H H' A B Bs : Hp} {te ta tb tv to ti : TE} {taa : TA} {tz : TS} {D : Ends} {v y : V} {φ : V → Hp → Prop} {χ : Addr → Hp → Prop} {n : Nat}
theorem ints_zeros (k : Nat) : intsV (zeros k) = List.replicate k (V.int 0) := by unfold zeros intsV; rw [List.map_replicate]
theorem ep_rep0 {k : Nat} (hk : k ≤ 1000) (h2 : ∀ A, Ex H A → Ev tb σ A (.int (k : Int))) : EvP (tOp (rRepTT K) (tTup (tCons (tC (.int 0)) tNil)) tb) σ H (TupI K (zeros k)) := fun H1 e Q q => ⟨sz_of (by simp), fun p hp => by
  have e2 : Ex H1 (upd H1 p (.tup [.int 0])) := Ex.new hp
  refine h2 H1 e _ e2 _ fun H3 e3 => ⟨p, (k : Int), [.int 0], rfl, rfl, st_of (e3 _ _ upd_same), by simp, by omega, by omega, by simp, fun h1 => ?_, fun h1 r hr => ?_⟩
  · obtain rfl : k = 1 := by omega
    exact q _ H3 (e2.trans e3) ⟨p, rfl, st_of (e3 _ _ upd_same)⟩
  · refine q _ _ ((e2.trans e3).trans (Ex.new hr)) ⟨r, rfl, st_of ?_⟩
    rw [upd_same, Int.toNat_natCast, flat_rep, ints_zeros]⟩
theorem eap_vu {a : Addr} {xs ys : List V} (h : Ev ta σ H (.ref a)) (ha : SqT K H a xs) (h2 : EvU tb σ H ys) : EaP (tCons ta (tCons tb tNil)) σ H fun vs A => ∃ a b, vs = [.ref a, .ref b] ∧ SqT K A a xs ∧ SqT K A b ys := fun H1 e Q q =>
  h H1 e _ fun H2 e2 => h2 H2 (e.trans e2) _ fun p H3 hp e3 hy => q _ H3 (e2.trans e3) ⟨a, p, rfl, ex_t ((e.trans e2).trans e3) ha, st_of hy⟩
theorem eap_uu {xs ys : List V} (h : EvU ta σ H xs) (h2 : EvU tb σ H ys) : EaP (tCons ta (tCons tb tNil)) σ H fun vs A => ∃ a b, vs = [.ref a, .ref b] ∧ SqT K A a xs ∧ SqT K A b ys := fun H1 e Q q =>
  h H1 e _ fun p H2 hp e2 hx => h2 H2 (e.trans e2) _ fun r H3 hr e3 hy => q _ H3 (e2.trans e3) ⟨p, r, rfl, st_of (e3 _ _ hx), st_of hy⟩
theorem eap_vp {a : Addr} {xs : List V} {l : List Int} (h : Ev ta σ H (.ref a)) (ha : SqT K H a xs) (h2 : EvP tb σ H (TupI K l)) : EaP (tCons ta (tCons tb tNil)) σ H fun vs A => ∃ a b, vs = [.ref a, .ref b] ∧ SqT K A a xs ∧ SqT K A b (intsV l) := fun H1 e Q q =>
  h H1 e _ fun H2 e2 => h2 H2 (e.trans e2) _ fun p H3 e3 ⟨b, hv, hy⟩ => q _ H3 (e2.trans e3) ⟨a, b, by rw [hv], ex_t ((e.trans e2).trans e3) ha, hy⟩
end
theorem len_told_of {K : PySem.W.Frag} {g : Gs} {vs : List V} {H : Hp} {Q : VK} {E : XK} (h : sp_told_of K g vs H Q E) : vs.length = 3 := by
  obtain ⟨_, _, _, _, _, ⟨_, _, rfl, _⟩, _⟩ := h
  rfl
theorem pure_told_of {K : PySem.W.Frag} {g : Gs} (C : CF K g) (vs : List V) (H : Hp) (Q : VK) (E : XK) (h : sp_told_of K g vs H Q E) : t_told_of K g { nx := fun _ H' => Q .non H', rt := Q } (start ["program", "lot", "world", "rows", "amounts", "worths", "word", "shares", "sides", "many", "number", "kept_lot", "sums", "one", "other", "told", "amount", "numbers", "share"] vs) H := by
  obtain ⟨s, t, rs, n, w, ⟨pv, a, rfl, hp, ha, hw, Z⟩, q⟩ := h
  obtain ⟨x, dx, rv, rfl, hx, ar, xr, rfl, har, hxr, hir⟩ := id hp
  have s4 := Z.s4
  have t16 := Z.t16
  have r36 := Z.r36
  have nle := Z.n_le
  have s1 := Z.s1
  have t1 := Z.t1
  have f4 : farN s w ≤ 4 := by unfold farN; split <;> omega
  have nlen : ∀ {σ : L2.St} {A : Hp} {te : TE}, Ex H A → Ev te σ A (.ref a) → Ev (tCB (rLn K) (tCons te tNil)) σ A (.int (n : Int)) := fun e h => by
    refine ev_is (ev_lenT (K := K) h (ex_t e ha)) ?_
    rw [row_len]
  have rlen : ∀ {σ : L2.St} {A : Hp} {te : TE}, Ex H A → Ev te σ A (.ref x) → Ev (tCB (rLn K) (tCons (tFld K te "readings") tNil)) σ A (.int (rs.length : Int)) := fun e h => by
    refine ev_is (ev_lenT (K := K) (ev_fld h (e _ _ hx) C.P C.pR rfl) (ex_t e har)) ?_
    rw [hxr]
  refine q_when (et_test (ev_op (nlen (Ex.refl _) (ev_var rfl)) ev_c (rv_eq rfl))) (fun z A1 e1 => ?_) fun z A1 e1 => ?_
  · have hn : n = 0 := by rw [int_eq] at z; simpa using z
    have hx1 := e1 _ _ hx
    have p2 : EvP (tTup (tCons (tOp (rRepTT K) (tTup (tCons (tC (.int 0)) tNil)) (tFld K (tVar 0) "sides")) (tCons (tOp (rRepTT K) (tTup (tCons (tC (.int 0)) tNil)) (tFld K (tVar 0) "tables")) tNil))) [some (.ref x), some (.ref a), some (.str w), none, none, none, none, none, none, none, none, none, none, none, none, none, none, none, none] A1 (PairI K (zeros s) (zeros t)) :=
      (ep_tup (eap_cons (ep_rep0 (k := s) (by omega) fun A e => ev_fld (ev_var rfl) (e _ _ hx1) C.P C.pS rfl) (tupI_st _).up (eap_one (ep_rep0 (k := t) (by omega) fun A e => ev_fld (ev_var rfl) (e _ _ hx1) C.P C.pT rfl))) (by rintro vs A ⟨_, _, rfl, _, _, rfl, _⟩; simp)).imp fun v A e h => by
        obtain ⟨p, _, A0, hv, h1, e2, _, _, rfl, ⟨b, rfl, h2⟩, _, rfl, ⟨c, rfl, h3⟩⟩ := h
        exact ⟨p, b, c, hv, st_of h1, ex_t e2 h2, ex_t e2 h3⟩
    refine sp_ret (ep_tup (eap_cons (eu_ep (eu_tup ea_nil (by simp))) (fun v A B e ⟨p, hv, h⟩ => ⟨p, hv, e _ _ h⟩) (eap_cons (ep_rep0 (k := rs.length) (by omega) fun A e => rlen (e1.trans e) (ev_var rfl)) (tupI_st _).up (eap_one p2))) (by rintro vs A ⟨_, _, rfl, _, _, _, rfl, _, _, rfl, _⟩; simp)) fun v A e h => ?_
    obtain ⟨p, _, A0, rfl, h1, e2, _, _, rfl, ⟨b, rfl, h2⟩, _, _, rfl, ⟨c, rfl, h3⟩, _, rfl, h4⟩ := h
    obtain ⟨d, d1, d2, rfl, h5⟩ := pair_st _ _ _ _ _ (ex_loose e2) h4
    exact q _ A (e1.trans e) ⟨⟨[], zeros rs.length, zeros s, zeros t⟩, p, b, c, d, .inl ⟨hn, rfl⟩, rfl, st_of h1, ⟨b, rfl, st_of (e2 _ _ h2)⟩, ⟨c, rfl, ex_t e2 h3⟩, d, d1, d2, rfl, h5⟩
  · have hn : 0 < n := by rw [int_eq] at z; simp at z; omega
    have L := Z.lim hn w
    -- the task, its solution
    refine qk_asg (ep_call (sp := sp_task_of K g) (φ := TaskAt K s t rs n (farN s w)) (ea_cons (ev_var rfl) (ea_cons (ev_var rfl) (ea_cons (ev_var rfl) ea_nil))) fun H1 e Q q E => ⟨s, t, rs, _, a, n, w, rfl, prog_st _ _ _ (ex_loose (e1.trans e)) hp, ex_t (e1.trans e) ha, hw, Z, q⟩) fun v A2 e2 hT => ?_
    obtain ⟨tp, ta, tb, tc, rfl, hT, hR, hB, hC⟩ := hT
    refine pt_three hT _ fun A3 e3 => ?_
    refine qk_asg (ep_call (sp := sp_solved K g) (φ := fun v H2 => ∃ u p a b, v = .ref p ∧ EndU s t rs n (farN s w) u ∧ SqT K H2 p [.str "best", .ref a, .ref b] ∧ FrsT K (3 * n + farN s w) (shF (3 * n + farN s w) (t + s + n) u) (.ref a) H2 ∧ FrsT K (t + s + n) (siF (3 * n + farN s w) (t + s + n) u) (.ref b) H2) (ea_cons (ev_var rfl) (ea_cons (ev_var rfl) (ea_cons (ev_var rfl) ea_nil))) fun H1 e Q q E => ⟨ta, tb, tc, cF t rs, gF t, t + s, n, farN s w, rfl, hR.up (e3.trans e), (e3.trans e) _ _ hB, (e3.trans e) _ _ hC, L, q⟩) fun v A4 e4 hS => ?_
    obtain ⟨u, sp, sa, sb, rfl, hU, hS, hsh, hsi⟩ := hS
    have Dn : Done (cF t rs) (gF t) (t + s) n (farN s w) u := FinU.done L hU
    have ⟨sbo, sbt⟩ := sum_bots L Dn
    have ⟨ibo, ibt⟩ := side_bots Dn
    have td : toldU s t rs n (farN s w) u = toldU s t rs n (farN s w) u := rfl
    generalize hsf : shF (3 * n + farN s w) (t + s + n) u = sh at *
    generalize hif : siF (3 * n + farN s w) (t + s + n) u = si at *
    refine pt_three hS _ fun A5 e5 => ?_
    have e15 : Ex H A5 := (((e1.trans e2).trans e3).trans e4).trans e5
    refine q_asg (nlen e15 (ev_var rfl)) fun A6 e6 => ?_
    have e16 := e15.trans e6
    obtain ⟨sa', xs, hsa, hxs, hxl, hxi⟩ := frs_st _ _ _ _ _ (ex_loose (e5.trans e6)) hsh
    obtain rfl : sa = sa' := by injection hsa
    have cut1 : cutV xs none (some (n : Int)) = xs.take n := cut_to
    have cut2 : cutV xs (some (n : Int)) (some ((2 * n : Nat) : Int)) = (xs.drop n).take n := by rw [cut_mid (by omega) (by omega), show 2 * n - n = n by omega]
    -- the kept ones
    refine q_asgU (eu_tupL (el_lcV (n := n) ((ei_zipT (eap_vu (ev_var rfl) (ex_t e16 ha) (eu_slice (ev_var rfl) eo_none (eo_some (ev_var rfl)) hxs (by rw [HT.sIx_none, HT.sIx_nat]; omega))) row_len (by rw [cut1, List.length_take]; omega)).weak fun _ _ e => ex_tt e) (by omega) (fun i => decide (0 < (sh i).1)) (fun i => .int (i : Int)) fun i z A e hi it => ?_)) fun kp A7 _ e7 h7 => ?_
    · obtain ⟨T, z1, z2, rfl, hT, hz1, hz2⟩ := it
      rw [row_at hi] at hz1
      obtain rfl := Option.some.inj hz1
      rw [cut1, List.getElem?_take_of_lt hi] at hz2
      obtain ⟨c, rfl, hc⟩ := frAt_st _ _ _ _ (ex_loose e) (hxi i _ hz2)
      exact ⟨_, pt_two (st_of hT), rfl, et_test (ev_op (ep_ixT (ev_var rfl) ev_c hc rfl) ev_c rv_I0), fun _ => ev_var rfl⟩
    have e17 := e16.trans e7
    have hxs7 := ex_t e7 hxs
    have hxi7 : ∀ (i : Nat) z, xs[i]? = some z → FrAt K (sh i) z A7 := fun i z hz => frAt_st _ _ _ _ (ex_loose e7) (hxi i z hz)
    -- the sums
    refine q_asgL (el_lst ea_nil (by simp)) fun pm A8 hpm e8 h8 => ?_
    have b2 : Bits 2 2 := by unfold Bits; decide
    have bn : Bits 10 n := bits_of 36 (by omega) (by decide)
    have sl1 : ∀ A, Ex A8 A → EvU (tSl (rSlT K) (tVar 7) tNoPart (tPart (tVar 9))) [some (.ref x), some (.ref a), some (.str w), some (.ref ta), some (.ref tb), some (.ref tc), some (.str "best"), some (.ref sa), some (.ref sb), some (.int (n : Int)), none, some (.ref kp), some (.ref pm), none, none, none, none, none, none] A (xs.take n) := fun A e =>
      cut1 ▸ eu_slice (ev_var rfl) eo_none (eo_some (ev_var rfl)) (ex_t (e8.trans e) hxs7) (by rw [HT.sIx_none, HT.sIx_nat]; omega)
    have sl2 : ∀ A, Ex A8 A → EvU (tSl (rSlT K) (tVar 7) (tPart (tVar 9)) (tPart (tOp rMulI (tC (.int 2)) (tVar 9)))) [some (.ref x), some (.ref a), some (.str w), some (.ref ta), some (.ref tb), some (.ref tc), some (.str "best"), some (.ref sa), some (.ref sb), some (.int (n : Int)), none, some (.ref kp), some (.ref pm), none, none, none, none, none, none] A ((xs.drop n).take n) := fun A e =>
      cut2 ▸ eu_slice (ev_var rfl) (eo_some (ev_var rfl)) (eo_some (ev_is (ev_op ev_c (ev_var rfl) (rv_I (mulW b2 bn (by decide)))) (by rw [Int.natCast_mul] <;> rfl))) (ex_t (e8.trans e) hxs7) (by rw [HT.sIx_nat, HT.sIx_nat]; omega)
    refine q_for (n := n) (ei_zipT (eap_uu (sl1 _ (Ex.refl _)) (sl2 _ (Ex.refl _))) (by rw [List.length_take]; omega) (by rw [List.length_take, List.length_drop]; omega)) (fun A1 i σ' A => Ex A7 A ∧ Loose A1 A ∧ (∃ ys : List V, A pm = some (.lst ys) ∧ ys.length = i ∧ ∀ (j : Nat) z, ys[j]? = some z → FrAt K (sumF n sh j) z A) ∧
        ∃ u13 u14, σ' = [some (.ref x), some (.ref a), some (.str w), some (.ref ta), some (.ref tb), some (.ref tc), some (.str "best"), some (.ref sa), some (.ref sb), some (.int (n : Int)), none, some (.ref kp), some (.ref pm), u13, u14, none, none, none, none])
      (fun A e => ⟨e8.trans e, ex_loose (Ex.refl _), ⟨[], e _ _ h8, rfl, nofun⟩, _, _, rfl⟩) (fun A i σ' B e _ p => Loose.t p.2.1) (fun A i σ' B z B2 e hi p e3 it => ?_) fun A σ' B e p => ?_
    · obtain ⟨eB, lB, ⟨ys, hy1, hy2, hy3⟩, u13, u14, rfl⟩ := p
      obtain ⟨T, z1, z2, rfl, hT, hz1, hz2⟩ := it
      rw [List.getElem?_take_of_lt hi] at hz1
      rw [List.getElem?_take_of_lt hi, List.getElem?_drop] at hz2
      refine pt_two (st_of hT) _ fun B3 e4 => ?_
      have e34 := e3.trans e4
      have eB3 := eB.trans e34
      obtain ⟨c1, rfl, hc1⟩ := frAt_st _ _ _ _ (ex_loose eB3) (hxi7 i _ hz1)
      obtain ⟨c2, rfl, hc2⟩ := frAt_st _ _ _ _ (ex_loose eB3) (hxi7 (n + i) _ hz2)
      have hd := Dn.small.1
      have hbd := Dn.small.2.1
      have w1 : ∀ j, Bits 4010 (sh j).1 := fun j => by rw [← hsf]; exact fr_top hd (val_bits L Dn j)
      have w2 : ∀ j, Bits 4000 (sh j).2 := fun j => by rw [← hsf]; exact hbd.le (Int.le_of_lt (fr_bot hd).1) (Int.le_of_dvd hd (fr_bot hd).2)
      refine sk_app (e34 _ _ hy1) (ev_var rfl) ((eu_ep (eu_tup (ea_cons (ev_op (ev_op (ep_ixT (ev_var rfl) ev_c hc1 rfl) (ep_ixT (ev_var rfl) ev_c hc2 rfl) (rv_I (mulW (w1 i) (w2 (n + i)) (by decide)))) (ev_op (ep_ixT (ev_var rfl) ev_c hc2 rfl) (ep_ixT (ev_var rfl) ev_c hc1 rfl) (rv_I (mulW (w1 (n + i)) (w2 i) (by decide)))) rv_I0) (ea_cons (ev_op (ep_ixT (ev_var rfl) ev_c hc1 rfl) (ep_ixT (ev_var rfl) ev_c hc2 rfl) (rv_I (mulW (w2 i) (w2 (n + i)) (by decide)))) ea_nil)) (by simp))).imp (ψ := FrAt K (sumF n sh i)) fun v A e ⟨p, hv, h⟩ => ⟨p, hv, st_of h⟩) (by omega) fun v B5 e6 h5 hv => ⟨?_, ?_, ⟨_, upd_same, by simp [hy2], fun j z hj => ?_⟩, _, _, rfl⟩
      · exact (eB3.trans e6).mut hpm
      · exact ((lB.trans (ex_loose e34)).trans (ex_loose e6)).trans (loose_upd h5)
      · by_cases hj2 : j < ys.length
        · rw [List.getElem?_append_left hj2] at hj
          exact frAt_st _ _ _ _ ((ex_loose (e34.trans e6)).trans (loose_upd h5)) (hy3 j z hj)
        · rw [List.getElem?_append_right (by omega)] at hj
          have hj0 : j - ys.length = 0 := by
            have := (List.getElem?_eq_some_iff.mp hj).1
            simpa using this
          rw [hj0] at hj
          obtain rfl : v = z := by simpa using hj
          obtain rfl : j = i := by omega
          exact frAt_st _ _ _ _ (loose_upd h5) hv
    obtain ⟨eB, lB, ⟨ys, hy1, hy2, hy3⟩, u13, u14, rfl⟩ := p
    have e1B := e17.trans eB
    -- what is told
    refine q_asgL (el_rep (k := rs.length) ev_c (rlen e1B (ev_var rfl)) (by omega)) fun pt A9 hpt e9 h9 => ?_
    rw [rep_row] at h9
    have hfr : ∀ A, Ex A9 A → FrsL K n (sumF n sh) (.ref pm) A := fun A e => ⟨pm, ys, rfl, sq_of ((e9.trans e) _ _ hy1), hy2, fun j z hj => frAt_st _ _ _ _ (ex_loose (e9.trans e)) (hy3 j z hj)⟩
    refine q_for (n := n) (ei_zipT (eap_vp (ev_var rfl) (ex_t (e1B.trans e9) ha) (ep_call (sp := sp_whole_l K g) (ea_cons (ev_var rfl) ea_nil) fun H1 e Q q E => ⟨_, n, sumF n sh, _, rfl, hfr H1 e, by omega, sbo, sbt, q⟩)) row_len (by unfold wholeF; simp)) (fun A1 i σ' A => Ex B A ∧ Loose A1 A ∧ A pt = some (.lst (row rs.length fun k => if k < i then (wholeF n (sumF n sh)).getD k 0 else 0)) ∧
        ∃ u10 u16, σ' = [some (.ref x), some (.ref a), some (.str w), some (.ref ta), some (.ref tb), some (.ref tc), some (.str "best"), some (.ref sa), some (.ref sb), some (.int (n : Int)), u10, some (.ref kp), some (.ref pm), u13, u14, some (.ref pt), u16, none, none])
      (fun A e => ⟨e9.trans e, ex_loose (Ex.refl _), by rw [e _ _ h9]; congr 2, _, _, rfl⟩) (fun A i σ' B e _ p => Loose.t p.2.1) (fun A i σ' B' z B2 e hi p e3 it => ?_) fun A σ' B' e p => ?_
    · obtain ⟨eB', lB', hpt', u10, u16, rfl⟩ := p
      obtain ⟨T, z1, z2, rfl, hT, hz1, hz2⟩ := it
      rw [row_at hi] at hz1
      obtain rfl := Option.some.inj hz1
      obtain ⟨k, hk, rfl⟩ := ints_at hz2
      refine pt_two (st_of hT) _ fun B3 e4 => ?_
      refine s_setL (j := i) ((e3.trans e4) _ _ hpt') (ev_var rfl) (ev_var rfl) (ev_var rfl) (by rw [row_len]; omega) fun B4 e5 => ⟨?_, ?_, ?_, _, _, rfl⟩
      · exact (((eB'.trans e3).trans e4).trans e5).mut hpt
      · exact ((lB'.trans (ex_loose (e3.trans e4))).trans (ex_loose e5)).trans (loose_upd (e5 _ _ ((e3.trans e4) _ _ hpt')))
      · rw [upd_same, row_set]
        congr 2
        refine row_ext fun j hj => ?_
        by_cases hji : j = i
        · subst hji
          rw [if_pos rfl, if_pos (by omega), List.getD_eq_getElem?_getD, hk] <;> rfl
        · rw [if_neg hji]
          by_cases h2 : j < i
          · rw [if_pos h2, if_pos (by omega)]
          · rw [if_neg h2, if_neg (by omega)]
    obtain ⟨eB', lB', hpt', u10, u16, rfl⟩ := p
    have e7B : Ex A7 B' := eB.trans eB'
    have eHB := e17.trans e7B
    have hsi8 : FrsT K (t + s + n) si (.ref sb) B' := frs_st _ _ _ _ _ (ex_loose (((e5.trans e6).trans e7).trans e7B)) hsi
    obtain ⟨sb', xi, hsb, hxi1, hxi2, hxi3⟩ := hsi8
    obtain rfl : sb = sb' := by injection hsb
    have tsn : ∀ {σ : L2.St} {A : Hp} {te : TE}, Ex H A → Ev te σ A (.ref x) → Ev (tOp rAddI (tFld K te "tables") (tFld K te "sides")) σ A (.int ((t + s : Nat) : Int)) := fun e h => ev_is (ev_op (ev_fld h (e _ _ hx) C.P C.pT rfl) (ev_fld h (e _ _ hx) C.P C.pS rfl) rv_I0) (by rw [Int.natCast_add])
    have htk : ∀ A v, Ex B' A → A v = some (.tup (xi.take (t + s))) → FrsT K (t + s) si (.ref v) A := fun A v e h => ⟨v, _, rfl, st_of h, by rw [List.length_take]; omega, fun i z hz => by
      have hi2 : i < t + s := by
        have := (List.getElem?_eq_some_iff.mp hz).1
        rw [List.length_take] at this
        omega
      rw [List.getElem?_take_of_lt hi2] at hz
      exact frAt_st _ _ _ _ (ex_loose e) (hxi3 i z hz)⟩
    refine qp_asg (φ := TupI K (wholeF (t + s) si)) (epp_call (sp := sp_whole K g) (eap_one (eu_ep (cut_to ▸ eu_slice (lo := none) (hi := some ((t + s : Nat) : Int)) (ev_var rfl) eo_none (eo_some (tsn eHB (ev_var rfl))) hxi1 (by rw [HT.sIx_none, HT.sIx_nat]; omega)))) fun vs A e ⟨v, hv, p, hv2, hp2⟩ Q q E => ⟨_, t + s, si, _, by rw [hv, hv2] <;> rfl, htk A p e hp2, by omega, ibo, ibt, q⟩) fun v A10 e10 hnum => ?_
    obtain ⟨pn, rfl, hpn⟩ := hnum
    have hln : (intsV (wholeF (t + s) si)).length = t + s := by unfold wholeF; simp
    have hx10 := (eHB.trans e10) _ _ hx
    have pr : EvP (tTup (tCons (tSl (rSlT K) (tVar 17) (tPart (tFld K (tVar 0) "tables")) tNoPart) (tCons (tSl (rSlT K) (tVar 17) tNoPart (tPart (tFld K (tVar 0) "tables"))) tNil))) [some (.ref x), some (.ref a), some (.str w), some (.ref ta), some (.ref tb), some (.ref tc), some (.str "best"), some (.ref sa), some (.ref sb), some (.int (n : Int)), u10, some (.ref kp), some (.ref pm), u13, u14, some (.ref pt), u16, some (.ref pn), none] A10 (PairI K ((wholeF (t + s) si).drop t) ((wholeF (t + s) si).take t)) := by
      refine (ep_tup (eap_cons (eu_ep (eu_slice (lo := some (t : Int)) (hi := none) (ev_var rfl) (eo_some (ev_fld (ev_var rfl) hx10 C.P C.pT rfl)) eo_none hpn (by rw [HT.sIx_none, HT.sIx_nat, hln]; omega))) (fun v A B e ⟨p, hv, h⟩ => ⟨p, hv, e _ _ h⟩) (eap_one (eu_ep (eu_slice (lo := none) (hi := some (t : Int)) (ev_var rfl) eo_none (eo_some (ev_fld (ev_var rfl) hx10 C.P C.pT rfl)) hpn (by rw [HT.sIx_none, HT.sIx_nat, hln]; omega))))) (by rintro vs A ⟨_, _, rfl, _, _, rfl, _⟩; simp)).imp fun v A e h => ?_
      obtain ⟨p, _, A0, hv, h1, e2, _, _, rfl, ⟨b, rfl, h2⟩, _, rfl, ⟨c, rfl, h3⟩⟩ := h
      refine ⟨p, b, c, hv, st_of h1, ex_t e2 ?_, ex_t e2 ?_⟩
      · rw [cut_from] at h2
        unfold intsV
        rw [List.map_drop]
        exact st_of h2
      · rw [cut_to] at h3
        unfold intsV
        rw [List.map_take]
        exact st_of h3
    refine sp_ret (ep_tup (eap_v (ev_var rfl) (eap_cons (eu_ep (eu_tupV (K := K) (ev_var rfl) (e10 _ _ hpt'))) (fun v A B e ⟨p, hv, h⟩ => ⟨p, hv, e _ _ h⟩) (eap_one pr))) (by rintro vs A ⟨_, rfl, _, _, rfl, _, _, rfl, _⟩; simp)) fun v A e h => ?_
    obtain ⟨p, _, A0, rfl, h1, e2, _, rfl, _, _, rfl, ⟨c, rfl, h3⟩, _, rfl, h4⟩ := h
    obtain ⟨d, d1, d2, rfl, h5⟩ := pair_st _ _ _ _ _ (ex_loose e2) h4
    refine q _ A ((eHB.trans e10).trans e) ⟨toldU s t rs n (farN s w) u, p, kp, c, d, .inr ⟨hn, u, hU, rfl⟩, rfl, st_of h1, ⟨kp, rfl, ?_⟩, ⟨c, rfl, ?_⟩, d, d1, d2, rfl, ?_⟩
    · have := (e7B.trans (e10.trans e)) _ _ h7
      refine st_of ?_
      rw [this]
      show _ = some (HO.tup (intsV (((List.range n).filter fun k => decide (0 < (shF (3 * n + farN s w) (t + s + n) u k).1)).map fun (k : Nat) => (k : Int))))
      rw [hsf]
      unfold intsV kept_
      rw [List.map_map]
      rfl
    · refine ex_t e2 (st_of ?_)
      rw [h3]
      show _ = some (HO.tup (intsV (wholeF n (sumF n (shF (3 * n + farN s w) (t + s + n) u)) ++ zeros (rs.length - n))))
      rw [hsf]
      congr 2
      have hwl : (wholeF n (sumF n sh)).length = n := by unfold wholeF; simp
      refine (ints_row (by unfold zeros; rw [List.length_append, hwl, List.length_replicate]; omega) fun j hj => ?_).symm
      rw [List.getD_eq_getElem?_getD]
      by_cases hjn : j < n
      · rw [if_pos hjn, List.getElem?_append_left (by omega), List.getD_eq_getElem?_getD]
      · rw [if_neg hjn, List.getElem?_append_right (by omega)]
        unfold zeros
        rw [List.getElem?_replicate]
        split <;> rfl
    · show SqT K A d [.ref d1, .ref d2] ∧ SqT K A d1 (intsV ((wholeF (t + s) (siF (3 * n + farN s w) (t + s + n) u)).drop t)) ∧ SqT K A d2 (intsV ((wholeF (t + s) (siF (3 * n + farN s w) (t + s + n) u)).take t))
      rw [hif]
      exact h5
end TW
namespace TW
open PySem L2 Evl RS RZ TN
/-! ### the pool, draws -/
theorem cmL {i j : Int} (h : -(2 ^ 64) < i ∧ i < 2 ^ 64) : CMul i j := .inl h
theorem cmR {i j : Int} (h : -(2 ^ 64) < j ∧ j < 2 ^ 64) : CMul i j := .inr h
theorem p64 : (2 : Int) ^ 64 = 18446744073709551616 := by decide
/-- te gives, at H, something that φ knows; the pool may turn -/
def EvD (p c : Addr) (te : TE) (σ : L2.St) (H : Hp) (φ : V → Hp → Prop) : Prop := ∀ Q : VK, RetD p c φ H Q → te σ H Q
/-- .. a new list -/
abbrev RetDF (p c : Addr) (χ : Addr → Hp → Prop) (H : Hp) (Q : VK) : Prop := ∀ l H2, H l = none → ExP p c H H2 → Pool p c H2 → χ l H2 → Q (.ref l) H2
def EvDF (p c : Addr) (te : TE) (σ : L2.St) (H : Hp) (χ : Addr → Hp → Prop) : Prop := ∀ Q : VK, RetDF p c χ H Q → te σ H Q
section
variable {K : PySem.W.Frag} {g : Gs} {σ : L2.St} {H H' A B Bs : Hp} {te ta tb tv to ti : TE} {taa : TA} {tz tu : TS} {D : Ends} {v y : V} {φ : V → Hp → Prop} {χ : Addr → Hp → Prop} {n : Nat} {p c : Addr}
theorem ExP.trans {A B C : Hp} (e : ExP p c A B) (e' : ExP p c B C) : ExP p c A C := fun b o h1 h2 h => e' b o h1 h2 (e b o h1 h2 h)
theorem exP_ex (e : Ex A B) : ExP p c A B := fun b o _ _ h => e b o h
theorem Pool.ex (e : Ex A B) (h : Pool p c A) : Pool p c B := let ⟨s, k, l, h1, h2, h3⟩ := h; ⟨s, k, l, e _ _ h1, e _ _ h2, h3⟩
theorem exP_loose (h : Pool p c A) (e : ExP p c A B) : Loose A B := fun b o n hb => by
  obtain ⟨s, k, l, h1, h2, _⟩ := h
  refine e b o ?_ ?_ hb
  · rintro rfl; rw [h1] at hb; exact n _ (Option.some.inj hb).symm
  · rintro rfl; rw [h2] at hb; exact n _ (Option.some.inj hb).symm
/-- what was new stays new behind a turn: nothing of the pool is new -/
theorem poolP (h : Pool p c A) : A p ≠ none ∧ A c ≠ none := by
  obtain ⟨s, k, l, h1, h2, _⟩ := h
  rw [h1, h2]
  exact ⟨nofun, nofun⟩
theorem exP_new {l : Addr} {o : HO} (h : Pool p c H) (hl : H l = none) (e : ExP p c A B) (hA : A l = some o) : B l = some o := by
  have ⟨h1, h2⟩ := poolP h
  exact e l o (by rintro rfl; exact h1 hl) (by rintro rfl; exact h2 hl) hA
theorem freshP {l : Addr} (h : Pool p c H) (e : ExP p c H A) (hl : A l = none) (hA : Pool p c A) : H l = none := by
  cases hH : H l with
  | none => rfl
  | some o =>
    have ⟨h1, h2⟩ := poolP hA
    rw [e l o (by rintro rfl; exact h1 hl) (by rintro rfl; exact h2 hl) hH] at hl
    cases hl
theorem ed_ev (P : Pool p c H) (h : EvP te σ H φ) : EvD p c te σ H φ := fun Q q => h H (Ex.refl H) Q fun v H2 e k => q v H2 (exP_ex e) (P.ex e) k
theorem ed_draw {m : Int} (P : Pool p c H) (h : EvA taa σ H [.ref p, .int m]) (h0 : 0 < m) (h1 : m < 2 ^ 64) : EvD p c (tCall (sp__law_draw K g) [] E0 taa) σ H fun v _ => ∃ r : Int, v = .int r ∧ 0 ≤ r ∧ r < m := fun Q q =>
  h H (Ex.refl H) _ fun H2 e => ⟨p, c, m, rfl, P.ex e, h0, h1, fun v H3 e3 P3 k => q v H3 ((exP_ex e).trans e3) P3 k⟩
theorem ed_step {s : Nat} (P : Pool p c H) (h : EvA taa σ H [.ref p, .int (s : Int)]) (h1 : s ≤ 4) : EvD p c (tCall (sp__law_step K g) [] E0 taa) σ H fun v A => ∃ l, StepI s 100000000000 l ∧ TupI K l v A := fun Q q =>
  h H (Ex.refl H) _ fun H2 e => ⟨p, c, s, rfl, P.ex e, h1, fun v H3 e3 P3 k => q v H3 ((exP_ex e).trans e3) P3 k⟩
theorem qd_asg {i : Nat} (h : EvD p c te σ H φ) (k : ∀ v H1, ExP p c H H1 → Pool p c H1 → φ v H1 → tz D (σ.set i (some v)) H1) : tSeq (tAsg te (gName i)) tz D σ H := h _ k
theorem sd_asg {i : Nat} (h : EvD p c te σ H φ) (k : ∀ v H1, ExP p c H H1 → Pool p c H1 → φ v H1 → D.nx (σ.set i (some v)) H1) : tAsg te (gName i) D σ H := h _ k
theorem qdf_asg {i : Nat} (h : EvDF p c te σ H χ) (k : ∀ l H1, H l = none → ExP p c H H1 → Pool p c H1 → χ l H1 → tz D (σ.set i (some (.ref l))) H1) : tSeq (tAsg te (gName i)) tz D σ H := h _ k
/-- a + b, b drawn -/
theorem ed_op {x : V} {r : R2} {ψ : V → Hp → Prop} (P : Pool p c H) (h : Ev ta σ H x) (h2 : ∀ A, Ex H A → EvD p c tb σ A φ) (hr : ∀ v A, φ v A → ∃ z, ψ z A ∧ ∀ Q : VK, Q z A → r x v A Q) : EvD p c (tOp r ta tb) σ H ψ := fun Q q =>
  h H (Ex.refl H) _ fun H2 e => h2 H2 e _ fun v H3 e3 P3 k => by
    obtain ⟨z, hz, hq⟩ := hr v H3 k
    exact hq Q (q z H3 ((exP_ex e).trans e3) P3 hz)
/-- b op x behind a draw -/
theorem ed_opL {x : V} {r : R2} {ψ : V → Hp → Prop} (h : EvD p c ta σ H φ) (h2 : ∀ A, ExP p c H A → Ev tb σ A x) (hr : ∀ v A, φ v A → ∃ z, (∀ B, Ex A B → ψ z B) ∧ ∀ B, Ex A B → ∀ Q : VK, Q z B → r v x B Q) : EvD p c (tOp r ta tb) σ H ψ := fun Q q =>
  h _ fun v H2 e2 P2 k => h2 H2 e2 H2 (Ex.refl _) _ fun H3 e3 => by
    obtain ⟨z, hz, hq⟩ := hr v H2 k
    exact hq H3 e3 Q (q z H3 (e2.trans (exP_ex e3)) (P2.ex e3) (hz H3 e3))
/-- a comprehension over range(n), each item drawn -/
theorem ed_lc {j : Nat} {vs : List Nat} (P : Pool p c H) (h : EvA taa σ H [.int (n : Int)]) (hn : n ≤ 40000) (φ : Nat → V → Hp → Prop) (up : ∀ i, StabT (φ i)) (hw : ∀ x, wipe ((wipe σ vs).set j (some x)) vs = wipe σ vs)
    (hs : ∀ i A, ExP p c H A → Pool p c A → i < n → EvD p c te ((wipe σ vs).set j (some (.int (i : Int)))) A (φ i)) :
    EvDF p c (tLc (iRng1 taa) (gName j) tYes te vs) σ H fun l A => ∃ out : List V, A l = some (.lst out) ∧ out.length = n ∧ ∀ (i : Nat) x, out[i]? = some x → φ i x A := fun Q q =>
  h H (Ex.refl H) _ fun H1 e1 => ⟨(n : Int), rfl, by omega, by omega, fun Dl hD => by
    have P1 := P.ex e1
    have hDH : H Dl = none := fresh_back e1 hD
    refine lc_range (lo := 0) (n := (n : Int).toNat) (fun i A => ExP p c H A ∧ Pool p c A ∧ ∃ out : List V, A Dl = some (.lst out) ∧ out.length = i ∧ ∀ (k : Nat) x, out[k]? = some x → φ k x A) ⟨(exP_ex e1).trans (exP_ex (Ex.new hD)), P1.ex (Ex.new hD), [], upd_same, rfl, nofun⟩ (fun i A hi ⟨eA, PA, out, ho, hl, hx⟩ => ?_) fun A ⟨eA, PA, out, ho, hl, hx⟩ => q Dl A hDH eA PA ⟨out, ho, by rw [hl, Int.toNat_natCast], hx⟩
    rw [Int.toNat_natCast] at hi
    show wipe ((wipe σ vs).set j (some (.int (0 + (i : Int))))) vs = wipe σ vs ∧ te ((wipe σ vs).set j (some (.int (0 + (i : Int))))) A _
    rw [Int.zero_add]
    refine ⟨hw _, hs i A eA PA hi _ fun v A2 e2 P2 kk => ⟨out, exP_new P hDH e2 ho, sz_lt (by omega), ?_⟩⟩
    have hb := exP_new P hDH e2 ho
    have nP : Dl ≠ p := by rintro rfl; exact (poolP P).1 hDH
    have nC : Dl ≠ c := by rintro rfl; exact (poolP P).2 hDH
    refine ⟨fun b o h1 h2 hbo => ?_, ?_, out ++ [v], upd_same, by simp [hl], fun k x hk => ?_⟩
    · rw [upd_ne (by rintro rfl; rw [hDH] at hbo; cases hbo)]
      exact (eA.trans e2) b o h1 h2 hbo
    · obtain ⟨s, k0, l, h1, h2, h3⟩ := P2
      exact ⟨s, k0, l, by rw [upd_ne nP.symm]; exact h1, by rw [upd_ne nC.symm]; exact h2, h3⟩
    · by_cases hk2 : k < out.length
      · rw [List.getElem?_append_left hk2] at hk
        exact up k _ _ _ ((exP_loose PA e2).trans (loose_upd hb)) (hx k x hk)
      · rw [List.getElem?_append_right (by omega)] at hk
        have hk0 : k - out.length = 0 := by
          have := (List.getElem?_eq_some_iff.mp hk).1
          simpa using this
        rw [hk0] at hk
        obtain rfl : v = x := by simpa using hk
        obtain rfl : k = i := by omega
        exact up _ _ _ _ (loose_upd hb) kk⟩
/-- [x, y, a new list] -/
theorem ef_lst3 {x y : V} {xs : List V} {tc : TE} (h1 : Ev ta σ H x) (h2 : Ev tb σ H y) (h3 : EvL tc σ H xs) : EvF (tLst (tCons ta (tCons tb (tCons tc tNil)))) σ H fun p A => ∃ c, A p = some (.lst [x, y, .ref c]) ∧ A c = some (.lst xs) ∧ p ≠ c ∧ H c = none := fun H1 e Q q =>
  h1 H1 e _ fun H2 e2 => h2 H2 (e.trans e2) _ fun H3 e3 => h3 H3 ((e.trans e2).trans e3) _ fun c H4 hc e4 hx => ⟨sz_of (by simp), fun p hp => by
    have npc : p ≠ c := by rintro rfl; rw [hx] at hp; cases hp
    exact q p _ (fresh_back ((e2.trans e3).trans e4) hp) (((e2.trans e3).trans e4).trans (Ex.new hp)) ⟨c, upd_same, by rw [upd_ne npc.symm]; exact hx, npc, fresh_back ((e.trans e2).trans e3) hc⟩⟩
end
theorem abs_eq (i : Int) : (if i < 0 then -i else i) = (i.natAbs : Int) := by split <;> omega
theorem len__law_pool {K : PySem.W.Frag} {g : Gs} {vs : List V} {H : Hp} {Q : VK} {E : XK} (h : sp__law_pool K g vs H Q E) : vs.length = 1 := by
  obtain ⟨_, _, rfl, _⟩ := h
  rfl
theorem pure__law_pool {K : PySem.W.Frag} {g : Gs} (C : CF K g) (vs : List V) (H : Hp) (Q : VK) (E : XK) (h : sp__law_pool K g vs H Q E) : t__law_pool K g { nx := fun _ H' => Q .non H', rt := Q } (start ["_law_script", "_law_seed", "_law_cell"] vs) H := by
  obtain ⟨a, ns, rfl, ha, hl, q⟩ := h
  have hcut : cutV (intsV ns) none (some 63) = intsV ns := by
    rw [show (63 : Int) = ((63 : Nat) : Int) from rfl, cut_to, List.take_of_length_le (by rw [List.length_map]; omega)]
  have sl : ∀ {σ : L2.St} {A : Hp}, Ex H A → σ[0]? = some (some (.ref a)) → EvL (tSl (rSlL K) (tVar 0) tNoPart (tPart (tC (.int 63)))) σ A (intsV ns) := fun e h0 => hcut ▸ el_sl (ev_var h0) eo_none (eo_some ev_c) (ex_l e ha)
  have sum1 : Ev (tCB (rSum K) (tCons (tSl (rSlL K) (tVar 0) tNoPart (tPart (tC (.int 1)))) tNil)) [some (.ref a), none, none] H (.int (ns.take 1).sum) := fun H1 e Q q =>
    (el_sl (lo := none) (hi := some 1) (ev_var rfl) eo_none (eo_some ev_c) ha) H1 e _ fun l H2 hl e2 h2 => ⟨l, ns.take 1, rfl, by
      have : cutV (intsV ns) none (some 1) = intsV (ns.take 1) := by
        rw [show (1 : Int) = ((1 : Nat) : Int) from rfl, cut_to]
        unfold intsV; rw [List.map_take]
      rw [this] at h2
      exact sq_of h2, q H2 e2⟩
  have int1 : ∀ {σ : L2.St} {A : Hp} {te : TE} {i : Int}, Ev te σ A (.int i) → Ev (tCB rInt1 (tCons te tNil)) σ A (.int i) := fun h => ev_cb (ea_cons h ea_nil) fun H1 e Q q => .inl ⟨_, rfl, q H1 (Ex.refl H1)⟩
  have ab1 : ∀ {σ : L2.St} {A : Hp} {te : TE} {i : Int}, Ev te σ A (.int i) → Ev (tCB rAbs1 (tCons te tNil)) σ A (.int (i.natAbs : Int)) := fun h => ev_is (ev_cb (ea_cons h ea_nil) fun H1 e Q q => ⟨_, rfl, q H1 (Ex.refl H1)⟩) (by rw [abs_eq])
  refine q_asg (ev_op (ev_op (ev_op (int1 sum1) ev_c (rv_I (by decide : (0 : Int) < 1000003))) (ev_lenL (ev_var rfl) ha) rv_I0) ev_c rv_I0) fun A1 e1 => ?_
  refine q_for (n := ns.length) (item := fun i x _ => (intsV ns)[i]? = some x) (ei_listP (ep_f (ep_l (sl e1 rfl))) fun v A e ⟨l, hv, h⟩ => ⟨l, intsV ns, hv, sq_of h, by simp, fun i x hx B _ => hx⟩) (fun A1 i σ' A => Ex A1 A ∧ ∃ u1 u2, σ' = [some (.ref a), some (.int u1), u2]) (fun A e => ⟨Ex.refl A, _, _, rfl⟩) (fun A i σ' B e _ p => p.1) (fun A i σ' B x B2 e hi p e3 it => ?_) fun A σ' B e p => ?_
  · obtain ⟨p1, u1, u2, rfl⟩ := p
    obtain ⟨k, hk, rfl⟩ := ints_at it
    refine pt_name _ fun B3 e4 => ?_
    exact s_asg (ev_op (int1 (ev_op (ev_op (ev_op (ev_var rfl) ev_c (rv_I (cmR (by decide)))) (ev_op (int1 (ev_var rfl)) ev_c (rv_I (by decide : (0 : Int) < 2147483629))) rv_I0) ev_c rv_I0)) ev_c (rv_I (by decide : (0 : Int) < 2147483647))) fun B4 e5 => ⟨((p1.trans e3).trans e4).trans e5, _, _, rfl⟩
  · obtain ⟨p1, u1, u2, rfl⟩ := p
    have eB := (e1.trans e).trans p1
    have lc : EvL (tLc (iList K (tSl (rSlL K) (tVar 0) tNoPart (tPart (tC (.int 63))))) (gName 2) (tTest (tOp rGeI (tCB rAbs1 (tCons (tVar 2) tNil)) (tOp rPowI (tC (.int 10)) (tC (.int 18))))) (tCB rAbs1 (tCons (tVar 2) tNil)) [2]) [some (.ref a), some (.int u1), u2] B (kept_ ns.length (fun i => decide ((10 : Int) ^ 18 ≤ ((ns.getD i 0).natAbs : Int))) fun i => .int ((ns.getD i 0).natAbs : Int)) :=
      el_lcV (n := ns.length) (item := fun i x _ => (intsV ns)[i]? = some x) (ei_listP (ep_f (ep_l (sl eB rfl))) fun v A e ⟨l, hv, h⟩ => ⟨l, intsV ns, hv, sq_of h, by simp, fun i x hx B _ => hx⟩) (by omega) _ _ fun i x A e hi it => by
        obtain ⟨k, hk, rfl⟩ := ints_at it
        have : ns.getD i 0 = k := by rw [List.getD_eq_getElem?_getD, hk] <;> rfl
        rw [this]
        exact ⟨_, pt_name, rfl, et_test (ev_op (ab1 (ev_var rfl)) (ev_op ev_c ev_c (rv_I (⟨by decide, by decide, by decide⟩ : CPow 10 18))) rv_I0), fun _ => ab1 (ev_var rfl)⟩
    refine sf_ret (ef_lst3 (ev_var rfl) ev_c lc) fun p A2 hp e2 ⟨c, h1, h2, npc, hc⟩ => ?_
    refine q p c A2 (fresh_back eB hp) (fresh_back eB hc) (eB.trans e2) ⟨u1, 0, ((List.range ns.length).filter fun i => decide ((10 : Int) ^ 18 ≤ ((ns.getD i 0).natAbs : Int))).map fun i => ((ns.getD i 0).natAbs : Int), h1, ?_, npc⟩
    rw [h2]
    unfold kept_ intsV
    rw [List.map_map]
    rfl
end TW
namespace TW
open PySem L2 Evl RS RZ TN
section
variable {K : PySem.W.Frag} {g : Gs} {σ : L2.St} {H H' A B Bs : Hp} {te ta tb tv to ti : TE} {taa : TA} {tz tu : TS} {D : Ends} {v y : V} {φ : V → Hp → Prop} {χ : Addr → Hp → Prop} {n : Nat} {p c : Addr}
theorem exP_p {o : HO} (e : ExP p c H A) : ExP p c H (upd A p o) := fun b u h1 h2 h => by rw [upd_ne h1]; exact e b u h1 h2 h
theorem exP_c {o : HO} (e : ExP p c H A) : ExP p c H (upd A c o) := fun b u h1 h2 h => by rw [upd_ne h2]; exact e b u h1 h2 h
theorem ev_int1 {i : Int} (h : Ev te σ A (.int i)) : Ev (tCB rInt1 (tCons te tNil)) σ A (.int i) := ev_cb (ea_cons h ea_nil) fun H1 e Q q => .inl ⟨_, rfl, q H1 (Ex.refl H1)⟩
theorem div64 {i m : Int} (h0 : 0 < m) (h1 : m < 2 ^ 64) : CDivW i m := by
  refine divW (b := 65) h0 (bits_of (2 ^ 64) ?_ (by decide)) (by decide)
  rw [p64] at h1
  have : (2 : Nat) ^ 64 = 18446744073709551616 := by decide
  omega
theorem at0 {d : Int} {rest : List Int} : atI (intsV (d :: rest)) 0 = some (.int d) := by
  unfold atI
  rw [show (0 : Int) = ((0 : Nat) : Int) from rfl, ixN_nat (by simp)]
  rfl
theorem small_div {i m : Int} (h0 : 0 < m) (h1 : m < 100000) : CDivW i m := div64 h0 (by rw [p64]; omega)
theorem s_pop {l : Addr} {x : V} {xs : List V} (hl : H l = some (.lst (x :: xs))) (ho : Ev ta σ H (.ref l)) (k : ∀ H1, Ex H H1 → D.nx σ (upd H1 l (.lst xs))) : tDrop (tBM K "list" rPopAt ta (tCons (tC (.int 0)) tNil)) D σ H :=
  ho H (Ex.refl H) _ fun H1 e1 => ⟨.inl ⟨rfl, _, sq_of (e1 _ _ hl)⟩, l, x :: xs, 0, 0, x, rfl, rfl, e1 _ _ hl, by decide, by decide, by simp [seqIndex?], rfl, k H1 e1⟩
theorem ed_tup {ψ : Nat → V → Hp → Prop} (up : ∀ i, StabT (ψ i)) (h : EvDF p c te σ H fun l A => ∃ out : List V, A l = some (.lst out) ∧ out.length = n ∧ ∀ (i : Nat) x, out[i]? = some x → ψ i x A) : EvD p c (tCB (rTupOf K) (tCons te tNil)) σ H fun v A => ∃ r, ∃ out : List V, v = .ref r ∧ A r = some (.tup out) ∧ out.length = n ∧ ∀ (i : Nat) x, out[i]? = some x → ψ i x A := fun Q q =>
  h _ fun l A2 hl e2 P2 ⟨out, ho, hol, hox⟩ => ⟨l, out, rfl, .inl ⟨sq_of ho, fun r hr => q _ _ (e2.trans (exP_ex (Ex.new hr))) (P2.ex (Ex.new hr)) ⟨r, out, rfl, upd_same, hol, fun i x hx => up i _ _ _ (ex_loose (Ex.new hr)) (hox i x hx)⟩⟩⟩
theorem sd_ret (h : EvD p c te σ H φ) (k : ∀ v H1, ExP p c H H1 → Pool p c H1 → φ v H1 → D.rt v H1) : tRet te D σ H := h _ k
end
theorem len__law_draw {K : PySem.W.Frag} {g : Gs} {vs : List V} {H : Hp} {Q : VK} {E : XK} (h : sp__law_draw K g vs H Q E) : vs.length = 2 := by
  obtain ⟨_, _, _, rfl, _⟩ := h
  rfl
theorem pure__law_draw {K : PySem.W.Frag} {g : Gs} (C : CF K g) (vs : List V) (H : Hp) (Q : VK) (E : XK) (h : sp__law_draw K g vs H Q E) : t__law_draw K g { nx := fun _ H' => Q .non H', rt := Q } (start ["_law_pool_here", "_law_many", "_law_cells", "_law_digit", "_law_mixed_here"] vs) H := by
  obtain ⟨p, c, m, rfl, ⟨s, k, cells, hp, hc, npc⟩, m0, m64, q⟩ := h
  refine q_setL (j := 1) hp (ev_op (ev_op (ev_var rfl) ev_c (rv_ixL (sq_of hp) rfl)) ev_c rv_I0) (ev_var rfl) ev_c (by simp) fun A1 e1 => ?_
  have hp2 : (upd A1 p (.lst ([V.int s, .int k, .ref c].set 1 (.int (k + 1))))) p = some (.lst [.int s, .int (k + 1), .ref c]) := upd_same
  have hc2 : (upd A1 p (.lst ([V.int s, .int k, .ref c].set 1 (.int (k + 1))))) c = some (.lst (intsV cells)) := by rw [upd_ne npc.symm]; exact e1 _ _ hc
  have eH2 : ExP p c H (upd A1 p (.lst ([V.int s, .int k, .ref c].set 1 (.int (k + 1))))) := exP_p (exP_ex e1)
  generalize upd A1 p (.lst ([V.int s, .int k, .ref c].set 1 (.int (k + 1)))) = A2 at *
  refine q_asg (ev_op (ev_var rfl) ev_c (rv_ixL (sq_of hp2) rfl)) fun A3 e3 => ?_
  have hp3 := e3 _ _ hp2
  have hc3 := e3 _ _ hc2
  have eH3 := eH2.trans (exP_ex e3)
  refine q_when (et_test (ev_op (ev_lenK hc3 (ev_var rfl)) ev_c rv_I0)) (fun z A4 e4 => ?_) fun z A4 e4 => ?_
  · have hc4 := e4 _ _ hc3
    have hp4 := e4 _ _ hp3
    have eH4 := eH3.trans (exP_ex e4)
    cases cells with
    | nil => simp at z
    | cons d rest =>
      refine q_asg (ev_op (ev_int1 (ev_op (ev_var rfl) ev_c (rv_ixL (sq_of hc4) at0))) (ev_var rfl) (rv_I m0)) fun A5 e5 => ?_
      have hc5 := e5 _ _ hc4
      have hp5 := e5 _ _ hp4
      have eH5 := eH4.trans (exP_ex e5)
      refine q_setL (j := 0) hc5 (ev_op (ev_int1 (ev_op (ev_var rfl) ev_c (rv_ixL (sq_of hc5) at0))) (ev_var rfl) (rv_I (div64 m0 m64))) (ev_var rfl) ev_c (by simp) fun A6 e6 => ?_
      have hc7 : (upd A6 c (.lst ((intsV (d :: rest)).set 0 (.int (d / m))))) c = some (.lst (intsV (d / m :: rest))) := upd_same
      have hp7 : (upd A6 c (.lst ((intsV (d :: rest)).set 0 (.int (d / m))))) p = some (.lst [.int s, .int (k + 1), .ref c]) := by rw [upd_ne npc]; exact e6 _ _ hp5
      have eH7 : ExP p c H (upd A6 c (.lst ((intsV (d :: rest)).set 0 (.int (d / m))))) := exP_c (eH5.trans (exP_ex e6))
      generalize upd A6 c (.lst ((intsV (d :: rest)).set 0 (.int (d / m)))) = A7 at *
      refine q_if (et_test (ev_op (ev_op (ev_var rfl) ev_c (rv_ixL (sq_of hc7) at0)) ev_c (rv_eq rfl))) (fun z A8 e8 => ?_) fun z A8 e8 => ?_
      · refine s_pop (xs := intsV rest) (x := .int (d / m)) (e8 _ _ hc7) (ev_var rfl) fun A9 e9 => ?_
        refine s_ret (ev_var rfl) fun A10 e10 => q _ A10 ((exP_c ((eH7.trans (exP_ex e8)).trans (exP_ex e9))).trans (exP_ex e10)) ⟨s, k + 1, rest, e10 _ _ (by rw [upd_ne npc]; exact e9 _ _ (e8 _ _ hp7)), e10 _ _ upd_same, npc⟩ ⟨_, rfl, Int.emod_nonneg _ (by omega), Int.emod_lt_of_pos _ m0⟩
      · refine s_ret (ev_var rfl) fun A10 e10 => q _ A10 (eH7.trans (exP_ex (e8.trans e10))) ⟨s, k + 1, _, (e8.trans e10) _ _ hp7, (e8.trans e10) _ _ hc7, npc⟩ ⟨_, rfl, Int.emod_nonneg _ (by omega), Int.emod_lt_of_pos _ m0⟩
  · have hp4 := e4 _ _ hp3
    have md : ∀ {a b : Int}, 0 < b → b < 2147483648 → -(2 ^ 64) < a % b ∧ a % b < 2 ^ 64 := fun {a b} h0 h1 => by
      have := Int.emod_nonneg a (by omega : b ≠ 0)
      have := Int.emod_lt_of_pos a h0
      rw [p64]; omega
    refine q_asg (ev_op (ev_int1 (ev_op (ev_op (ev_op (ev_var rfl) ev_c (rv_ixL (sq_of hp4) rfl)) (ev_op ev_c (ev_op (ev_var rfl) ev_c (rv_ixL (sq_of hp4) rfl)) (rv_I (cmL (by decide)))) rv_I0) ev_c (rv_I (cmR (by decide))))) ev_c (rv_I (by decide : (0 : Int) < 2147483647))) fun A5 e5 => ?_
    refine q_asg (ev_op (ev_int1 (ev_op (ev_var rfl) (ev_op (ev_op (ev_var rfl) ev_c (rv_I (small_div (by decide) (by decide)))) ev_c rv_I0) (rv_I (cmL (md (by decide) (by decide)))))) ev_c (rv_I (by decide : (0 : Int) < 2147483647))) fun A6 e6 => ?_
    refine q_asg (ev_op (ev_int1 (ev_op (ev_var rfl) (ev_op (ev_op (ev_var rfl) ev_c (rv_I (small_div (by decide) (by decide)))) ev_c rv_I0) (rv_I (cmL (md (by decide) (by decide)))))) ev_c (rv_I (by decide : (0 : Int) < 2147483399))) fun A7 e7 => ?_
    have e37 := ((e4.trans e5).trans e6).trans e7
    exact s_ret (ev_op (ev_int1 (ev_op (ev_var rfl) ev_c (rv_I (small_div (by decide) (by decide))))) (ev_var rfl) (rv_I m0)) fun A8 e8 => q _ A8 (eH3.trans (exP_ex (e37.trans e8))) ⟨s, k + 1, _, (e37.trans e8) _ _ hp3, (e37.trans e8) _ _ hc3, npc⟩ ⟨_, rfl, Int.emod_nonneg _ (by omega), Int.emod_lt_of_pos _ m0⟩
theorem len__law_step {K : PySem.W.Frag} {g : Gs} {vs : List V} {H : Hp} {Q : VK} {E : XK} (h : sp__law_step K g vs H Q E) : vs.length = 2 := by
  obtain ⟨_, _, _, rfl, _⟩ := h
  rfl
theorem pure__law_step {K : PySem.W.Frag} {g : Gs} (C : CF K g) (vs : List V) (H : Hp) (Q : VK) (E : XK) (h : sp__law_step K g vs H Q E) : t__law_step K g { nx := fun _ H' => Q .non H', rt := Q } (start ["_law_pool_here", "_law_sides", "_law_most", "_law_k"] vs) H := by
  obtain ⟨p, c, s, rfl, P, hs, q⟩ := h
  have most : EvD p c (tOp (rIxL K) (tLst (tCons (tC (.int 1)) (tCons (tC (.int 2)) (tCons (tOp rPowI (tC (.int 10)) (tC (.int 11))) tNil)))) (tCall (sp__law_draw K g) [] E0 (tCons (tVar 0) (tCons (tC (.int 3)) tNil)))) [some (.ref p), some (.int (s : Int)), none, none] H (fun v _ => ∃ b : Int, v = .int b ∧ 1 ≤ b ∧ b ≤ 100000000000) := fun Q q =>
    (el_lst (ea_cons ev_c (ea_cons ev_c (ea_cons (ev_op ev_c ev_c (rv_I (⟨by decide, by decide, by decide⟩ : CPow 10 11))) ea_nil))) (by simp)) H (Ex.refl H) _ fun l H1 hl e1 h1 =>
      ed_draw (P.ex e1) (ea_cons (ev_var rfl) (ea_cons ev_c ea_nil)) (by decide) (by decide) _ fun v H2 e2 P2 ⟨r, hv, r0, r3⟩ => by
        subst hv
        have h2 := exP_new P hl e2 h1
        have eH := (exP_ex e1).trans e2
        have pw : (10 : Int) ^ (11 : Int).toNat = 100000000000 := by decide
        rw [pw] at h2
        rcases (by omega : r = 0 ∨ r = 1 ∨ r = 2) with rfl | rfl | rfl
        · exact ⟨l, _, 0, .int 1, rfl, rfl, sq_of h2, rfl, q _ H2 eH P2 ⟨1, rfl, by decide, by decide⟩⟩
        · exact ⟨l, _, 1, .int 2, rfl, rfl, sq_of h2, rfl, q _ H2 eH P2 ⟨2, rfl, by decide, by decide⟩⟩
        · exact ⟨l, _, 2, .int 100000000000, rfl, rfl, sq_of h2, rfl, q _ H2 eH P2 ⟨100000000000, rfl, by decide, by decide⟩⟩
  refine qd_asg most fun v A1 e1 P1 ⟨b, hv, b1, b2⟩ => ?_
  subst hv
  have lc : EvDF p c (tLc (iRng1 (tCons (tVar 1) tNil)) (gName 3) tYes (tOp rSubI (tCall (sp__law_draw K g) [] E0 (tCons (tVar 0) (tCons (tOp rAddI (tOp rMulC (tC (.int 2)) (tVar 2)) (tC (.int 1))) tNil))) (tVar 2)) [3]) [some (.ref p), some (.int (s : Int)), some (.int b), none] A1 _ :=
    ed_lc (n := s) P1 (ea_cons (ev_var rfl) ea_nil) (by omega) (fun _ v _ => ∃ k : Int, v = .int k ∧ -b ≤ k ∧ k ≤ b) (fun _ v A B _ h => h) (fun _ => rfl) fun i A e PA hi =>
      ed_opL (ed_draw PA (ea_cons (ev_var rfl) (ea_cons (ev_op (ev_op ev_c (ev_var rfl) (rv_I (cmL (by decide)))) ev_c rv_I0) ea_nil)) (by omega) (by rw [p64]; omega)) (fun A2 _ => ev_var rfl) fun v A2 ⟨r, hv, r0, r1⟩ => ⟨.int (r - b), fun _ _ => ⟨r - b, rfl, by omega, by omega⟩, fun B _ Q q => by
        subst hv
        exact ⟨r, b, rfl, rfl, q⟩⟩
  refine sd_ret (ed_tup (fun _ v A B _ h => h) lc) fun v A2 e2 P2 h => ?_
  obtain ⟨r, out, rfl, hr, hol, hox⟩ := h
  have asI : ∀ out : List V, (∀ (i : Nat) x, out[i]? = some x → ∃ k : Int, x = .int k ∧ -b ≤ k ∧ k ≤ b) → ∃ l : List Int, out = intsV l ∧ ∀ x ∈ l, -b ≤ x ∧ x ≤ b := by
    intro out
    induction out with
    | nil => exact fun _ => ⟨[], rfl, nofun⟩
    | cons x out ih =>
      intro h
      obtain ⟨l, h1, h2⟩ := ih fun i x hx => h (i + 1) x hx
      obtain ⟨k, rfl, h3⟩ := h 0 x rfl
      refine ⟨k :: l, by rw [h1] <;> rfl, fun y hy => ?_⟩
      rcases List.mem_cons.mp hy with rfl | hy
      · exact h3
      · exact h2 y hy
  obtain ⟨l', rfl, hb⟩ := asI out hox
  refine q _ _ (e1.trans e2) P2 ⟨l', ⟨by simpa using hol, fun x hx => ?_⟩, r, rfl, st_of hr⟩
  have := hb x hx
  omega
end TW
namespace TW
open PySem L2 Evl RS RZ TN
theorem choose_list {α β : Type} {R : Nat → α → β → Prop} : ∀ {xs : List α}, (∀ (i : Nat) x, xs[i]? = some x → ∃ y, R i x y) → ∃ ys : List β, ys.length = xs.length ∧ ∀ (i : Nat) x y, xs[i]? = some x → ys[i]? = some y → R i x y
  | [], _ => ⟨[], rfl, nofun⟩
  | x :: xs, h => by
    obtain ⟨y, hy⟩ := h 0 x rfl
    obtain ⟨ys, h1, h2⟩ := choose_list (R := fun i => R (i + 1)) (xs := xs) fun i x hx => h (i + 1) x hx
    refine ⟨y :: ys, by simp [h1], fun i a b ha hb => ?_⟩
    cases i with
    | zero =>
      obtain rfl : x = a := by simpa using ha
      obtain rfl : y = b := by simpa using hb
      exact hy
    | succ i => exact h2 i a b (by simpa using ha) (by simpa using hb)
theorem atI_some {α : Type} {xs : List α} {j : Int} (h : -(xs.length : Int) ≤ j) (h' : j < xs.length) : ∃ x, atI xs j = some x ∧ x ∈ xs := by
  unfold atI ixN
  by_cases h0 : 0 ≤ j
  · rw [if_pos h0, if_pos h']
    have hl : j.toNat < xs.length := by omega
    exact ⟨xs[j.toNat], List.getElem?_eq_getElem hl, List.getElem_mem hl⟩
  · rw [if_neg h0, if_pos h]
    have hl : (j + xs.length).toNat < xs.length := by omega
    exact ⟨xs[(j + xs.length).toNat], List.getElem?_eq_getElem hl, List.getElem_mem hl⟩
section
variable {K : PySem.W.Frag} {g : Gs} {σ : L2.St} {H H' A B Bs : Hp} {te ta tb tc tv to ti : TE} {taa : TA} {tz tu : TS} {D : Ends} {v y : V} {φ φ' φ'' : V → Hp → Prop} {χ : Addr → Hp → Prop} {n : Nat} {p c : Addr}
theorem exP_fresh {l : Addr} {o : HO} (hl : H l = none) (e : ExP p c H A) : ExP p c H (upd A l o) := fun b u h1 h2 h => by
  rw [upd_ne (by rintro rfl; rw [hl] at h; cases h)]; exact e b u h1 h2 h
theorem pool_upd {l : Addr} {o : HO} (P : Pool p c H) (hl : H l = none) (PA : Pool p c A) : Pool p c (upd A l o) := by
  obtain ⟨s, k, cs, h1, h2, h3⟩ := PA
  have ⟨n1, n2⟩ := poolP P
  exact ⟨s, k, cs, by rw [upd_ne (by rintro rfl; exact n1 hl)]; exact h1, by rw [upd_ne (by rintro rfl; exact n2 hl)]; exact h2, h3⟩
/-- (a, b, c), each drawn -/
theorem ed_tup3 (u1 : StabT φ) (u2 : StabT φ') (h1 : EvD p c ta σ H φ) (h2 : ∀ A, ExP p c H A → Pool p c A → EvD p c tb σ A φ') (h3 : ∀ A, ExP p c H A → Pool p c A → EvD p c tc σ A φ'') (u3 : StabT φ'') :
    EvD p c (tTup (tCons ta (tCons tb (tCons tc tNil)))) σ H fun v A => ∃ r x y z, v = .ref r ∧ A r = some (.tup [x, y, z]) ∧ φ x A ∧ φ' y A ∧ φ'' z A := fun Q q =>
  h1 _ fun x A1 e1 P1 k1 => h2 A1 e1 P1 _ fun y A2 e2 P2 k2 => h3 A2 (e1.trans e2) P2 _ fun z A3 e3 P3 k3 => ⟨sz_of (by simp), fun r hr => by
    have eN : Ex A3 (upd A3 r (.tup [x, y, z])) := Ex.new hr
    have l3 := ex_loose eN
    have l2 := (exP_loose P2 e3).trans l3
    have l1 := (exP_loose P1 e2).trans l2
    exact q _ _ (((e1.trans e2).trans e3).trans (exP_ex eN)) (P3.ex eN) ⟨r, x, y, z, rfl, upd_same, u1 _ _ _ l1 k1, u2 _ _ _ l2 k2, u3 _ _ _ l3 k3⟩⟩
/-- for .. in range(a draw) -/
theorem qd_for {j M : Nat} (h : EvD p c te σ H fun v _ => ∃ m : Nat, v = .int (m : Int) ∧ m ≤ M) (hM : M ≤ 40000) (Pv : Nat → Nat → L2.St → Hp → Prop) (h0 : ∀ m H1, m ≤ M → ExP p c H H1 → Pool p c H1 → Pv m 0 σ H1)
    (hs : ∀ m i σ' A, m ≤ M → i < m → Pv m i σ' A → tu { D with nx := Pv m (i + 1), ct := Pv m (i + 1), bk := tz D } (σ'.set j (some (.int (i : Int)))) A) (hd : ∀ m σ' A, m ≤ M → Pv m m σ' A → tz D σ' A) : tSeq (tFor (iRng1 (tCons te tNil)) (gName j) tu) tz D σ H :=
  h _ fun v H1 e P ⟨m, hv, hm⟩ => by
    subst hv
    refine ⟨(m : Int), rfl, by omega, by omega, ?_⟩
    rw [Int.toNat_natCast]
    refine for_range (lo := 0) (n := m) (D := { D with nx := tz D }) (Pv m) (h0 m H1 hm e P) (fun i σ' A hi pv => ?_) (fun σ' A pv => hd m σ' A hm pv)
    have := hs m i σ' A hm hi pv
    rw [← Int.zero_add (i : Int)] at this
    exact this
theorem qk_setL {l : Addr} {xs : List V} {j : Nat} (hl : H l = some (.lst xs)) (h : EvP te σ H φ) (up : Up φ) (ho : Ev ta σ H (.ref l)) (hi : Ev tb σ H (.int (j : Int))) (hj : j < xs.length) (k : ∀ v H1, Ex H H1 → H1 l = some (.lst xs) → φ v H1 → tz D σ (upd H1 l (.lst (xs.set j v)))) :
    tSeq (tAsg te (gSub ta tb rSetL)) tz D σ H := sk_setL (D := { D with nx := tz D }) hl h up ho hi hj k
theorem s_opV {i : Nat} {r : R2} {x : V} (h : Ev ta σ H x) (k : ∀ A, Ex H A → tb σ A fun y H2 => r x y H2 fun v H3 => D.nx (σ.set i (some v)) H3) : tAsg (tOp r ta tb) (gName i) D σ H := h H (Ex.refl H) _ k
theorem call_raw {sp : Sp} {vs : List V} {E : XK} {Q : VK} (h : EvA taa σ H vs) (k : ∀ A, Ex H A → sp vs A Q E) : tCall sp [] E taa σ H Q := h H (Ex.refl H) _ fun A e => by
  rw [List.append_nil]
  exact k A e
theorem s_appR {l : Addr} {xs : List V} (hl : H l = some (.lst xs)) (ho : Ev ta σ H (.ref l)) (k : ∀ A, Ex H A → te σ A fun v H2 => rAppend (.ref l) [v] H2 fun _ H3 => D.nx σ H3) : tDrop (tBM K "list" rAppend ta (tCons te tNil)) D σ H :=
  ho H (Ex.refl H) _ fun A e => ⟨.inl ⟨rfl, xs, sq_of (e _ _ hl)⟩, k A e⟩
theorem stepV_st (s : Nat) (b : Int) : StabT fun v A => ∃ l, StepI s b l ∧ TupI K l v A := fun v A B e ⟨l, h1, h2⟩ => ⟨l, h1, tupI_st _ _ _ _ e h2⟩
end
theorem len__law_walk_of {K : PySem.W.Frag} {g : Gs} {vs : List V} {H : Hp} {Q : VK} {E : XK} (h : sp__law_walk_of K g vs H Q E) : vs.length = 3 := by
  obtain ⟨_, _, _, _, rfl, _⟩ := h
  rfl
theorem pure__law_walk_of {K : PySem.W.Frag} {g : Gs} (C : CF K g) (vs : List V) (H : Hp) (Q : VK) (E : XK) (h : sp__law_walk_of K g vs H Q E) : t__law_walk_of K g { nx := fun _ H' => Q .non H', rt := Q } (start ["_law_pool_here", "_law_sides", "_law_tables", "_law_many", "_law_stands", "_law_steps", "_law_k", "_law_side", "_law_step_here"] vs) H := by
  obtain ⟨p, c, s, t, rfl, P, s1, s4, t1, t8, q⟩ := h
  refine qd_asg (ed_op (ψ := fun v _ => ∃ n : Nat, v = .int (n : Int) ∧ 1 ≤ n ∧ n ≤ 5) P ev_c (fun A e => ed_draw (P.ex e) (ea_cons (ev_var rfl) (ea_cons ev_c ea_nil)) (by decide) (by decide)) fun v A ⟨r, hv, r0, r1⟩ => ⟨.int (1 + r), ⟨(1 + r).toNat, by rw [Int.toNat_of_nonneg (by omega)], by omega, by omega⟩, fun Q q => by subst hv; exact ⟨1, r, rfl, rfl, q⟩⟩) fun v A1 e1 P1 ⟨n, hv, n1, n5⟩ => ?_
  subst hv
  refine qdf_asg (ed_lc (n := n) P1 (ea_cons (ev_var rfl) ea_nil) (by omega) (fun _ v _ => ∃ k : Int, v = .int k ∧ 0 ≤ k ∧ k < t) (fun _ v A B _ h => h) (fun _ => rfl) fun i A e PA hi => ed_draw PA (ea_cons (ev_var rfl) (ea_cons (ev_var rfl) ea_nil)) (by omega) (by rw [p64]; omega)) fun ls A2 fs e2 P2 ⟨outS, hS, hSl, hSx⟩ => ?_
  refine qdf_asg (ed_lc (n := n) P2 (ea_cons (ev_var rfl) ea_nil) (by omega) (fun _ v A => ∃ l, StepI s 100000000000 l ∧ TupI K l v A) (fun _ => stepV_st _ _) (fun _ => rfl) fun i A e PA hi => ed_step PA (ea_cons (ev_var rfl) (ea_cons (ev_var rfl) ea_nil)) s4) fun lt A3 ft e3 P3 ⟨outT, hT, hTl, hTx⟩ => ?_
  have hS3 := exP_new P1 fs e3 hS
  have fsH := freshP P e1 fs P1
  have ftH := freshP P (e1.trans e2) ft P2
  have neq : ls ≠ lt := by rintro rfl; rw [hS] at ft; cases ft
  have e13 := (e1.trans e2).trans e3
  obtain ⟨Ls, hLs1, hLs2⟩ := choose_list (R := fun _ v l => StepI s 100000000000 l ∧ TupI K l v A3) fun i x hx => hTx i x hx
  have inner : ∀ (j : Nat) A, Ex A3 A → j < s → EvL (tLc (iList K (tSl (rSlL K) (tVar 5) (tPart (tC (.int 1))) tNoPart)) (gName 8) tYes (tOp (rIxT K) (tVar 8) (tVar 7)) [8]) [some (.ref p), some (.int (s : Int)), some (.int (t : Int)), some (.int (n : Int)), some (.ref ls), some (.ref lt), none, some (.int (j : Int)), none] A (row (n - 1) fun i => (Ls.getD (i + 1) []).getD j 0) := fun j A e hj =>
    el_lcA (n := n - 1) (item := fun i x _ => (outT.drop 1)[i]? = some x) (ei_listP (ep_f (ep_l (el_sl (lo := some 1) (hi := none) (ev_var rfl) (eo_some ev_c) eo_none (sq_of (e _ _ hT))))) fun v B eB ⟨l, hv, h⟩ => by
      have : cutV outT (some 1) none = outT.drop 1 := by
        rw [show (1 : Int) = ((1 : Nat) : Int) from rfl, cut_from]
      rw [this] at h
      exact ⟨l, _, hv, sq_of h, by rw [List.length_drop, hTl], fun i x hx B _ => hx⟩) (by omega) _ fun i x B eB hi it => by
        rw [List.getElem?_drop] at it
        obtain ⟨l, hl⟩ : ∃ l, Ls[1 + i]? = some l := ⟨_, List.getElem?_eq_getElem (by have := (List.getElem?_eq_some_iff.mp it).1; omega)⟩
        obtain ⟨h1, a, rfl, h2⟩ := hLs2 (1 + i) x l it hl
        have e0 : Ls.getD (i + 1) [] = l := by rw [List.getD_eq_getElem?_getD, Nat.add_comm, hl] <;> rfl
        have hj2 : j < l.length := by rw [h1.1]; exact hj
        refine ⟨_, pt_name, rfl, ep_ixT (ev_var rfl) (ev_var rfl) (ex_t (e.trans eB) h2) ?_⟩
        show atI (intsV l) (j : Int) = some (V.int ((Ls.getD (i + 1) []).getD j 0))
        rw [e0, List.getD_eq_getElem?_getD, List.getElem?_eq_getElem hj2]
        unfold atI
        rw [List.length_map, ixN_nat hj2]
        show (intsV l)[j]? = _
        rw [List.getElem?_map, List.getElem?_eq_getElem hj2] <;> rfl
  have outer : EvU (tCB (rTupOf K) (tCons (tLc (iRng1 (tCons (tVar 1) tNil)) (gName 7) tYes (tUn rNegI (tCB (rSum K) (tCons (tLc (iList K (tSl (rSlL K) (tVar 5) (tPart (tC (.int 1))) tNoPart)) (gName 8) tYes (tOp (rIxT K) (tVar 8) (tVar 7)) [8]) tNil))) [7]) tNil)) [some (.ref p), some (.int (s : Int)), some (.int (t : Int)), some (.int (n : Int)), some (.ref ls), some (.ref lt), none, none, none] A3 (row s fun j => -(S (n - 1) fun i => (Ls.getD (i + 1) []).getD j 0)) :=
    eu_tupL (el_lcA (ei_rg (ea_cons (ev_var rfl) ea_nil) (by omega)) (by omega) _ fun j x A e hj it => by
      subst it
      exact ⟨_, pt_name, rfl, ev_un (ev_sumRow (inner j A e hj)) ru_neg⟩)
  refine qk_setL (φ := fun v A => ∃ l, StepI s 400000000000 l ∧ TupI K l v A) (j := 0) hT ((eu_ep outer).imp fun v A e ⟨r, hv, h⟩ => ?_) (stepV_st _ _).up (ev_var rfl) ev_c (by omega) fun v A4 e4 hT4 hv => ?_
  · refine ⟨(List.range s).map fun j => -(S (n - 1) fun i => (Ls.getD (i + 1) []).getD j 0), ⟨by simp, fun x hx => ?_⟩, r, hv, st_of (by rw [h]; unfold intsV; rw [List.map_map] <;> rfl)⟩
    obtain ⟨j, hj, rfl⟩ := List.mem_map.mp hx
    have hj := List.mem_range.mp hj
    have := S_abs (n := n - 1) (f := fun i => (Ls.getD (i + 1) []).getD j 0) (b := 100000000000) fun i hi => by
      obtain ⟨x, hx⟩ : ∃ x, outT[i + 1]? = some x := ⟨_, List.getElem?_eq_getElem (by omega)⟩
      obtain ⟨l, hl⟩ : ∃ l, Ls[i + 1]? = some l := ⟨_, List.getElem?_eq_getElem (by omega)⟩
      obtain ⟨h1, _⟩ := hLs2 (i + 1) x l hx hl
      have e0 : Ls.getD (i + 1) [] = l := by rw [List.getD_eq_getElem?_getD, hl] <;> rfl
      have hj2 : j < l.length := by rw [h1.1]; exact hj
      rw [e0, List.getD_eq_getElem?_getD, List.getElem?_eq_getElem hj2]
      have := h1.2 _ (List.getElem_mem hj2)
      show (l[j]).natAbs ≤ _
      omega
    have : (n - 1) * 100000000000 ≤ 4 * 100000000000 := Nat.mul_le_mul_right _ (by omega)
    omega
  · have L4 : Loose A3 (upd A4 lt (.lst (outT.set 0 v))) := (ex_loose e4).trans (loose_upd hT4)
    have hS4 : (upd A4 lt (.lst (outT.set 0 v))) ls = some (.lst outS) := by rw [upd_ne neq]; exact e4 _ _ hS3
    have hT5 : (upd A4 lt (.lst (outT.set 0 v))) lt = some (.lst (outT.set 0 v)) := upd_same
    have hv5 := stepV_st _ _ _ _ _ (loose_upd (o := .lst (outT.set 0 v)) hT4) hv
    have e5 : ExP p c H (upd A4 lt (.lst (outT.set 0 v))) := exP_fresh ftH (e13.trans (exP_ex e4))
    have P5 : Pool p c (upd A4 lt (.lst (outT.set 0 v))) := pool_upd P ftH (P3.ex e4)
    generalize upd A4 lt (.lst (outT.set 0 v)) = A5 at *
    have hsteps : ∀ (i : Nat) x, (outT.set 0 v)[i]? = some x → ∃ l, StepI s 400000000000 l ∧ TupI K l x A5 := fun i x hx => by
      rw [List.getElem?_set] at hx
      by_cases h0 : 0 = i
      · rw [if_pos h0] at hx
        split at hx
        · obtain rfl := Option.some.inj hx
          exact hv5
        · cases hx
      · rw [if_neg h0] at hx
        obtain ⟨l, ⟨h1, h2⟩, h3⟩ := hTx i x hx
        exact ⟨l, ⟨h1, fun y hy => by have := h2 y hy; omega⟩, tupI_st _ _ _ _ L4 h3⟩
    refine sf_ret (ef_lcA (n := n) (ei_rg (ea_cons (ev_var rfl) ea_nil) (by omega)) (by omega) (fun _ v A => ∃ r, RdV K r v A ∧ Fine s t r) (fun _ v A B e ⟨r, h1, h2⟩ => ⟨r, rdv_st _ _ _ _ e h1, h2⟩) fun i x A e hi it => ?_) fun l A6 hl e6 ⟨out, ho, hol, hox⟩ => ?_
    · subst it
      obtain ⟨x1, hx1, m1⟩ := atI_some (xs := outS) (j := (i : Int) - 1) (by omega) (by omega)
      obtain ⟨x2, hx2, m2⟩ := atI_some (xs := outS) (j := (i : Int)) (by omega) (by omega)
      have hTi : (outT.set 0 v).length = n := by simp [hTl]
      obtain ⟨x3, hx3⟩ : ∃ x, (outT.set 0 v)[i]? = some x := ⟨_, List.getElem?_eq_getElem (by omega)⟩
      have hx3' : atI (outT.set 0 v) (i : Int) = some x3 := by
        unfold atI
        rw [ixN_nat (by omega)]
        exact hx3
      obtain ⟨i1, hi1⟩ := List.getElem?_of_mem m1
      obtain ⟨i2, hi2⟩ := List.getElem?_of_mem m2
      obtain ⟨k1, rfl, a1, b1⟩ := hSx i1 x1 hi1
      obtain ⟨k2, rfl, a2, b2⟩ := hSx i2 x2 hi2
      obtain ⟨l, ⟨h1, h2⟩, a, rfl, h3⟩ := hsteps i x3 hx3
      refine ⟨_, pt_name, rfl, (eu_ep (eu_tup (ea_cons (ev_op (ev_var rfl) (ev_op (ev_var rfl) ev_c rv_I0) (rv_ixL (sq_of (e _ _ hS4)) hx1)) (ea_cons (ev_op (ev_var rfl) (ev_var rfl) (rv_ixL (sq_of (e _ _ hS4)) hx2)) (ea_cons (ev_op (ev_var rfl) (ev_var rfl) (rv_ixL (sq_of (e _ _ hT5)) hx3')) ea_nil))) (by simp))).imp fun v B eB ⟨r, hv, h⟩ => ⟨(k1, k2, l), ⟨r, hv, a, st_of h, ex_t (e.trans eB) h3⟩, a1, b1, a2, b2, h1, fun y hy => by have := h2 y hy; omega⟩⟩
    · obtain ⟨rs, hr1, hr2⟩ := choose_list (R := fun _ v r => RdV K r v A6 ∧ Fine s t r) fun i x hx => hox i x hx
      have hlH : H l = none := freshP P e5 hl P5
      refine q l A6 hlH (e5.trans (exP_ex e6)) (P5.ex e6) ⟨out, rs, ho, hr1.symm, by omega, fun i x r hx hr => (hr2 i x r hx hr).1, fun r hr => ?_⟩
      obtain ⟨i, hi⟩ := List.getElem?_of_mem hr
      obtain ⟨x, hx⟩ : ∃ x, out[i]? = some x := ⟨_, List.getElem?_eq_getElem (by have := (List.getElem?_eq_some_iff.mp hi).1; omega)⟩
      exact (hr2 i x r hx hi).2
section
variable {K : PySem.W.Frag} {g : Gs} {σ : L2.St} {H A B : Hp} {te ta tb : TE} {tz : TS} {D : Ends} {p c : Addr}
theorem rds_append {xs ys : List V} {rs ps : List Rdg} (h1 : xs.length = rs.length) (k1 : ∀ (i : Nat) x r, xs[i]? = some x → rs[i]? = some r → RdV K r x A) (k2 : ∀ (i : Nat) x r, ys[i]? = some x → ps[i]? = some r → RdV K r x A) (i : Nat) (x : V) (r : Rdg) (hx : (xs ++ ys)[i]? = some x) (hr : (rs ++ ps)[i]? = some r) : RdV K r x A := by
  by_cases hi : i < xs.length
  · rw [List.getElem?_append_left hi] at hx
    rw [List.getElem?_append_left (by omega)] at hr
    exact k1 i x r hx hr
  · rw [List.getElem?_append_right (by omega)] at hx
    rw [List.getElem?_append_right (by omega), ← h1] at hr
    exact k2 _ x r hx hr
theorem ord_len {xs rs : List Rdg} (h : OrdOf xs rs) : rs.length ≤ xs.length := by
  refine List.Nodup.length_le_of_subset ?_ fun r hr => (h.2 r).mp hr
  exact h.1.imp fun {a b} hab e => by subst e; exact dLt_irrefl _ hab
end
theorem len__law_great_told {K : PySem.W.Frag} {g : Gs} {vs : List V} {H : Hp} {Q : VK} {E : XK} (h : sp__law_great_told K g vs H Q E) : vs.length = 2 := by
  obtain ⟨_, _, _, rfl, _⟩ := h
  rfl
theorem pure__law_great_told {K : PySem.W.Frag} {g : Gs} (C : CF K g) (vs : List V) (H : Hp) (Q : VK) (E : XK) (h : sp__law_great_told K g vs H Q E) : t__law_great_told K g { nx := fun _ H' => Q .non H', rt := Q } (start ["_law_pool_here", "_law_wide", "_law_sides", "_law_tables", "_law_found", "_law_turn"] vs) H := by
  obtain ⟨p, c, b, rfl, P, hb, q⟩ := h
  have one : ∀ {σ : L2.St} {A : Hp} {m : Int}, Pool p c A → σ[0]? = some (some (.ref p)) → 0 < m → m < 2 ^ 64 → EvD p c (tOp rAddI (tC (.int 1)) (tCall (sp__law_draw K g) [] E0 (tCons (tVar 0) (tCons (tC (.int m)) tNil)))) σ A fun v _ => ∃ n : Nat, v = .int (n : Int) ∧ 1 ≤ n ∧ (n : Int) ≤ m := fun PA h0 m0 m1 =>
    ed_op PA ev_c (fun A e => ed_draw (PA.ex e) (ea_cons (ev_var h0) (ea_cons ev_c ea_nil)) m0 m1) fun v A ⟨r, hv, r0, r1⟩ => ⟨.int (1 + r), ⟨(1 + r).toNat, by rw [Int.toNat_of_nonneg (by omega)], by omega, by omega⟩, fun Q q => by subst hv; exact ⟨1, r, rfl, rfl, q⟩⟩
  refine qd_asg (one P rfl (by decide) (by decide)) fun v A1 e1 P1 ⟨s, hv, s1, s4⟩ => ?_
  subst hv
  refine qd_asg (one P1 rfl (by decide) (by decide)) fun v A2 e2 P2 ⟨t, hv, t1, t8⟩ => ?_
  subst hv
  refine q_asgL (el_lst ea_nil (by simp)) fun l0 A3 f0 e3 h3 => ?_
  have e13 := (e1.trans e2).trans (exP_ex e3)
  have P3 := P2.ex e3
  have f0H := freshP P (e1.trans e2) f0 P2
  have times : ∀ {σ : L2.St} {A : Hp} {x y : Int}, Pool p c A → σ[0]? = some (some (.ref p)) → σ[1]? = some (some (.int b)) → 0 < x → 0 < y → x ≤ 10 → y ≤ 10 → EvD p c (tCall (sp__law_draw K g) [] E0 (tCons (tVar 0) (tCons (tOp (rIxL K) (tLst (tCons (tC (.int x)) (tCons (tC (.int y)) tNil))) (tVar 1)) tNil))) σ A fun v _ => ∃ m : Nat, v = .int (m : Int) ∧ (m : Int) < (if b = 0 then x else y) := fun {σ A x y} PA h0 h1 hx hy hx2 hy2 Q q => by
    have ix : Ev (tOp (rIxL K) (tLst (tCons (tC (.int x)) (tCons (tC (.int y)) tNil))) (tVar 1)) σ A (.int (if b = 0 then x else y)) :=
      ev_opL1 (el_lst (ea_cons ev_c (ea_cons ev_c ea_nil)) (by simp)) (fun _ _ => ev_var h1) fun p H1 hp _ => rv_ixL (sq_of hp) (by
        rcases hb with rfl | rfl
        · rfl
        · rfl)
    exact ed_draw PA (ea_cons (ev_var h0) (ea_cons ix ea_nil)) (by split <;> assumption) (by rw [p64]; split <;> omega) Q fun v H2 e2 P2 ⟨r, hv, r0, r1⟩ => q v H2 e2 P2 ⟨r.toNat, by rw [Int.toNat_of_nonneg r0]; exact hv, by rw [Int.toNat_of_nonneg r0]; exact r1⟩
  let Inv : Nat → L2.St → Hp → Prop := fun k σ' A => ExP p c H A ∧ Pool p c A ∧ ∃ (l : Addr) (xs : List V) (rs : List Rdg) (u : Option V), H l = none ∧ A l = some (.lst xs) ∧ xs.length = rs.length ∧ rs.length ≤ k ∧ (∀ (i : Nat) x r, xs[i]? = some x → rs[i]? = some r → RdV K r x A) ∧ (∀ r ∈ rs, Fine s t r) ∧
    σ' = [some (.ref p), some (.int b), some (.int (s : Int)), some (.int (t : Int)), some (.ref l), u]
  refine qd_for (M := 3) (fun Q q => times P3 rfl rfl (by decide) (by decide) (by decide) (by decide) Q fun v H2 e2 P2 ⟨m, hv, hm⟩ => q v H2 e2 P2 ⟨m, hv, by split at hm <;> omega⟩) (by decide) (fun m i => Inv (5 * i)) (fun m A4 hm e4 P4 => ⟨e13.trans e4, P4, l0, [], [], none, f0H, exP_new P2 f0 e4 h3, rfl, Nat.zero_le _, nofun, nofun, rfl⟩) (fun m i σ' A hm hi ⟨eA, PA, l, xs, rs, u, fl, hl, hz, hlen, hrd, hfi, hσ⟩ => ?_) fun m σ' A hm ⟨eA, PA, l, xs, rs, u, fl, hl, hz, hlen, hrd, hfi, hσ⟩ => ?_
  · subst hσ
    refine s_opV (ev_var rfl) fun A5 e5 => ?_
    refine call_raw (ea_cons (ev_var rfl) (ea_cons (ev_var rfl) (ea_cons (ev_var rfl) ea_nil))) fun A6 e6 => ?_
    have e56 := e5.trans e6
    refine ⟨p, c, s, t, rfl, PA.ex e56, s1, by omega, t1, by omega, fun w A7 fw e7 P7 hw => ?_⟩
    obtain ⟨ys, ps, hw, hz2, h5, hrd2, hfi2⟩ := hw
    have hl7 : A7 l = some (.lst xs) := exP_new P fl e7 (e56 _ _ hl)
    refine ⟨l, w, xs, ys, rfl, rfl, hl7, hw, sz_of (by omega), fun r hr => ?_⟩
    have e8 : Ex A7 (upd A7 r (.lst (xs ++ ys))) := Ex.new hr
    have eH7 := (eA.trans (exP_ex e56)).trans e7
    have L57 : Loose A A7 := (ex_loose e56).trans (exP_loose (PA.ex e56) e7)
    refine ⟨eH7.trans (exP_ex e8), P7.ex e8, r, xs ++ ys, rs ++ ps, _, freshP P eH7 hr P7, upd_same, by simp [hz, hz2], by rw [List.length_append]; omega, rds_append hz (fun i x r hx hr => rdv_st _ _ _ _ (L57.trans (ex_loose e8)) (hrd i x r hx hr)) (fun i x r hx hr => rdv_st _ _ _ _ (ex_loose e8) (hrd2 i x r hx hr)), fun r hr => ?_, rfl⟩
    rcases List.mem_append.mp hr with h | h
    · exact hfi r h
    · exact hfi2 r h
  · subst hσ
    refine qd_for (M := 9) (fun Q q => times PA rfl rfl (by decide) (by decide) (by decide) (by decide) Q fun v H2 e2 P2 ⟨m, hv, hm⟩ => q v H2 e2 P2 ⟨m, hv, by split at hm <;> omega⟩) (by decide) (fun m' i => Inv (5 * m + i)) (fun m' A4 hm e4 P4 => ⟨eA.trans e4, P4, l, xs, rs, u, fl, exP_new P fl e4 hl, hz, by omega, fun i x r hx hr => rdv_st _ _ _ _ (exP_loose PA e4) (hrd i x r hx hr), hfi, rfl⟩) (fun m' i σ' A hm hi ⟨eA, PA, l, xs, rs, u, fl, hl, hz, hlen, hrd, hfi, hσ⟩ => ?_) fun m' σ' A hm' ⟨eA, PA, l, xs, rs, u, fl, hl, hz, hlen, hrd, hfi, hσ⟩ => ?_
    · subst hσ
      refine s_appR hl (ev_var rfl) fun A5 e5 => ?_
      have PA5 := PA.ex e5
      have dr : ∀ B, Pool p c B → EvD p c (tCall (sp__law_draw K g) [] E0 (tCons (tVar 0) (tCons (tVar 3) tNil))) [some (.ref p), some (.int b), some (.int (s : Int)), some (.int (t : Int)), some (.ref l), some (.int (i : Int))] B fun v _ => ∃ r : Int, v = .int r ∧ 0 ≤ r ∧ r < t := fun B PB => ed_draw PB (ea_cons (ev_var rfl) (ea_cons (ev_var rfl) ea_nil)) (by omega) (by rw [p64]; omega)
      refine (ed_tup3 (fun v A B _ h => h) (fun v A B _ h => h) (dr A5 PA5) (fun B _ PB => dr B PB) (fun B _ PB => ed_step PB (ea_cons (ev_var rfl) (ea_cons (ev_var rfl) ea_nil)) (by omega)) (stepV_st _ _)) _ fun v A6 e6 P6 h => ?_
      obtain ⟨r, _, _, _, rfl, hr, ⟨k1, rfl, a1, b1⟩, ⟨k2, rfl, a2, b2⟩, st, ⟨h1, h2⟩, a, rfl, h3⟩ := h
      have hl6 : A6 l = some (.lst xs) := exP_new P fl e6 (e5 _ _ hl)
      have L6 : Loose A A6 := (ex_loose e5).trans (exP_loose PA5 e6)
      have LN := loose_upd (o := .lst (xs ++ [.ref r])) hl6
      refine ⟨l, xs, .ref r, rfl, rfl, hl6, sz_lt (by omega), exP_fresh fl ((eA.trans (exP_ex e5)).trans e6), pool_upd P fl P6, l, xs ++ [.ref r], rs ++ [(k1, k2, st)], _, fl, upd_same, by simp [hz], by rw [List.length_append]; simp; omega, rds_append hz (fun i x r hx hr => rdv_st _ _ _ _ (L6.trans LN) (hrd i x r hx hr)) (fun i x r' hx hr' => ?_), fun r' hr' => ?_, rfl⟩
      · cases i with
        | succ i => simp at hx
        | zero =>
          obtain rfl : V.ref r = x := by simpa using hx
          obtain rfl : (k1, k2, st) = r' := by simpa using hr'
          exact rdv_st _ _ _ _ LN ⟨r, rfl, a, st_of hr, h3⟩
      · rcases List.mem_append.mp hr' with h | h
        · exact hfi r' h
        · rw [List.mem_singleton.mp h]
          exact ⟨a1, b1, a2, b2, h1, fun y hy => by have := h2 y hy; omega⟩
    · subst hσ
      refine sp_ret (ep_tup (eap_v (ev_var rfl) (eap_v (ev_var rfl) (eap_one (ep_order (g := g) (xs := rs) (ep_val (ev_var rfl) fun H1 e => ⟨l, xs, rfl, sq_of (e _ _ hl), hz, fun i x r hx hr => rdv_st _ _ _ _ (ex_loose e) (hrd i x r hx hr)⟩) (by omega))))) (by rintro vs A ⟨_, rfl, _, rfl, _, rfl, _⟩; simp)) fun v B eB h => ?_
      obtain ⟨r, _, A0, rfl, h1, e2, _, rfl, _, rfl, rv, rfl, rs', ho, hr⟩ := h
      have hlen' := ord_len ho
      exact q _ B (eA.trans (exP_ex eB)) (PA.ex eB) ⟨s, t, rs', s1, by omega, t1, by omega, by omega, ho.1, fun r hr => hfi r ((ho.2 r).mp hr), r, rv, rfl, st_of h1, rds_st _ _ _ _ (ex_loose e2) hr⟩
end TW
namespace TW
open PySem L2 Evl RS RZ TN
theorem inV_int (k : Int) (l : List Int) : inV (.int k) (intsV l) = decide (k ∈ l) := by
  unfold inV intsV
  rw [List.any_map]
  have : (fun y => eqV y (V.int k)) ∘ V.int = fun i => i == k := by
    funext i; rfl
  rw [this, Bool.eq_iff_iff, List.any_eq_true, decide_eq_true_iff]
  constructor
  · rintro ⟨x, hx, e⟩
    rw [← beq_iff_eq.mp e]; exact hx
  · exact fun h => ⟨k, h, beq_self_eq_true k⟩
theorem flat_ints (l : List Int) : (intsV l).all flatV = true := by
  unfold intsV
  rw [List.all_map]
  exact List.all_eq_true.mpr fun _ _ => rfl
theorem row_ints (n : Nat) : (row n fun i => (i : Int)) = intsV ((List.range n).map fun (i : Nat) => (i : Int)) := by unfold intsV; rw [List.map_map] <;> rfl
theorem in_lot {k n : Nat} : inV (.int (k : Int)) (row n fun i => (i : Int)) = decide (k < n) := by
  rw [row_ints, inV_int, decide_eq_decide, List.mem_map]
  constructor
  · rintro ⟨i, hi, e⟩
    have := List.mem_range.mp hi
    omega
  · exact fun h => ⟨k, List.mem_range.mpr h, rfl⟩
theorem ints_ix {l : List Int} {j : Nat} (h : j < l.length) : atI (intsV l) (j : Int) = some (.int (l.getD j 0)) := by
  unfold atI
  rw [List.length_map, ixN_nat h]
  show (intsV l)[j]? = _
  rw [List.getElem?_map, List.getD_eq_getElem?_getD, List.getElem?_eq_getElem h] <;> rfl
section
variable {K : PySem.W.Frag} {g : Gs} {σ : L2.St} {H H' A B : Hp} {te ta tb ti : TE} {taa : TA} {tz tu : TS} {D : Ends} {n : Nat}
theorem ev_intsix {a : Addr} {l : List Int} {j : Nat} (h : Ev te σ H (.ref a)) (hi : Ev ti σ H (.int (j : Int))) (ha : SqT K H a (intsV l)) (hj : j < l.length) : Ev (tOp (rIxT K) te ti) σ H (.int (l.getD j 0)) := ep_ixT h hi ha (ints_ix hj)
theorem ev_areints {a : Addr} {l : List Int} {m : Int} (h : Ev ta σ H (.ref a)) (h2 : Ev tb σ H (.int m)) (ha : SqT K H a (intsV l)) (hl : l.length ≤ 40000) : Ev (tCall (sp__law_are_ints K g) [] E0 (tCons ta (tCons tb tNil))) σ H (.bl (decide ((l.length : Int) = m))) :=
  ev_call (ea_cons h (ea_cons h2 ea_nil)) fun H1 e Q q E => ⟨a, l, m, rfl, ex_t e ha, hl, q⟩
/-- o[i] = an int, in a row of ints -/
theorem s_setRow {l : Addr} {f : Nat → Int} {j : Nat} {d : Int} (hl : H l = some (.lst (row n f))) (he : Ev te σ H (.int d)) (ho : Ev ta σ H (.ref l)) (hi : Ev tb σ H (.int (j : Int))) (hj : j < n) (k : ∀ B, ExX l H B → B l = some (.lst (row n fun k => if k = j then d else f k)) → D.nx σ B) : tAsg te (gSub ta tb rSetL) D σ H :=
  s_setL hl he ho hi (by rw [row_len]; exact hj) fun H1 e => k _ (exX_of e) (by rw [upd_same, row_set])
theorem q_setRow {l : Addr} {f : Nat → Int} {j : Nat} {d : Int} (hl : H l = some (.lst (row n f))) (he : Ev te σ H (.int d)) (ho : Ev ta σ H (.ref l)) (hi : Ev tb σ H (.int (j : Int))) (hj : j < n) (k : ∀ B, ExX l H B → B l = some (.lst (row n fun k => if k = j then d else f k)) → tz D σ B) : tSeq (tAsg te (gSub ta tb rSetL)) tz D σ H := s_setRow (D := { D with nx := tz D }) hl he ho hi hj k
theorem ev_row {l : Addr} {f : Nat → Int} {j : Nat} (hl : H l = some (.lst (row n f))) (h : Ev te σ H (.ref l)) (hi : Ev ti σ H (.int (j : Int))) (hj : j < n) : Ev (tOp (rIxL K) te ti) σ H (.int (f j)) := ev_rowix hl h hi hj
theorem all_row {l : Addr} {f : Nat → Int} {tl : TE} {b : Nat → Bool} {i : Nat} (hl : H l = some (.lst (row n f))) (h : Ev tl σ H (.ref l)) (hn : n ≤ 40000) (hb : ∀ j, j < n → b j = true) (hs : ∀ j A, j < n → Ex H A → Ev te ((wipe σ [i]).set i (some (.int (f j)))) A (.bl (b j))) :
    Ev (tCB (rAll K) (tCons (tLc (iList K tl) (gName i) tYes te [i]) tNil)) σ H (.bl true) := by
  have l1 : EvL (tLc (iList K tl) (gName i) tYes te [i]) σ H ((List.range (row n f).length).map fun j => V.bl (b j)) :=
    el_lcA ((ei_list h (sq_of hl)).weak fun _ _ e => ex_ll e) (by rw [row_len]; exact hn) _ fun j x A e hj it => by
      rw [row_len] at hj
      rw [row_at hj] at it
      obtain rfl := Option.some.inj it
      refine ⟨_, pt_name, ?_, hs j A hj e⟩
      show ((σ.set i none).set i (some (V.int (f j)))).set i none = σ.set i none
      rw [List.set_set, List.set_set]
  exact ev_allT l1 fun j hj => hb j (by rw [row_len] at hj; exact hj)
theorem all_tup {a : Addr} {l : List Int} {tl : TE} {b : Nat → Bool} {i : Nat} (ha : SqT K H a (intsV l)) (h : Ev tl σ H (.ref a)) (hn : l.length ≤ 40000) (hb : ∀ j, j < l.length → b j = true) (hs : ∀ j A, j < l.length → Ex H A → Ev te ((wipe σ [i]).set i (some (.int (l.getD j 0)))) A (.bl (b j))) :
    Ev (tCB (rAll K) (tCons (tLc (iTup K tl) (gName i) tYes te [i]) tNil)) σ H (.bl true) := by
  have hl : (intsV l).length = l.length := by simp
  have l1 : EvL (tLc (iTup K tl) (gName i) tYes te [i]) σ H ((List.range (intsV l).length).map fun j => V.bl (b j)) :=
    el_lcA ((ei_tup h ha).weak fun _ _ e => ex_tt e) (by rw [hl]; exact hn) _ fun j x A e hj it => by
      obtain ⟨k, hk, rfl⟩ := ints_at it
      rw [hl] at hj
      have : k = l.getD j 0 := by rw [List.getD_eq_getElem?_getD, hk] <;> rfl
      subst this
      refine ⟨_, pt_name, ?_, hs j A hj e⟩
      show ((σ.set i none).set i (some (V.int (l.getD j 0)))).set i none = σ.set i none
      rw [List.set_set, List.set_set]
  exact ev_allT l1 fun j hj => hb j (by rw [hl] at hj; exact hj)
end
theorem two_sets (y x1 x2 : Nat) (F : Nat → Int) (v : Int) : (if y = x2 then (if x2 = x1 then F x1 + v else F x2) - v else if y = x1 then F x1 + v else F y) = F y + v * ((if (y : Int) = (x1 : Int) then 1 else 0) - (if (y : Int) = (x2 : Int) then 1 else 0)) := by
  by_cases h1 : y = x1
  · by_cases h2 : y = x2
    · subst h1
      rw [if_pos h2, if_pos h2.symm, if_pos rfl, if_pos (by omega)]
      simp
    · subst h1
      rw [if_neg h2, if_pos rfl, if_pos rfl, if_neg (by omega)]
      simp
  · by_cases h2 : y = x2
    · subst h2
      rw [if_pos rfl, if_neg h1, if_neg (by omega), if_pos rfl]
      omega
    · rw [if_neg h2, if_neg h1, if_neg (by omega), if_neg (by omega)]
      simp
theorem len__law_is_flow {K : PySem.W.Frag} {g : Gs} {vs : List V} {H : Hp} {Q : VK} {E : XK} (h : sp__law_is_flow K g vs H Q E) : vs.length = 4 := by
  obtain ⟨_, _, _, _, _, _, _, ⟨_, _, rfl, _⟩, _⟩ := h
  rfl
theorem pure__law_is_flow {K : PySem.W.Frag} {g : Gs} (C : CF K g) (vs : List V) (H : Hp) (Q : VK) (E : XK) (h : sp__law_is_flow K g vs H Q E) : t__law_is_flow K g { nx := fun _ H' => Q .non H', rt := Q } (start ["_law_told", "_law_lot", "_law_world", "_law_thing", "_law_sides", "_law_tables", "_law_readings", "_law_k", "_law_out", "_law_sums", "_law_reader", "_law_read", "_law_step_here", "_law_side", "_law_total", "_law_many"] vs) H := by
  obtain ⟨s, t, rs, n, w, x, fl, ⟨tv, a, rfl, hT, ha, hw, Z⟩, ⟨fa, rfl, hfa⟩, R, q⟩ := h
  obtain ⟨tp, rv, rfl, hT, ar, xr, rfl, har, hxr, hir⟩ := hT
  have s4 := Z.s4
  have t16 := Z.t16
  have r36 := Z.r36
  refine qk_asg (ep_ev (ev_var rfl)) fun v A1 e1 p1 => ?_
  subst p1
  refine pt_three (ex_t e1 hT) _ fun A2 e2 => ?_
  have e12 := e1.trans e2
  have hfa2 := ex_t e12 hfa
  refine q_when (b := false) (et_is (et_or (et_not (et_B (ev_areints (ev_var rfl) (ev_lenT (ev_var rfl) (ex_t e12 har)) hfa2 (by rw [R.len]; omega)))) fun _ => et_not (et_B (all_tup (b := fun _ => true) hfa2 (ev_var rfl) (by rw [R.len]; omega) (fun _ _ => rfl) fun j A hj e => ev_is (ev_op (ev_var rfl) ev_c rv_I0) (by rw [decide_eq_true (R.pos j (by rw [← R.len]; exact hj))])))) (by rw [R.len, hxr]; simp)) (fun z => nomatch z) fun _ A3 e3 => ?_
  have e13 := e12.trans e3
  have hfa3 := ex_t e13 hfa
  have flen : ∀ {σ : L2.St} {A : Hp} {te : TE}, Ex H A → Ev te σ A (.ref fa) → Ev (tCB (rLn K) (tCons te tNil)) σ A (.int (rs.length : Int)) := fun e h => ev_is (ev_lenT (K := K) h (ex_t e hfa)) (by rw [List.length_map, R.len])
  have l3 : EvL (tLc (iRng1 (tCons (tCB (rLn K) (tCons (tVar 3) tNil)) tNil)) (gName 7) tYes (tOrV (tOp (rIn K false) (tVar 7) (tVar 1)) (tOp rEq (tOp (rIxT K) (tVar 3) (tVar 7)) (tC (.int 0)))) [7]) [some (.ref tp), some (.ref a), some (.str w), some (.ref fa), some (.int (s : Int)), some (.int (t : Int)), some (.ref ar), none, none, none, none, none, none, none, none, none] A3 ((List.range rs.length).map fun i => V.bl (decide (i < n) || decide (V.int (fl.getD i 0) = V.int 0))) :=
    el_lcA (ei_rg (ea_cons (flen e13 (ev_var rfl)) ea_nil) (by omega)) (by omega) _ fun i x A e hi it => by
      subst it
      exact ⟨_, pt_name, rfl, ev_orV (ev_is (ev_op (ev_var rfl) (ev_var rfl) (rv_isT (ex_t (e13.trans e) ha) rfl (by rw [row_ints]; exact flat_ints _))) (by rw [in_lot])) fun _ => ev_op (ev_intsix (ev_var rfl) (ev_var rfl) (ex_t e hfa3) (by rw [R.len]; exact hi)) ev_c (rv_eq rfl)⟩
  refine q_when (b := false) (et_is (et_not (et_B (ev_allT l3 fun i hi => ?_))) rfl) (fun z => nomatch z) fun _ A4 e4 => ?_
  · by_cases h : i < n
    · rw [decide_eq_true h] <;> rfl
    · rw [R.out i (by omega) hi]; simp
  have e14 := e13.trans e4
  refine q_asgL (el_rep (k := t) ev_c (ev_var rfl) (by omega)) fun lo A5 f5 e5 h5 => ?_
  refine q_asgL (el_rep (k := s) ev_c (ev_var rfl) (by omega)) fun ls A6 f6 e6 h6 => ?_
  rw [rep_row] at h5 h6
  have neq : lo ≠ ls := by rintro rfl; rw [h5] at f6; cases f6
  have f64 : A4 ls = none := fresh_back e5 f6
  have h56 := e6 _ _ h5
  have base : ∀ {A B : Hp}, Ex A4 A → ExX lo A B ∨ ExX ls A B → Ex A4 B := fun e h b o hb => by
    rcases h with h | h
    · exact h b o (by rintro rfl; rw [f5] at hb; cases hb) (e b o hb)
    · exact h b o (by rintro rfl; rw [f64] at hb; cases hb) (e b o hb)
  refine q_for (n := rs.length) (ei_rgT (ea_cons (flen ((e14.trans e5).trans e6) (ev_var rfl)) ea_nil) (by omega)) (fun _ i σ' A => Ex A4 A ∧ A lo = some (.lst (row t fun x => S i fun k => fl.getD k 0 * cF t rs x k)) ∧ A ls = some (.lst (row s fun x => S i fun k => fl.getD k 0 * cF t rs (t + x) k)) ∧
      ∃ u7 u10 u11 u12 u13, σ' = [some (.ref tp), some (.ref a), some (.str w), some (.ref fa), some (.int (s : Int)), some (.int (t : Int)), some (.ref ar), u7, some (.ref lo), some (.ref ls), u10, u11, u12, u13, none, none])
    (fun A e => ⟨(e5.trans e6).trans e, e _ _ h56, e _ _ h6, _, _, _, _, _, rfl⟩) (fun _ _ _ _ _ _ _ => trivial) (fun A i σ' B y B2 e hi p e7 it => ?_) fun A σ' B e p => ?_
  · obtain ⟨eB, ho, hs, u7, u10, u11, u12, u13, rfl⟩ := p
    subst it
    refine pt_name _ fun B3 e8 => ?_
    have e78 := e7.trans e8
    have eB3 := eB.trans e78
    have eH3 := e14.trans eB3
    obtain ⟨v, hv⟩ : ∃ v, xr[i]? = some v := ⟨_, List.getElem?_eq_getElem (by omega)⟩
    have hr := hir i v _ hv (getI hi)
    have hF := Z.fine _ (rdk_mem hi)
    have hc : ∀ x, cF t rs x i = colF t (rdk rs i) x := fun _ => rfl
    generalize rdk rs i = r at *
    obtain ⟨r1, r2, st⟩ := r
    obtain ⟨f1, f2, f3, f4, f5', f6'⟩ := hF
    dsimp only at f1 f2 f3 f4 f5' f6'
    obtain ⟨x1, rfl⟩ := Int.eq_ofNat_of_zero_le f1
    obtain ⟨x2, rfl⟩ := Int.eq_ofNat_of_zero_le f3
    have hix : atI xr (i : Int) = some v := by
      unfold atI
      rw [ixN_nat (by omega)]
      exact hv
    refine qk_asg (ep_ev (ep_ixT (ev_var rfl) (ev_var rfl) (ex_t eH3 har) hix)) fun v' A9 e9 p9 => ?_
    subst p9
    have eH9 := eH3.trans e9
    obtain ⟨c0, rfl, d, h1, h2⟩ := rdv_st _ _ _ _ (ex_loose eH9) hr
    refine pt_three h1 _ fun A10 e10 => ?_
    have e910 := e9.trans e10
    have eH10 := eH9.trans e10
    have b10 := eB3.trans e910
    have thing : ∀ {σ : L2.St} {A : Hp}, Ex H A → σ[3]? = some (some (.ref fa)) → σ[7]? = some (some (.int (i : Int))) → Ev (tOp (rIxT K) (tVar 3) (tVar 7)) σ A (.int (fl.getD i 0)) := fun e h3 h7 => ev_intsix (ev_var h3) (ev_var h7) (ex_t e hfa) (by rw [R.len]; exact hi)
    have ho10 := (e78.trans e910) _ _ ho
    have hs10 := (e78.trans e910) _ _ hs
    refine q_setRow ho10 (ev_op (ev_row ho10 (ev_var rfl) (ev_var rfl) (by omega)) (thing eH10 rfl rfl) rv_I0) (ev_var rfl) (ev_var rfl) (by omega) fun B1 x1' hb1 => ?_
    have b1 := base b10 (.inl x1')
    refine q_setRow hb1 (ev_op (ev_row hb1 (ev_var rfl) (ev_var rfl) (by omega)) (thing (e14.trans b1) rfl rfl) rv_I0) (ev_var rfl) (ev_var rfl) (by omega) fun B2' x2' hb2 => ?_
    have b2 := base b1 (.inl x2')
    have hs2 := x2' _ _ neq.symm (x1' _ _ neq.symm hs10)
    have h2' : SqT K B2' d (intsV st) := by
      have L : Loose A10 B2' := fun b o nl hb => by
        have : b ≠ lo := by rintro rfl; rw [ho10] at hb; exact nl _ (Option.some.inj hb).symm
        exact x2' b o this (x1' b o this hb)
      exact Loose.t L _ _ (ex_t e10 h2)
    refine s_for (n := s) (ei_rgT (ea_cons (ev_var rfl) ea_nil) (by omega)) (fun _ j σ' A => Ex A4 A ∧ Loose B2' A ∧ A lo = some (.lst (row t fun x => S (i + 1) fun k => fl.getD k 0 * cF t rs x k)) ∧ A ls = some (.lst (row s fun x => (S i fun k => fl.getD k 0 * cF t rs (t + x) k) + if x < j then fl.getD i 0 * st.getD x 0 else 0)) ∧
        ∃ u13, σ' = [some (.ref tp), some (.ref a), some (.str w), some (.ref fa), some (.int (s : Int)), some (.int (t : Int)), some (.ref ar), some (.int (i : Int)), some (.ref lo), some (.ref ls), some (.int (x1 : Int)), some (.int (x2 : Int)), some (.ref d), u13, none, none])
      (fun A e => ⟨b2.trans e, ex_loose e, ?_, ?_, _, rfl⟩) (fun _ _ _ _ _ _ _ => trivial) (fun A j σ' B' y B4 e hj p e11 it => ?_) fun A σ' B' e p => ?_
    · rw [e _ _ hb2]
      congr 2
      refine row_ext fun y hy => ?_
      show (if y = x2 then (if x2 = x1 then (S i fun k => fl.getD k 0 * cF t rs x1 k) + fl.getD i 0 else S i fun k => fl.getD k 0 * cF t rs x2 k) - fl.getD i 0 else if y = x1 then (S i fun k => fl.getD k 0 * cF t rs x1 k) + fl.getD i 0 else S i fun k => fl.getD k 0 * cF t rs y k) = (S i fun k => fl.getD k 0 * cF t rs y k) + fl.getD i 0 * cF t rs y i
      rw [hc]
      unfold colF
      rw [if_pos hy]
      exact two_sets y x1 x2 (fun z => S i fun k => fl.getD k 0 * cF t rs z k) (fl.getD i 0)
    · rw [e _ _ hs2]
      congr 2
      exact row_ext fun y hy => by rw [if_neg (by omega), Int.add_zero]
    · obtain ⟨bA, lA, hoA, hsA, u13, rfl⟩ := p
      subst it
      refine pt_name _ fun B5 e12' => ?_
      have e1112 := e11.trans e12'
      have hd : SqT K B5 d (intsV st) := ex_t e1112 (Loose.t lA _ _ h2')
      have hb := f6' (st.getD j 0) (by rw [List.getD_eq_getElem?_getD, List.getElem?_eq_getElem (by omega)]; exact List.getElem_mem _)
      refine s_setRow (e1112 _ _ hsA) (ev_op (ev_row (e1112 _ _ hsA) (ev_var rfl) (ev_var rfl) hj) (ev_op (thing ((e14.trans bA).trans e1112) rfl rfl) (ev_intsix (ev_var rfl) (ev_var rfl) hd (by omega)) (rv_I (cmR (by rw [p64]; omega)))) rv_I0) (ev_var rfl) (ev_var rfl) hj fun B6 x6 hb6 => ⟨base (bA.trans e1112) (.inr x6), ?_, x6 _ _ neq (e1112 _ _ hoA), ?_, _, rfl⟩
      · exact (lA.trans (ex_loose e1112)).trans fun b o nl hb => x6 b o (by rintro rfl; rw [e1112 _ _ hsA] at hb; exact nl _ (Option.some.inj hb).symm) hb
      · rw [hb6]
        congr 2
        refine row_ext fun y hy => ?_
        by_cases hyj : y = j
        · subst hyj
          rw [if_pos rfl, if_neg (Nat.lt_irrefl _), if_pos (Nat.lt_succ_self _), Int.add_zero]
        · rw [if_neg hyj]
          by_cases h : y < j
          · rw [if_pos h, if_pos (by omega)]
          · rw [if_neg h, if_neg (by omega)]
    · obtain ⟨bA, lA, hoA, hsA, u13, rfl⟩ := p
      refine ⟨bA, hoA, ?_, _, _, _, _, _, rfl⟩
      rw [hsA]
      congr 2
      refine row_ext fun y hy => ?_
      rw [if_pos hy]
      show _ = (S i fun k => fl.getD k 0 * cF t rs (t + y) k) + fl.getD i 0 * cF t rs (t + y) i
      rw [hc]
      unfold colF
      rw [if_neg (by omega), Nat.add_sub_cancel_left]
  · obtain ⟨eB, ho, hs, u7, u10, u11, u12, u13, rfl⟩ := p
    have eHB := e14.trans eB
    refine q_when (b := false) (et_is (et_not (et_B (all_row (b := fun _ => true) ho (ev_var rfl) (by omega) (fun _ _ => rfl) fun j A hj e => ev_is (ev_op (ev_var rfl) ev_c (rv_eq rfl)) (by rw [R.tab j hj]; simp)))) rfl) (fun z => nomatch z) fun _ A5 e5 => ?_
    refine s_ret (all_row (b := fun _ => true) (e5 _ _ hs) (ev_var rfl) (by omega) (fun _ _ => rfl) fun j A hj e => ?_) fun A6 e6 => q A6 ((eHB.trans e5).trans e6)
    refine ev_is (ev_orV (ev_op (ev_var rfl) ev_c (rv_eq rfl)) fun _ => ev_andV (ev_op (ev_var rfl) ev_c rv_I0) fun _ => ev_op (ev_var rfl) ev_c (rv_eq rfl)) ?_
    rcases R.side j hj with h | ⟨h1, h2⟩
    · rw [h]; simp
    · rw [h2, decide_eq_true h1]; simp
end TW
namespace TW
open PySem L2 Evl RS RZ TN
theorem dp_ints {K : PySem.W.Frag} {H : Hp} : ∀ l : List Int, DpAll K H (intsV l) (l.map .int)
  | [] => .nil
  | x :: l => .cons (.int x) (dp_ints l)
theorem shaped_ints (l : List Int) : SeqAt.shaped (.list (l.map .int)) = true := by
  have h1 : ∀ l : List Int, PyData.canLayAll0 (l.map .int) = true := by
    intro l
    induction l with
    | nil => rfl
    | cons x l ih =>
      show PyData.canLayAll0 (.int x :: l.map .int) = true
      simp [PyData.canLayAll0, PyData.canLay0, ih]
  unfold SeqAt.shaped
  have h2 : (PyData.list (l.map .int)).depth = 1 := by simp [PyData.depth, deep_ints]
  rw [h2]
  simp [PyData.canLay0, h1]
theorem bl_ne (a b : Bool) : (!decide (V.bl a = V.bl b)) = (a != b) := by cases a <;> cases b <;> decide
theorem asc_one {l m : List Int} (h1 : l.Pairwise (· < ·)) (h2 : m.Pairwise (· < ·)) (h : ∀ k, k ∈ l ↔ k ∈ m) : l = m := by
  have n1 : l.Nodup := h1.imp fun {a b} (h : a < b) e => by omega
  have n2 : m.Nodup := h2.imp fun {a b} (h : a < b) e => by omega
  exact ((List.perm_ext_iff_of_nodup n1 n2).mpr h).eq_of_pairwise (fun a b _ _ (x : a < b) (y : b < a) => by omega) h1 h2
theorem len__law_is_row {K : PySem.W.Frag} {g : Gs} {vs : List V} {H : Hp} {Q : VK} {E : XK} (h : sp__law_is_row K g vs H Q E) : vs.length = 5 := by
  obtain ⟨_, _, _, _, _, _, _, _, _, _, ⟨_, _, rfl, _⟩, _⟩ := h
  rfl
theorem pure__law_is_row {K : PySem.W.Frag} {g : Gs} (C : CF K g) (vs : List V) (H : Hp) (Q : VK) (E : XK) (h : sp__law_is_row K g vs H Q E) : t__law_is_row K g { nx := fun _ H' => Q .non H', rt := Q } (start ["_law_told", "_law_lot", "_law_world", "_law_keep", "_law_thing", "_law_sides", "_law_tables", "_law_readings", "_law_k", "_law_reader", "_law_read", "_law_step_here", "_law_later", "_law_number", "_law_side"] vs) H := by
  obtain ⟨s, t, rs, n, w, y, x, kl, A0, B0, ⟨tv, a, rfl, hT, ha, hw, Z⟩, ⟨ka, rfl, hka⟩, hkl, ⟨pc, pd, pe, rfl, hpc, hpd, hpe⟩, R, q⟩ := h
  obtain ⟨tp, rv, rfl, hT, ar, xr, rfl, har, hxr, hir⟩ := hT
  have s4 := Z.s4
  have t16 := Z.t16
  have r36 := Z.r36
  have nle := Z.n_le
  refine qk_asg (ep_ev (ev_var rfl)) fun v A1 e1 p1 => ?_
  subst p1
  refine pt_three (ex_t e1 hT) _ fun A2 e2 => ?_
  have e12 := e1.trans e2
  refine q_when (b := false) (et_is (et_or (et_not (et_B (ev_isT (ev_var rfl) (ex_t e12 hpc)))) fun _ => et_test (ev_op (ev_lenT (ev_var rfl) (ex_t e12 hpc)) ev_c (rv_ne rfl))) (by simp)) (fun z => nomatch z) fun _ A3 e3 => ?_
  have e13 := e12.trans e3
  refine q_when (b := false) (et_is (et_or (et_not (et_B (ev_areints (ep_ixT (ev_var rfl) ev_c (ex_t e13 hpc) rfl) (ev_var rfl) (ex_t e13 hpd) (by rw [R.lenA]; omega)))) fun _ => et_not (et_B (ev_areints (ep_ixT (ev_var rfl) ev_c (ex_t e13 hpc) rfl) (ev_var rfl) (ex_t e13 hpe) (by rw [R.lenB]; omega)))) (by rw [R.lenA, R.lenB]; simp)) (fun z => nomatch z) fun _ A4 e4 => ?_
  have e14 := e13.trans e4
  refine q_when (b := false) (et_is (et_and (b := false) (et_test (ev_op (ev_var rfl) ev_c (rv_eq rfl))) fun z => et_is (et_not (et_B (all_tup (b := fun _ => true) (ex_t e14 hpd) (ep_ixT (ev_var rfl) ev_c (ex_t e14 hpc) rfl) (by rw [R.lenA]; omega) (fun _ _ => rfl) fun j A hj e => ev_is (ev_op (ev_var rfl) ev_c rv_I0) (by rw [decide_eq_true (R.far (by simpa using z) j (by rw [← R.lenA]; exact hj))])))) rfl) (by simp)) (fun z => nomatch z) fun _ A5 e5 => ?_
  have e15 := e14.trans e5
  refine q_for (n := n) (ei_lot (ev_var rfl) (ex_t e15 ha)) (fun A1 i σ' A => Ex A1 A ∧ ∃ u8 u9 u10 u11 u12 u14, σ' = [some (.ref tp), some (.ref a), some (.str w), some (.ref ka), some (.ref pc), some (.int (s : Int)), some (.int (t : Int)), some (.ref ar), u8, u9, u10, u11, u12, none, u14]) (fun A e => ⟨Ex.refl A, _, _, _, _, _, _, rfl⟩) (fun A i σ' B e _ p => p.1) (fun A i σ' B z B2 e hi p e7 it => ?_) fun A σ' B e p => ?_
  · obtain ⟨p1, u8, u9, u10, u11, u12, u14, rfl⟩ := p
    subst it
    refine pt_name _ fun B3 e8 => ?_
    have eH3 := (((e15.trans e).trans p1).trans e7).trans e8
    obtain ⟨v, hv⟩ : ∃ v, xr[i]? = some v := ⟨_, List.getElem?_eq_getElem (by omega)⟩
    have hr := hir i v _ hv (getI (by omega))
    have hF := Z.fine _ (rdk_mem (show i < rs.length by omega))
    have hrow := R.row i hi
    generalize rdk rs i = r at *
    obtain ⟨r1, r2, st⟩ := r
    obtain ⟨f1, f2, f3, f4, f5, f6⟩ := hF
    dsimp only at f1 f2 f3 f4 f5 f6
    obtain ⟨x1, rfl⟩ := Int.eq_ofNat_of_zero_le f1
    obtain ⟨x2, rfl⟩ := Int.eq_ofNat_of_zero_le f3
    have hix : atI xr (i : Int) = some v := by
      unfold atI
      rw [ixN_nat (by omega)]
      exact hv
    refine qk_asg (ep_ev (ep_ixT (ev_var rfl) (ev_var rfl) (ex_t eH3 har) hix)) fun v' A9 e9 p9 => ?_
    subst p9
    have eH9 := eH3.trans e9
    obtain ⟨c0, rfl, d, h1, h2⟩ := rdv_st _ _ _ _ (ex_loose eH9) hr
    refine pt_three h1 _ fun A10 e10 => ?_
    have eH10 := eH9.trans e10
    have h2 : SqT K A10 d (intsV st) := ex_t e10 h2
    have lsum : EvL (tLc (iRng1 (tCons (tVar 5) tNil)) (gName 14) tYes (tOp rMulC (tOp (rIxT K) (tOp (rIxT K) (tVar 4) (tC (.int 0))) (tVar 14)) (tOp (rIxT K) (tVar 11) (tVar 14))) [14]) [some (.ref tp), some (.ref a), some (.str w), some (.ref ka), some (.ref pc), some (.int (s : Int)), some (.int (t : Int)), some (.ref ar), some (.int (i : Int)), some (.int (x1 : Int)), some (.int (x2 : Int)), some (.ref d), u12, none, u14] A10 (row s fun j => A0.getD j 0 * st.getD j 0) :=
      el_lcA (ei_rg (ea_cons (ev_var rfl) ea_nil) (by omega)) (by omega) _ fun j z A e hj it => by
        subst it
        have hb := f6 (st.getD j 0) (by rw [List.getD_eq_getElem?_getD, List.getElem?_eq_getElem (by omega)]; exact List.getElem_mem _)
        exact ⟨_, pt_name, rfl, ev_op (ev_intsix (ep_ixT (ev_var rfl) ev_c (ex_t (eH10.trans e) hpc) rfl) (ev_var rfl) (ex_t (eH10.trans e) hpd) (by rw [R.lenA]; exact hj)) (ev_intsix (ev_var rfl) (ev_var rfl) (ex_t e h2) (by omega)) (rv_I (cmR (by rw [p64]; omega)))⟩
    refine q_asg (ev_op (ev_op (ev_sumRow lsum) (ev_intsix (ep_ixT (ev_var rfl) ev_c (ex_t eH10 hpc) rfl) (ev_var rfl) (ex_t eH10 hpe) (by rw [R.lenB]; omega)) rv_I0) (ev_intsix (ep_ixT (ev_var rfl) ev_c (ex_t eH10 hpc) rfl) (ev_var rfl) (ex_t eH10 hpe) (by rw [R.lenB]; omega)) rv_I0) fun A11 e11 => ?_
    have hL : laterF s t ((x1 : Int), (x2 : Int), st) A0 B0 = (S s fun j => A0.getD j 0 * st.getD j 0) + B0.getD x1 0 - B0.getD x2 0 := rfl
    rw [← hL]
    generalize laterF s t ((x1 : Int), (x2 : Int), st) A0 B0 = lt at *
    refine s_when (b := false) (et_is (et_or (et_test (ev_op (ev_var rfl) ev_c rv_I0)) fun _ => et_test (ev_op (ev_op (ev_var rfl) ev_c (rv_eq rfl)) (ev_is (ev_op (ev_var rfl) (ev_var rfl) (rv_isT (ex_t (eH10.trans e11) hka) rfl (flat_ints _))) (by rw [inV_int])) (rv_ne rfl))) ?_) (fun z => nomatch z) fun _ A12 e12 => ⟨((((p1.trans e7).trans e8).trans e9).trans e10).trans (e11.trans e12), _, _, _, _, _, _, rfl⟩
    rw [decide_eq_false (by omega), bl_ne, int_eq, Bool.false_or]
    have : decide (lt = 0) = decide ((i : Int) ∈ kl) := by rw [decide_eq_decide]; exact hrow.2
    rw [this, bne_self_eq_false]
  · obtain ⟨p1, u8, u9, u10, u11, u12, u14, rfl⟩ := p
    exact s_ret ev_c fun B2 e3 => q B2 (((e15.trans e).trans p1).trans e3)
theorem len__law_is_certain {K : PySem.W.Frag} {g : Gs} {vs : List V} {H : Hp} {Q : VK} {E : XK} (h : sp__law_is_certain K g vs H Q E) : vs.length = 6 := by
  obtain ⟨_, _, _, _, _, _, _, _, _, _, _, _, ⟨_, _, rfl, _⟩, _⟩ := h
  rfl
theorem pure__law_is_certain {K : PySem.W.Frag} {g : Gs} (C : CF K g) (vs : List V) (H : Hp) (Q : VK) (E : XK) (h : sp__law_is_certain K g vs H Q E) : t__law_is_certain K g { nx := fun _ H' => Q .non H', rt := Q } (start ["_law_told", "_law_lot", "_law_world", "_law_keep", "_law_amounts", "_law_later", "_law_k"] vs) H := by
  obtain ⟨s, t, rs, n, w, y, z, x, kl, fl, A0, B0, hP, hk, hf, hpair, RK, RF, RR, q⟩ := h
  obtain ⟨tv, a, rfl, hT, ha, hw, Z⟩ := id hP
  obtain ⟨ka, rfl, hka⟩ := id hk
  obtain ⟨fa, rfl, hfa⟩ := id hf
  have r36 := Z.r36
  have nle := Z.n_le
  have hkl : kl.length ≤ 36 := by
    have n1 : kl.Nodup := RK.asc.imp fun {a b} (h : a < b) e => by omega
    have := n1.length_le_of_subset (l₂ := (List.range n).map fun (i : Nat) => (i : Int)) fun k hk => by
      obtain ⟨h0, h1⟩ := RK.of k hk
      exact List.mem_map.mpr ⟨k.toNat, List.mem_range.mpr (by omega), by omega⟩
    simp at this
    omega
  have memk : ∀ j, j < kl.length → kl.getD j 0 ∈ kl := fun j hj => by
    rw [List.getD_eq_getElem?_getD, List.getElem?_eq_getElem hj]
    exact List.getElem_mem hj
  have upP : ∀ {A : Hp}, Ex H A → ∀ more more', PreL K (tv :: .ref a :: .str w :: more) H s t rs n w more → PreL K (tv :: .ref a :: .str w :: more') A s t rs n w more' := fun e _ _ _ => ⟨tv, a, rfl, told_st _ _ _ (ex_loose e) hT, ex_t e ha, hw, Z⟩
  have sos : EvL (tCB (rSortedSet g.wd) (tCons (tCB (rSetT K g.wd) (tCons (tVar 3) tNil)) tNil)) [some tv, some (.ref a), some (.str w), some (.ref ka), some (.ref fa), some x, none] H (intsV kl) := fun H1 e Q q =>
    (ev_var rfl : Ev (tVar 3) [some tv, some (.ref a), some (.str w), some (.ref ka), some (.ref fa), some x, none] H (.ref ka)) H1 e _ fun H2 e2 => ⟨ka, kl, rfl, ex_t (e.trans e2) hka, by omega, fun l m hl hm => ⟨l, _, m, rfl, upd_same, by omega, fun ns p asc mem _ hp => by
      have : ns = kl := asc_one asc RK.asc fun k => by rw [mem k, decide_eq_true_iff]
      subst this
      have e3 : Ex H2 (upd H2 l (SetO g.wd l (fun j => decide (j ∈ ns)) m)) := Ex.new hl
      exact q p _ (fresh_back (e2.trans e3) hp) ((e2.trans e3).trans (Ex.new hp)) upd_same⟩⟩
  refine q_when (b := false) (et_is (et_or (et_not (et_B (ev_areints (ev_var rfl) (ev_is (ev_lenT (ev_var rfl) hka) (by rw [List.length_map])) hka (by omega)))) fun _ => et_or (et_test (ev_opLL (z := .bl false) sos (el_lstT (ev_var rfl) hka) fun p r H1 h1 h2 e => fun H2 e2 Q q => ⟨.list (kl.map .int), .list (kl.map .int), .lst (sq_of (e2 _ _ h1)) (dp_ints kl), .lst (sq_of (e2 _ _ h2)) (dp_ints kl), shaped_ints kl, shaped_ints kl, ?_⟩)) fun _ => et_not (et_B (all_tup (b := fun _ => true) hka (ev_var rfl) (by omega) (fun _ _ => rfl) fun j A hj e => ?_))) (by simp)) (fun z => nomatch z) fun _ A1 e1 => ?_
  · have : PyData.eqv (.list (kl.map .int)) (.list (kl.map .int)) = true := by
      show PyData.eqv (.list (kl.map .int)) (.list (kl.map .int)) = true
      simp [PyData.eqv, eqv_ints]
    rw [this]
    exact q H2 (Ex.refl H2)
  · refine ev_is (ev_op (ev_var rfl) (ev_var rfl) (rv_isT (ex_t e ha) rfl (by rw [row_ints]; exact flat_ints _))) ?_
    obtain ⟨h0, h1⟩ := RK.of _ (memk j hj)
    generalize kl.getD j 0 = k at *
    obtain ⟨k, rfl⟩ := Int.eq_ofNat_of_zero_le h0
    rw [in_lot, decide_eq_true (by omega)]
  refine q_when (b := false) (et_is (et_or (et_not (et_B (ev_call (sp := sp__law_is_flow K g) (z := .bl true) (ea_cons (ev_var rfl) (ea_cons (ev_var rfl) (ea_cons (ev_var rfl) (ea_cons (ev_var rfl) ea_nil)))) fun H1 e Q q E => ⟨s, t, rs, n, w, _, fl, upP (e1.trans e) _ _ hP, tupI_st _ _ _ _ (ex_loose (e1.trans e)) hf, RF, q⟩))) fun _ => et_not (et_B (all_tup (b := fun _ => true) (ex_t e1 hka) (ev_var rfl) (by omega) (fun _ _ => rfl) fun j A hj e => ?_))) rfl) (fun z => nomatch z) fun _ A2 e2 => ?_
  · obtain ⟨h0, h1⟩ := RK.of _ (memk j hj)
    have hp := RK.pos _ (memk j hj)
    generalize kl.getD j 0 = k at *
    obtain ⟨k, rfl⟩ := Int.eq_ofNat_of_zero_le h0
    refine ev_is (ev_op (ev_intsix (ev_var rfl) (ev_var rfl) (ex_t (e1.trans e) hfa) (by rw [RF.len]; omega)) ev_c rv_I0) ?_
    rw [decide_eq_true]
    simpa using hp
  · exact s_ret (ev_call (sp := sp__law_is_row K g) (z := .bl true) (ea_cons (ev_var rfl) (ea_cons (ev_var rfl) (ea_cons (ev_var rfl) (ea_cons (ev_var rfl) (ea_cons (ev_var rfl) ea_nil))))) fun H1 e Q q E => ⟨s, t, rs, n, w, _, _, kl, A0, B0, upP ((e1.trans e2).trans e) _ _ hP, tupI_st _ _ _ _ (ex_loose ((e1.trans e2).trans e)) hk, hkl, pair_st _ _ _ _ _ (ex_loose ((e1.trans e2).trans e)) hpair, RR, q⟩) fun A3 e3 => q A3 ((e1.trans e2).trans e3)
end TW
namespace TW
open PySem L2 Evl RS RZ TN
/-! ### what is told is right by the law's own sums -/
theorem mul_left_inj' {d a b : Int} (hd : 0 < d) (h : d * a = d * b) : a = b := Int.eq_of_mul_eq_mul_left (by omega) h
theorem whole_len {n : Nat} {f : Nat → Int × Int} : (wholeF n f).length = n := by unfold wholeF; simp
theorem whole_at {n : Nat} {f : Nat → Int × Int} {i : Nat} (h : i < n) : (wholeF n f).getD i 0 = (f i).1 * (lcmF f n / (f i).2) := by
  unfold wholeF
  rw [List.getD_eq_getElem?_getD, List.getElem?_map, List.getElem?_range h] <;> rfl
/-- a whole number stands for its fraction: top / bottom = x / d -/
theorem whole_mul {M : Int} {n : Nat} {f : Nat → Int × Int} (hb : Bots M n f) {i : Nat} (hi : i < n) {x d : Int} (h : (f i).1 * d = (f i).2 * x) : d * (wholeF n f).getD i 0 = lcmF f n * x := by
  rw [whole_at hi]
  have ⟨h1, h2, h3⟩ := lcmF_ok hb n (Nat.le_refl _)
  have e : lcmF f n / (f i).2 * (f i).2 = lcmF f n := Int.ediv_mul_cancel (h3 i hi)
  generalize lcmF f n / (f i).2 = k at *
  rw [← e, ← Int.mul_assoc, Int.mul_comm d, h, Int.mul_comm k, Int.mul_assoc, Int.mul_assoc, Int.mul_comm x k]
theorem fr_mul {x d : Int} (hd : 0 < d) : (fr x d).1 * d = (fr x d).2 * x := by
  have ⟨h1, h2⟩ := fr_eq (x := x) hd
  generalize (fr x d).1 = a at *
  generalize (fr x d).2 = b at *
  generalize ((Int.gcd x d : Nat) : Int) = z at *
  rw [← h1, ← h2, ← Int.mul_assoc, ← Int.mul_assoc, Int.mul_comm a b]
theorem sumF_mul {n : Nat} {sh : Nat → Int × Int} {d : Int} {X : Nat → Int} (h : ∀ j, (sh j).1 * d = (sh j).2 * X j) (k : Nat) : (sumF n sh k).1 * d = (sumF n sh k).2 * (X k + X (n + k)) := by
  show ((sh k).1 * (sh (n + k)).2 + (sh (n + k)).1 * (sh k).2) * d = (sh k).2 * (sh (n + k)).2 * (X k + X (n + k))
  have h1 := h k
  have h2 := h (n + k)
  generalize (sh k).1 = a at *
  generalize (sh k).2 = b at *
  generalize (sh (n + k)).1 = a' at *
  generalize (sh (n + k)).2 = b' at *
  have e1 : a * b' * d = b * b' * X k := by rw [Int.mul_right_comm, h1, Int.mul_right_comm]
  have e2 : a' * b * d = b * b' * X (n + k) := by rw [Int.mul_right_comm, h2, Int.mul_right_comm, Int.mul_comm b' b]
  rw [Int.add_mul, e1, e2, Int.mul_add]
/-- the sum over a reading's column -/
theorem S_col {s t : Nat} {r : Rdg} (hF : Fine s t r) (h : Nat → Int) : (S (t + s) fun x => colF t r x * h x) = (S s fun i => h (t + i) * r.2.2.getD i 0) + h r.1.toNat - h r.2.1.toNat := by
  obtain ⟨f1, f2, f3, f4, f5, f6⟩ := hF
  rw [S_split]
  have e1 : (S t fun x => colF t r x * h x) = h r.1.toNat - h r.2.1.toNat := by
    have : (S t fun x => colF t r x * h x) = S t fun x => (if x = r.1.toNat then h x else 0) - (if x = r.2.1.toNat then h x else 0) := S_congr fun x hx => by
      unfold colF
      rw [if_pos hx, Int.sub_mul]
      congr 1
      · by_cases e : x = r.1.toNat
        · rw [if_pos e, if_pos (by omega), Int.one_mul]
        · rw [if_neg e, if_neg (by omega), Int.zero_mul]
      · by_cases e : x = r.2.1.toNat
        · rw [if_pos e, if_pos (by omega), Int.one_mul]
        · rw [if_neg e, if_neg (by omega), Int.zero_mul]
    rw [this, S_sub, S_only r.1.toNat (by omega) fun i _ hne => if_neg hne, S_only r.2.1.toNat (by omega) fun i _ hne => if_neg hne, if_pos rfl, if_pos rfl]
  have e2 : (S s fun i => colF t r (t + i) * h (t + i)) = S s fun i => h (t + i) * r.2.2.getD i 0 := S_congr fun i hi => by
    unfold colF
    rw [if_neg (by omega), Nat.add_sub_cancel_left, Int.mul_comm]
  rw [e1, e2]
  omega
theorem getD_zeros (n i : Nat) : (zeros n).getD i 0 = 0 := by
  unfold zeros
  rw [List.getD_eq_getElem?_getD, List.getElem?_replicate]
  split <;> rfl
theorem filt_asc (f : Nat → Bool) : ∀ n, (((List.range n).filter f).map fun (k : Nat) => (k : Int)).Pairwise (· < ·) := fun n => by
  refine List.pairwise_map.mpr (((List.pairwise_lt_range (n := n)).filter f).imp fun {a b} h => ?_)
  omega
theorem right {s t n : Nat} {rs : List Rdg} {w : Str} {d : TD} (Z : Sized s t rs n) (hw : isW w) (h : ToldIs s t rs n (farN s w) d) : RightK n d.kl d.fl ∧ RightF s t rs n w d.fl ∧ RightR s t rs n w d.kl d.A d.B := by
  rcases h with ⟨rfl, rfl⟩ | ⟨hn, u, hU, rfl⟩
  · refine ⟨⟨.nil, nofun, nofun⟩, ⟨by unfold zeros; simp, fun k _ => by rw [getD_zeros]; decide, fun k _ _ => getD_zeros _ _, fun x _ => S_zero fun k _ => by rw [getD_zeros, Int.zero_mul], fun x _ => .inl (S_zero fun k _ => by rw [getD_zeros, Int.zero_mul])⟩, ⟨by unfold zeros; simp, by unfold zeros; simp, fun _ i _ => by rw [getD_zeros]; decide, fun k hk => absurd hk (Nat.not_lt_zero _)⟩⟩
  · have L := Z.lim hn w
    have Dn : Done (cF t rs) (gF t) (t + s) n (farN s w) u := FinU.done L hU
    have ⟨sbo, _⟩ := sum_bots L Dn
    have ⟨ibo, _⟩ := side_bots Dn
    have hd := Dn.small.1
    have A := Dn.ans
    have nle := Z.n_le
    let X := valOf (p2 (3 * n + farN s w) (t + s + n)) u
    let Y : Nat → Int := fun q => u.t (t + s + n) (3 * n + farN s w + q)
    let am := wholeF n (sumF n (shF (3 * n + farN s w) (t + s + n) u))
    let nu := wholeF (t + s) (siF (3 * n + farN s w) (t + s + n) u)
    let L1 := lcmF (sumF n (shF (3 * n + farN s w) (t + s + n) u)) n
    let L2 := lcmF (siF (3 * n + farN s w) (t + s + n) u) (t + s)
    have hL1 : 0 < L1 := (lcmF_ok sbo n (Nat.le_refl _)).1
    have hL2 : 0 < L2 := (lcmF_ok ibo (t + s) (Nat.le_refl _)).1
    have ham : ∀ k, k < n → u.d * am.getD k 0 = L1 * (X k + X (n + k)) := fun k hk => whole_mul sbo hk (sumF_mul (X := X) (fun j => fr_mul hd) k)
    have hnu : ∀ q, q < t + s → u.d * nu.getD q 0 = L2 * Y q := fun q hq => whole_mul ibo hq (fr_mul hd)
    have X0 : ∀ j, 0 ≤ X j := A.x0
    have haml : am.length = n := whole_len
    have hnul : nu.length = t + s := whole_len
    have am0 : ∀ k, k < n → 0 ≤ am.getD k 0 := fun k hk => by
      rcases Int.lt_or_le (am.getD k 0) 0 with h | h
      · have h1 := ham k hk
        have h2 : 0 ≤ L1 * (X k + X (n + k)) := Int.mul_nonneg (Int.le_of_lt hL1) (by have := X0 k; have := X0 (n + k); omega)
        have h3 : u.d * am.getD k 0 < 0 := Int.mul_neg_of_pos_of_neg hd h
        omega
      · exact h
    have amp : ∀ k, k < n → 0 < X k → 0 < am.getD k 0 := fun k hk hX => by
      rcases Int.lt_or_le 0 (am.getD k 0) with h | h
      · exact h
      · have h1 := ham k hk
        have h2 : 0 < L1 * (X k + X (n + k)) := Int.mul_pos hL1 (by have := X0 (n + k); omega)
        have h3 : u.d * am.getD k 0 ≤ 0 := Int.mul_nonpos_of_nonneg_of_nonpos (Int.le_of_lt hd) h
        omega
    have kl_iff : ∀ k, k < n → ((k : Int) ∈ (((List.range n).filter fun k => decide (0 < (shF (3 * n + farN s w) (t + s + n) u k).1)).map fun (k : Nat) => (k : Int)) ↔ 0 < X k) := fun k hk => by
      rw [List.mem_map]
      constructor
      · rintro ⟨i, hi, e⟩
        obtain rfl : i = k := by omega
        exact (fr_pos hd).mp (of_decide_eq_true (List.mem_filter.mp hi).2)
      · exact fun h => ⟨k, List.mem_filter.mpr ⟨List.mem_range.mpr hk, decide_eq_true ((fr_pos hd).mpr h)⟩, rfl⟩
    have flat : ∀ k, (am ++ zeros (rs.length - n)).getD k 0 = if k < n then am.getD k 0 else 0 := fun k => by
      rw [List.getD_eq_getElem?_getD, List.getD_eq_getElem?_getD]
      by_cases hk : k < n
      · rw [if_pos hk, List.getElem?_append_left (by omega)]
      · rw [if_neg hk, List.getElem?_append_right (by omega)]
        unfold zeros
        rw [List.getElem?_replicate]
        split <;> rfl
    -- the sums of the amounts
    have sums : ∀ x, x < t + s → u.d * (S rs.length fun k => (am ++ zeros (rs.length - n)).getD k 0 * cF t rs x k) = -(L1 * S (farN s w) fun q => gF t x q * X (3 * n + q)) := fun x hx => by
      have e0 : rs.length = n + (rs.length - n) := by omega
      have e1 : (S rs.length fun k => (am ++ zeros (rs.length - n)).getD k 0 * cF t rs x k) = S n fun k => am.getD k 0 * cF t rs x k := by
        conv => lhs; arg 1; rw [e0]
        rw [S_split, S_zero (n := rs.length - n) fun i _ => by rw [flat, if_neg (by omega), Int.zero_mul], Int.add_zero]
        exact S_congr fun k hk => by rw [flat, if_pos hk]
      rw [e1, ← S_mul]
      have e2 : (S n fun k => u.d * (am.getD k 0 * cF t rs x k)) = S n fun k => L1 * (cF t rs x k * (X k + X (n + k))) := S_congr fun k hk => by
        rw [← Int.mul_assoc, ham k hk, Int.mul_assoc, Int.mul_comm (X k + X (n + k))]
      rw [e2, S_mul]
      have := A.flow x hx
      have e3 : (S n fun k => cF t rs x k * (X k + X (n + k))) = -(S (farN s w) fun q => gF t x q * X (3 * n + q)) := by
        have : (S n fun k => cF t rs x k * (X k + X (n + k))) + (S (farN s w) fun q => gF t x q * X (3 * n + q)) = 0 := this
        omega
      rw [e3, Int.mul_neg]
    refine ⟨⟨filt_asc _ n, fun k hk => ?_, fun k hk => ?_⟩, ⟨?_, fun k _ => ?_, fun k h1 _ => ?_, fun x hx => ?_, fun x hx => ?_⟩, ⟨?_, ?_, fun hc i hi => ?_, fun k hk => ?_⟩⟩
    · obtain ⟨i, hi, rfl⟩ := List.mem_map.mp hk
      have := List.mem_range.mp (List.mem_filter.mp hi).1
      omega
    · obtain ⟨i, hi, rfl⟩ := List.mem_map.mp hk
      have hin := List.mem_range.mp (List.mem_filter.mp hi).1
      show 0 < (am ++ zeros (rs.length - n)).getD (i : Int).toNat 0
      rw [Int.toNat_natCast, flat, if_pos hin]
      exact amp i hin ((kl_iff i hin).mp hk)
    · show (am ++ zeros (rs.length - n)).length = rs.length
      unfold zeros
      rw [List.length_append, haml, List.length_replicate]; omega
    · show 0 ≤ (am ++ zeros (rs.length - n)).getD k 0
      rw [flat]
      split
      · exact am0 k (by assumption)
      · decide
    · show (am ++ zeros (rs.length - n)).getD k 0 = 0
      rw [flat, if_neg (by omega)]
    · have h := sums x (by omega)
      rw [S_zero (n := farN s w) fun q _ => by unfold gF; rw [if_neg (by omega), Int.zero_mul], Int.mul_zero] at h
      exact mul_left_inj' hd (by rw [Int.mul_zero]; exact h)
    · have h := sums (t + x) (by omega)
      unfold farN at *
      by_cases hb : w = "boxes"
      · rw [if_pos hb] at h
        left
        refine mul_left_inj' hd (Eq.trans h ?_)
        show -(L1 * 0) = u.d * 0
        rw [Int.mul_zero, Int.mul_zero] <;> rfl
      · rw [if_neg hb] at h
        have hc : w = "corner" := hw.resolve_left hb
        have e : (S s fun q => gF t (t + x) q * X (3 * n + q)) = X (3 * n + x) := by
          rw [S_only x hx fun q _ hq => by unfold gF; rw [if_neg (by omega), Int.zero_mul]]
          unfold gF
          rw [if_pos rfl, Int.one_mul]
        have h : u.d * (S rs.length fun k => (am ++ zeros (rs.length - n)).getD k 0 * cF t rs (t + x) k) = -(L1 * S s fun q => gF t (t + x) q * X (3 * n + q)) := h
        rw [e] at h
        have hX := X0 (3 * n + x)
        show (S rs.length fun k => (am ++ zeros (rs.length - n)).getD k 0 * cF t rs (t + x) k) = 0 ∨ _
        have h2 : 0 ≤ L1 * X (3 * n + x) := Int.mul_nonneg (Int.le_of_lt hL1) hX
        rcases Int.lt_trichotomy (S rs.length fun k => (am ++ zeros (rs.length - n)).getD k 0 * cF t rs (t + x) k) 0 with h3 | h3 | h3
        · exact .inr ⟨h3, hc⟩
        · exact .inl h3
        · have := Int.mul_pos hd h3
          omega
    · show (nu.drop t).length = s
      rw [List.length_drop, hnul]; omega
    · show (nu.take t).length = t
      rw [List.length_take, hnul]; omega
    · show 0 ≤ (nu.drop t).getD i 0
      have e : (nu.drop t).getD i 0 = nu.getD (t + i) 0 := by rw [List.getD_eq_getElem?_getD, List.getD_eq_getElem?_getD, List.getElem?_drop]
      rw [e]
      have hf : farN s w = s := by unfold farN; rw [hc, if_neg (by decide)]
      have hq := A.far i (by rw [hf]; exact hi)
      have e2 : (S (t + s) fun x => gF t x i * Y x) = Y (t + i) := by
        rw [S_only (t + i) (by omega) fun q _ hq => by unfold gF; rw [if_neg hq, Int.zero_mul]]
        unfold gF
        rw [if_pos rfl, Int.one_mul]
      have hq : 0 ≤ Y (t + i) := by rw [← e2]; exact hq
      have h1 := hnu (t + i) (by omega)
      rcases Int.lt_or_le (nu.getD (t + i) 0) 0 with h | h
      · have h2 : 0 ≤ L2 * Y (t + i) := Int.mul_nonneg (Int.le_of_lt hL2) hq
        have h3 := Int.mul_neg_of_pos_of_neg hd h
        omega
      · exact h
    · have hF := Z.fine _ (rdk_mem (show k < rs.length by omega))
      have el : laterF s t (rdk rs k) (nu.drop t) (nu.take t) = S (t + s) fun x => colF t (rdk rs k) x * nu.getD x 0 := by
        rw [S_col hF (fun x => nu.getD x 0)]
        unfold laterF
        obtain ⟨f1, f2, f3, f4, f5, f6⟩ := hF
        have tk : ∀ x, x < t → (nu.take t).getD x 0 = nu.getD x 0 := fun x hx => by rw [List.getD_eq_getElem?_getD, List.getD_eq_getElem?_getD, List.getElem?_take_of_lt hx]
        have dr : ∀ i, (nu.drop t).getD i 0 = nu.getD (t + i) 0 := fun i => by rw [List.getD_eq_getElem?_getD, List.getD_eq_getElem?_getD, List.getElem?_drop]
        rw [tk _ (by omega), tk _ (by omega), S_congr (n := s) fun i _ => by rw [dr i]]
      have ed : u.d * (S (t + s) fun x => colF t (rdk rs k) x * nu.getD x 0) = L2 * S (t + s) fun x => cF t rs x k * Y x := by
        rw [← S_mul, ← S_mul]
        exact S_congr fun x hx => by
          show u.d * (cF t rs x k * nu.getD x 0) = L2 * (cF t rs x k * Y x)
          rw [Int.mul_left_comm, hnu x hx, Int.mul_left_comm]
      show 0 ≤ laterF s t (rdk rs k) (nu.drop t) (nu.take t) ∧ (laterF s t (rdk rs k) (nu.drop t) (nu.take t) = 0 ↔ _)
      rw [el]
      have p0 := A.p0 k hk
      have pk := A.pk k hk
      have pn := A.pn k hk
      have iff := kl_iff k hk
      have p0 : 0 ≤ S (t + s) fun x => cF t rs x k * Y x := p0
      have pk : 0 < X k → (S (t + s) fun x => cF t rs x k * Y x) = 0 := pk
      have pn : X k = 0 → 0 < S (t + s) fun x => cF t rs x k * Y x := pn
      generalize (S (t + s) fun x => colF t (rdk rs k) x * nu.getD x 0) = z at *
      generalize (S (t + s) fun x => cF t rs x k * Y x) = y at *
      have hXk := X0 k
      refine ⟨?_, ?_⟩
      · rcases Int.lt_or_le z 0 with h | h
        · have h2 := Int.mul_nonneg (Int.le_of_lt hL2) p0
          have h3 := Int.mul_neg_of_pos_of_neg hd h
          omega
        · exact h
      · show z = 0 ↔ (k : Int) ∈ _
        constructor
        · intro hz
          refine iff.mpr ?_
          rcases Int.lt_or_le 0 (X k) with h | h
          · exact h
          · have h1 := Int.mul_pos hL2 (pn (by omega))
            rw [hz, Int.mul_zero] at ed
            omega
        · intro hm
          have := pk (iff.mp hm)
          rw [this, Int.mul_zero] at ed
          exact mul_left_inj' hd (by rw [Int.mul_zero]; exact ed)
end TW
namespace TW
open PySem L2 Evl RS RZ TN
theorem ToldIs.one {s t n f : Nat} {rs : List Rdg} {d d' : TD} (h : ToldIs s t rs n f d) (h' : ToldIs s t rs n f d') : d = d' := by
  rcases h with ⟨h0, rfl⟩ | ⟨h0, u, hu, rfl⟩
  · rcases h' with ⟨_, rfl⟩ | ⟨h1, _⟩
    · rfl
    · omega
  · rcases h' with ⟨h1, _⟩ | ⟨_, v, hv, rfl⟩
    · omega
    · rw [FinU.one hu hv]
theorem len__law_is_right {K : PySem.W.Frag} {g : Gs} {vs : List V} {H : Hp} {Q : VK} {E : XK} (h : sp__law_is_right K g vs H Q E) : vs.length = 4 := by
  obtain ⟨_, _, _, _, _, _, ⟨_, _, rfl, _⟩, _⟩ := h
  rfl
theorem pure__law_is_right {K : PySem.W.Frag} {g : Gs} (C : CF K g) (vs : List V) (H : Hp) (Q : VK) (E : XK) (h : sp__law_is_right K g vs H Q E) : t__law_is_right K g { nx := fun _ H' => Q .non H', rt := Q } (start ["_law_told", "_law_lot", "_law_world", "_law_program", "_law_keep"] vs) H := by
  obtain ⟨s, t, rs, n, w, pv, ⟨tv, a, rfl, hT, ha, hw, Z⟩, hp, q⟩ := h
  have pre : ∀ A, Ex H A → PreT K g [pv, .ref a, .str w] A s t rs n w := fun A e => ⟨pv, a, rfl, prog_st _ _ _ (ex_loose e) hp, ex_t e ha, hw, Z⟩
  refine qp_asg (φ := fun v A => ∃ d, ToldIs s t rs n (farN s w) d ∧ TupI K d.kl v A) (ep_call (sp := sp_kept K g) (ea_cons (ev_var rfl) (ea_cons (ev_var rfl) (ea_cons (ev_var rfl) ea_nil))) fun H1 e Q q E => ⟨s, t, rs, n, w, pre H1 e, q⟩) fun v A1 e1 ⟨d, hd, hk⟩ => ?_
  obtain ⟨ka, rfl, hka⟩ := id hk
  refine q_when (b := false) (et_is (et_not (et_B (ev_isT (ev_var rfl) hka))) rfl) (fun z => nomatch z) fun _ A2 e2 => ?_
  have e12 := e1.trans e2
  have args : EaP (tCons (tVar 3) (tCons (tVar 1) (tCons (tVar 2) tNil))) [some tv, some (.ref a), some (.str w), some pv, some (.ref ka)] A2 fun vs _ => vs = [pv, .ref a, .str w] := (eap_ea (ea_cons (ev_var rfl) (ea_cons (ev_var rfl) (ea_cons (ev_var rfl) ea_nil))))
  have fl : EvP (tCall (sp_flow K g) [] E0 (tCons (tVar 3) (tCons (tVar 1) (tCons (tVar 2) tNil)))) [some tv, some (.ref a), some (.str w), some pv, some (.ref ka)] A2 (TupI K d.fl) :=
    (ep_call (φ := fun v A => ∃ d, ToldIs s t rs n (farN s w) d ∧ TupI K d.fl v A) (ea_cons (ev_var rfl) (ea_cons (ev_var rfl) (ea_cons (ev_var rfl) ea_nil))) fun H1 e Q q E => ⟨s, t, rs, n, w, pre H1 (e12.trans e), q⟩).imp fun v A e ⟨d', h1, h2⟩ => by rw [hd.one h1]; exact h2
  have rw_ : EvP (tCall (sp_row K g) [] E0 (tCons (tVar 3) (tCons (tVar 1) (tCons (tVar 2) tNil)))) [some tv, some (.ref a), some (.str w), some pv, some (.ref ka)] A2 (PairI K d.A d.B) :=
    (ep_call (φ := fun v A => ∃ d, ToldIs s t rs n (farN s w) d ∧ PairI K d.A d.B v A) (ea_cons (ev_var rfl) (ea_cons (ev_var rfl) (ea_cons (ev_var rfl) ea_nil))) fun H1 e Q q E => ⟨s, t, rs, n, w, pre H1 (e12.trans e), q⟩).imp fun v A e ⟨d', h1, h2⟩ => by rw [hd.one h1]; exact h2
  have ⟨RK, RF, RR⟩ := right Z hw hd
  refine sp_ret (φ := fun v _ => v = .bl true) (epp_call (sp := sp__law_is_certain K g) (eap_v (ev_var rfl) (eap_v (ev_var rfl) (eap_v (ev_var rfl) (eap_v (ev_var rfl) (eap_cons fl (tupI_st _).up (eap_one rw_)))))) fun vs A e h Q q E => ?_) fun v A e h => by rw [h]; exact q A (e12.trans e)
  obtain ⟨_, rfl, _, rfl, _, rfl, _, rfl, x1, _, rfl, h1, x2, rfl, h2⟩ := h
  exact ⟨s, t, rs, n, w, _, x1, x2, d.kl, d.fl, d.A, d.B, ⟨tv, a, rfl, told_st _ _ _ (ex_loose (e12.trans e)) hT, ex_t (e12.trans e) ha, hw, Z⟩, tupI_st _ _ _ _ (ex_loose (e2.trans e)) hk, h1, h2, RK, RF, RR, fun H2 e2 => q _ H2 e2 rfl⟩
end TW
namespace TW
open PySem L2 Evl RS RZ TN
/-! ### the law -/
def farR (s : Nat) (i : Nat) : Rdg := ((i : Int) / 6, (i : Int) % 6, List.replicate s ((i : Int) - 5))
def farRs (s : Nat) : List Rdg := (List.range 12).map (farR s)
theorem farRs_len (s : Nat) : (farRs s).length = 12 := by unfold farRs; simp
theorem farRs_get {s i : Nat} (h : i < 12) : (farRs s)[i]? = some (farR s i) := by unfold farRs; rw [List.getElem?_map, List.getElem?_range h] <;> rfl
theorem farR_fine {s i : Nat} (h : i < 12) : Fine s 8 (farR s i) := by
  refine ⟨?_, ?_, ?_, ?_, by unfold farR; simp, fun x hx => ?_⟩
  · show 0 ≤ (i : Int) / 6; omega
  · show (i : Int) / 6 < ((8 : Nat) : Int); omega
  · show 0 ≤ (i : Int) % 6; omega
  · show (i : Int) % 6 < ((8 : Nat) : Int); omega
  · have := (List.mem_replicate.mp hx).2
    omega
theorem farRs_fine {s : Nat} : ∀ r ∈ farRs s, Fine s 8 r := fun r hr => by
  obtain ⟨i, hi, rfl⟩ := List.mem_map.mp hr
  exact farR_fine (List.mem_range.mp hi)
theorem farR_lt {s i j : Nat} (h : i < j) : dLt (farR s i) (farR s j) := by
  by_cases e : (i : Int) / 6 < (j : Int) / 6
  · exact .inl e
  · exact .inr ⟨show (i : Int) / 6 = (j : Int) / 6 by omega, .inl (show (i : Int) % 6 < (j : Int) % 6 by omega)⟩
theorem farRs_asc (s : Nat) : (farRs s).Pairwise dLt := List.pairwise_map.mpr (List.pairwise_lt_range.imp fun h => farR_lt h)
theorem move_fine {s t : Nat} {r : Rdg} (h : Fine s 8 r) : Fine s (t + 8) (moveR t r) := by
  obtain ⟨f1, f2, f3, f4, f5, f6⟩ := h
  refine ⟨?_, ?_, ?_, ?_, f5, f6⟩
  · show 0 ≤ r.1 + t; omega
  · show r.1 + t < ((t + 8 : Nat) : Int); omega
  · show 0 ≤ r.2.1 + t; omega
  · show r.2.1 + t < ((t + 8 : Nat) : Int); omega
theorem more_fine {s t : Nat} {r : Rdg} (h : Fine s t r) : Fine s (t + 8) r := by
  obtain ⟨f1, f2, f3, f4, f5, f6⟩ := h
  exact ⟨f1, by omega, f3, by omega, f5, f6⟩
theorem both_asc {s t : Nat} {rs : List Rdg} (ha : rs.Pairwise dLt) (hf : ∀ r ∈ rs, Fine s t r) : (rs ++ (farRs s).map (moveR t)).Pairwise dLt := by
  refine List.pairwise_append.mpr ⟨ha, List.pairwise_map.mpr ((farRs_asc s).imp fun {a b} h => ?_), fun a h1 b h2 => ?_⟩
  · rcases h with h | ⟨h, h'⟩
    · exact .inl (show a.1 + t < b.1 + t by omega)
    · refine .inr ⟨show a.1 + t = b.1 + t by omega, ?_⟩
      rcases h' with h' | ⟨h', h''⟩
      · exact .inl (show a.2.1 + t < b.2.1 + t by omega)
      · exact .inr ⟨show a.2.1 + t = b.2.1 + t by omega, h''⟩
  · obtain ⟨r, hr, rfl⟩ := List.mem_map.mp h2
    have h3 := (hf a h1).2.1
    have h4 := (farRs_fine r hr).1
    exact .inl (show a.1 < r.1 + t by omega)
theorem ord_one {xs rs : List Rdg} (h : OrdOf xs rs) (ha : xs.Pairwise dLt) : rs = xs := by
  have n1 : rs.Nodup := h.1.imp fun {a b} hab e => by subst e; exact dLt_irrefl _ hab
  have n2 : xs.Nodup := ha.imp fun {a b} hab e => by subst e; exact dLt_irrefl _ hab
  exact only_one ((List.perm_ext_iff_of_nodup n1 n2).mpr h.2) h.1 ha
section
variable {K : PySem.W.Frag} {g : Gs} {σ : L2.St} {H H' A B : Hp} {te ta tb ti : TE} {taa : TA} {tz tu : TS} {D : Ends} {n : Nat} {p c : Addr} {φ : V → Hp → Prop}
theorem q_callA {sp : Sp} {vs : List V} {E : XK} {i : Nat} (h : EvA taa σ H vs) (k : ∀ A, Ex H A → sp vs A (fun v H1 => tz D (σ.set i (some v)) H1) E) : tSeq (tAsg (tCall sp [] E taa) (gName i)) tz D σ H := h H (Ex.refl H) _ fun A e => by
  rw [List.append_nil]
  exact k A e
theorem ep_repX {k : Nat} {x : Int} (hk : k ≤ 1000) (h : Ev ta σ H (.int x)) (h2 : ∀ A, Ex H A → Ev tb σ A (.int (k : Int))) : EvP (tOp (rRepTT K) (tTup (tCons ta tNil)) tb) σ H (TupI K (List.replicate k x)) := fun H1 e Q q => h H1 e _ fun H2 e2 => ⟨sz_of (by simp), fun p hp => by
  have e3 : Ex H2 (upd H2 p (.tup [.int x])) := Ex.new hp
  refine h2 H2 (e.trans e2) _ e3 _ fun H3 e4 => ⟨p, (k : Int), [.int x], rfl, rfl, st_of (e4 _ _ upd_same), by simp, by omega, by omega, by simp, fun h1 => ?_, fun h1 r hr => ?_⟩
  · obtain rfl : k = 1 := by omega
    exact q _ H3 ((e2.trans e3).trans e4) ⟨p, rfl, st_of (e4 _ _ upd_same)⟩
  · refine q _ _ (((e2.trans e3).trans e4).trans (Ex.new hr)) ⟨r, rfl, st_of ?_⟩
    rw [upd_same, Int.toNat_natCast, flat_rep]
    unfold intsV
    rw [List.map_replicate]⟩
/-- tuple(range(n)) -/
theorem eu_rg (h : Ev te σ H (.int (n : Int))) (hn : n ≤ 40000) : EvU (tTupRg (tRg1 te)) σ H (row n fun i => (i : Int)) := fun H1 e Q q =>
  h H1 e _ fun H2 e2 => ⟨(n : Int), rfl, RgOk.of_le (by decide) (by omega) (by decide) (by omega), fun r hr => q r _ (fresh_back e2 hr) (e2.trans (Ex.new hr)) (by
    rw [upd_same]
    unfold rgV
    rw [Int.sub_zero, Int.toNat_natCast]
    congr 2
    exact row_ext fun j _ => Int.zero_add _)⟩
/-- a tuple of readings and another -/
theorem ep_catR {rs ps : List Rdg} (h : EvP ta σ H (RdsT K rs)) (h2 : ∀ A, Ex H A → EvP tb σ A (RdsT K ps)) (hz : rs.length + ps.length ≤ 1000) : EvP (tOp (rCatA K) ta tb) σ H (RdsT K (rs ++ ps)) := fun H1 e Q q =>
  h H1 e _ fun v H2 e2 hv => h2 H2 (e.trans e2) H2 (Ex.refl _) _ fun u H3 e3 hu => by
    obtain ⟨a, xs, rfl, ha, hal, hai⟩ := rds_st _ _ _ _ (ex_loose e3) hv
    obtain ⟨b, ys, rfl, hb, hbl, hbi⟩ := hu
    refine ⟨a, b, xs, ys, rfl, rfl, ha, hb, sz_of (by omega), fun h0 => ?_, fun _ h0 => ?_, fun _ _ r hr => ?_⟩
    · subst h0
      have : rs = [] := List.eq_nil_of_length_eq_zero (by simpa using hal.symm)
      subst this
      exact q _ H3 (e2.trans e3) ⟨b, ys, rfl, hb, hbl, hbi⟩
    · subst h0
      have : ps = [] := List.eq_nil_of_length_eq_zero (by simpa using hbl.symm)
      subst this
      rw [List.append_nil] at q
      exact q _ H3 (e2.trans e3) ⟨a, xs, rfl, ha, hal, hai⟩
    · have e4 : Ex H3 (upd H3 r (.tup (xs ++ ys))) := Ex.new hr
      exact q _ _ ((e2.trans e3).trans e4) ⟨r, xs ++ ys, rfl, st_of upd_same, by simp [hal, hbl], rds_append hal (fun i x r hx hr => rdv_st _ _ _ _ (ex_loose e4) (hai i x r hx hr)) (fun i x r hx hr => rdv_st _ _ _ _ (ex_loose e4) (hbi i x r hx hr))⟩
/-- Program(s, t, readings) -/
theorem ep_prog {s t : Nat} {rs : List Rdg} (h : EaP taa σ H fun vs A => ∃ rv, vs = [.int (s : Int), .int (t : Int), rv] ∧ RdsT K rs rv A) (s1 : 1 ≤ s) (s4 : s ≤ 4) (t1 : 1 ≤ t) (t8 : t ≤ 8) (hl : rs.length ≤ 24) (hf : ∀ r ∈ rs, Fine s t r) (ha : rs.Pairwise dLt) : EvP (tMake g.P (sp_Program_init K g) [] E0 taa) σ H (ProgAt K g s t rs) :=
  ep_make h fun vs H1 e ⟨rv, hv, hr⟩ x dx hx hd hne Q q => by
    subst hv
    have e0 : Ex H1 (upd (upd H1 dx (.own x)) x (.ins g.P dx [])) := (Ex.new hd).trans (Ex.new (by rw [upd_ne hne.symm]; exact hx))
    refine ⟨x, dx, s, t, rv, rs, rfl, upd_same, s1, s4, t1, t8, hl, rds_st _ _ _ _ (ex_loose e0) hr, hf, ha, fun H2 e2 h2 => ?_⟩
    have eX := ex_make hx hd e2
    exact q H2 eX ⟨x, dx, rv, rfl, h2, rds_st _ _ _ _ (ex_loose eX) hr⟩
theorem qd_if (h : EvD p c te σ H fun v _ => ∃ k, v = .bl k) (k1 : ∀ H1, ExP p c H H1 → Pool p c H1 → tu { D with nx := tz D } σ H1) (k2 : ∀ H1, ExP p c H H1 → Pool p c H1 → tz D σ H1) : tSeq (tIfS (tTest te) tu tNext) tz D σ H :=
  h _ fun v H1 e P ⟨k, hv⟩ => ⟨k, hv, by
    cases k with
    | true => exact k1 H1 e P
    | false => exact k2 H1 e P⟩
theorem ed_great (P : Pool p c H) (h1 : Ev ta σ H (.ref p)) (h2 : ∀ A, Ex H A → EvD p c tb σ A fun v _ => ∃ k, v = .bl k) : EvD p c (tCall (sp__law_great_told K g) [] E0 (tCons ta (tCons (tCB rInt1 (tCons tb tNil)) tNil))) σ H fun v H2 => ∃ (s t : Nat) (rs : List Rdg), 1 ≤ s ∧ s ≤ 4 ∧ 1 ≤ t ∧ t ≤ 8 ∧ rs.length ≤ 24 ∧ rs.Pairwise dLt ∧ (∀ r ∈ rs, Fine s t r) ∧ Told K s t rs v H2 := fun Q q =>
  h1 H (Ex.refl _) _ fun A2 e2 => h2 A2 e2 _ fun v A3 e3 P3 ⟨k, hv⟩ => .inr ⟨k, by rw [hv], p, c, _, rfl, P3, by cases k <;> simp, fun v A4 e4 P4 h => q v A4 (((exP_ex e2).trans e3).trans e4) P4 h⟩
theorem eaP3 {x y : V} {tc : TE} (h1 : Ev ta σ H x) (h2 : Ev tb σ H y) (h3 : EvP tc σ H φ) : EaP (tCons ta (tCons tb (tCons tc tNil))) σ H fun vs A => ∃ z, vs = [x, y, z] ∧ φ z A := fun H1 e Q q =>
  h1 H1 e _ fun H2 e2 => h2 H2 (e.trans e2) _ fun H3 e3 => h3 H3 ((e.trans e2).trans e3) _ fun v H4 e4 hv => q _ H4 ((e2.trans e3).trans e4) ⟨v, rfl, hv⟩
end
theorem len_law {K : PySem.W.Frag} {g : Gs} {vs : List V} {H : Hp} {Q : VK} {E : XK} (h : sp_law K g vs H Q E) : vs.length = 1 := by
  obtain ⟨_, _, rfl, _⟩ := h
  rfl
theorem pure_law {K : PySem.W.Frag} {g : Gs} (C : CF K g) (vs : List V) (H : Hp) (Q : VK) (E : XK) (h : sp_law K g vs H Q E) : t_law K g { nx := fun _ H' => Q .non H', rt := Q } (start ["_law_script", "_law_pool_here", "_law_told", "_law_program", "_law_world", "_law_far", "_law_moved", "_law_both", "_law_k", "_law_reader", "_law_read", "_law_step_here"] vs) H := by
  obtain ⟨a, ns, rfl, ha, hl, q⟩ := h
  refine q_callA (ea_cons (ev_var rfl) ea_nil) fun A0 e0 => ⟨a, ns, rfl, ex_l e0 ha, hl, fun p c A1 _ _ e1 P1 => ?_⟩
  have dz : ∀ {σ : L2.St} {A : Hp} {m : Int}, Pool p c A → σ[1]? = some (some (.ref p)) → 0 < m → m < 2 ^ 64 → EvD p c (tOp rEq (tCall (sp__law_draw K g) [] E0 (tCons (tVar 1) (tCons (tC (.int m)) tNil))) (tC (.int 0))) σ A fun v _ => ∃ k, v = .bl k := fun PA h1 m0 m1 =>
    ed_opL (ed_draw PA (ea_cons (ev_var h1) (ea_cons ev_c ea_nil)) m0 m1) (fun _ _ => ev_c) fun v A ⟨r, hv, _⟩ => ⟨.bl (decide (V.int r = V.int 0)), fun _ _ => ⟨_, rfl⟩, fun B _ Q q => by subst hv; exact ⟨rfl, q⟩⟩
  have great : EvD p c (tCall (sp__law_great_told K g) [] E0 (tCons (tVar 1) (tCons (tCB rInt1 (tCons (tOp rEq (tCall (sp__law_draw K g) [] E0 (tCons (tVar 1) (tCons (tC (.int 24)) tNil))) (tC (.int 0))) tNil)) tNil))) [some (.ref a), some (.ref p), none, none, none, none, none, none, none, none, none, none] A1 fun v H2 => ∃ (s t : Nat) (rs : List Rdg), 1 ≤ s ∧ s ≤ 4 ∧ 1 ≤ t ∧ t ≤ 8 ∧ rs.length ≤ 24 ∧ rs.Pairwise dLt ∧ (∀ r ∈ rs, Fine s t r) ∧ Told K s t rs v H2 := fun Q q =>
    ed_great P1 (ev_var rfl) (fun A e => dz (P1.ex e) rfl (by decide) (by decide)) Q q
  refine qd_asg great fun tv A2 e2 P2 ⟨s, t, rs, s1, s4, t1, t8, hlen, hasc, hfine, hT⟩ => ?_
  obtain ⟨tp, rv, rfl, hT, hrv⟩ := hT
  obtain ⟨ar, xr, rfl, har, hxr, hir⟩ := id hrv
  have t0 : ∀ {σ : L2.St} {A : Hp}, Ex A2 A ∨ Loose A2 A → σ[2]? = some (some (.ref tp)) → Ev (tOp (rIxT K) (tVar 2) (tC (.int 0))) σ A (.int (s : Int)) := fun e h => ep_ixT (ev_var h) ev_c (Loose.t (e.elim ex_loose id) _ _ hT) rfl
  have t1' : ∀ {σ : L2.St} {A : Hp}, Ex A2 A ∨ Loose A2 A → σ[2]? = some (some (.ref tp)) → Ev (tOp (rIxT K) (tVar 2) (tC (.int 1))) σ A (.int (t : Int)) := fun e h => ep_ixT (ev_var h) ev_c (Loose.t (e.elim ex_loose id) _ _ hT) rfl
  have t2 : ∀ {σ : L2.St} {A : Hp}, Ex A2 A ∨ Loose A2 A → σ[2]? = some (some (.ref tp)) → Ev (tOp (rIxT K) (tVar 2) (tC (.int 2))) σ A (.ref ar) := fun e h => ep_ixT (ev_var h) ev_c (Loose.t (e.elim ex_loose id) _ _ hT) rfl
  have rds : ∀ {A : Hp}, Ex A2 A ∨ Loose A2 A → RdsT K rs (.ref ar) A := fun e => rds_st _ _ _ _ (e.elim ex_loose id) hrv
  refine qp_asg (ep_prog (g := g) (eaP3 (t0 (.inl (Ex.refl _)) rfl) (t1' (.inl (Ex.refl _)) rfl) (ep_val (t2 (.inl (Ex.refl _)) rfl) fun H1 e => rds (.inl e))) s1 s4 t1 t8 hlen hfine hasc) fun pv A3 e3 hp => ?_
  have P3 := P2.ex e3
  have wor : EvD p c (tOp (rIxL K) (tLst (tCons (tC (.str "boxes")) (tCons (tC (.str "corner")) tNil))) (tCall (sp__law_draw K g) [] E0 (tCons (tVar 1) (tCons (tC (.int 2)) tNil)))) [some (.ref a), some (.ref p), some (.ref tp), some pv, none, none, none, none, none, none, none, none] A3 (fun v _ => ∃ w : Str, v = .str w ∧ isW w) := fun Q q =>
    (el_lst (ea_cons ev_c (ea_cons ev_c ea_nil)) (by simp)) A3 (Ex.refl A3) _ fun l H1 hl e1 h1 =>
      ed_draw (P3.ex e1) (ea_cons (ev_var rfl) (ea_cons ev_c ea_nil)) (by decide) (by decide) _ fun v H2 e2 P2 ⟨r, hv, r0, r3⟩ => by
        subst hv
        have h2 := exP_new P3 hl e2 h1
        have eH := (exP_ex e1).trans e2
        rcases (by omega : r = 0 ∨ r = 1) with rfl | rfl
        · exact ⟨l, _, 0, .str "boxes", rfl, rfl, sq_of h2, rfl, q _ H2 eH P2 ⟨_, rfl, .inl rfl⟩⟩
        · exact ⟨l, _, 1, .str "corner", rfl, rfl, sq_of h2, rfl, q _ H2 eH P2 ⟨_, rfl, .inr rfl⟩⟩
  refine qd_asg wor fun wv A4 e4 P4 ⟨w, hwv, hw⟩ => ?_
  subst hwv
  have L34 := exP_loose P3 e4
  have L24 : Loose A2 A4 := (ex_loose e3).trans L34
  have hp4 := prog_st _ _ _ L34 hp
  refine qd_if (dz P4 rfl (by decide) (by decide)) (fun A5 e5 P5 => ?_) fun A5 e5 P5 => ?_
  · have L25 : Loose A2 A5 := L24.trans (exP_loose P4 e5)
    have hp5 := prog_st _ _ _ (exP_loose P4 e5) hp4
    have far : EvF (tLc (iRng1 (tCons (tC (.int 12)) tNil)) (gName 8) tYes (tTup (tCons (tOp rDivI (tCB rInt1 (tCons (tVar 8) tNil)) (tC (.int 6))) (tCons (tOp rModI (tCB rInt1 (tCons (tVar 8) tNil)) (tC (.int 6))) (tCons (tOp (rRepTT K) (tTup (tCons (tOp rSubI (tVar 8) (tC (.int 5))) tNil)) (tOp (rIxT K) (tVar 2) (tC (.int 0)))) tNil)))) [8]) [some (.ref a), some (.ref p), some (.ref tp), some pv, some (.str w), none, none, none, none, none, none, none] A5 _ :=
      ef_lcA (n := 12) (ei_rg (ea_cons ev_c ea_nil) (by decide)) (by decide) (fun i => RdV K (farR s i)) (fun i => rdv_st _) fun i x A e hi it => by
        subst it
        refine ⟨_, pt_name, rfl, EvP.imp (ep_tup (eaP3 (ev_op (ev_int1 (ev_var rfl)) ev_c (rv_I (small_div (by decide) (by decide)))) (ev_op (ev_int1 (ev_var rfl)) ev_c (rv_I (by decide : (0 : Int) < 6))) (ep_repX (k := s) (x := (i : Int) - 5) (by omega) (ev_op (ev_var rfl) ev_c rv_I0) fun B eB => t0 (.inr (L25.trans (ex_loose (e.trans eB)))) rfl)) (by rintro vs B ⟨_, rfl, _⟩; simp)) fun v B eB h => ?_⟩
        obtain ⟨r, _, B0, hv, h1, e2, _, rfl, b, rfl, h2⟩ := h
        exact ⟨r, hv, b, st_of h1, ex_t e2 h2⟩
    refine qf_asg far fun fa A6 _ e6 ⟨out, ho, hol, hox⟩ => ?_
    have L26 := L25.trans (ex_loose e6)
    have mov : EvF (tLc (iList K (tVar 5)) (gTup K 3 (gCons (gName 9) (gCons (gName 10) (gCons (gName 11) gNil)))) tYes (tTup (tCons (tOp rAddI (tVar 9) (tOp (rIxT K) (tVar 2) (tC (.int 1)))) (tCons (tOp rAddI (tVar 10) (tOp (rIxT K) (tVar 2) (tC (.int 1)))) (tCons (tVar 11) tNil)))) [9, 10, 11]) [some (.ref a), some (.ref p), some (.ref tp), some pv, some (.str w), some (.ref fa), none, none, none, none, none, none] A6 _ :=
      ef_lcA ((ei_list (ev_var rfl) (sq_of ho)).weak fun _ _ e => ex_ll e) (by omega) (fun i => RdV K (moveR t (farR s i))) (fun i => rdv_st _) fun i x A e hi it => by
        obtain ⟨c1, rfl, d, h1, h2⟩ := rdv_st _ _ _ _ (ex_loose e) (hox i x it)
        exact ⟨_, pt_three h1, rfl, EvP.imp (eu_ep (eu_tup (ea_cons (ev_op (ev_var rfl) (t1' (.inr (L26.trans (ex_loose e))) rfl) rv_I0) (ea_cons (ev_op (ev_var rfl) (t1' (.inr (L26.trans (ex_loose e))) rfl) rv_I0) (ea_cons (ev_var rfl) ea_nil))) (by simp))) fun v B eB ⟨r, hv, h⟩ => ⟨r, hv, d, st_of h, ex_t eB h2⟩⟩
    refine qf_asg mov fun ma A7 _ e7 ⟨out2, ho2, hol2, hox2⟩ => ?_
    have L27 := L26.trans (ex_loose e7)
    have hp7 := prog_st _ _ _ (ex_loose (e6.trans e7)) hp5
    have farT : RdsL K (farRs s) (.ref fa) A7 := ⟨fa, out, rfl, sq_of (e7 _ _ ho), by rw [hol, farRs_len], fun i x r hx hr => by
      have hi : i < 12 := by have := (List.getElem?_eq_some_iff.mp hx).1; omega
      rw [farRs_get hi] at hr
      rw [← Option.some.inj hr]
      exact rdv_st _ _ _ _ (ex_loose e7) (hox i x hx)⟩
    have prog2 : EvP (tMake g.P (sp_Program_init K g) [] E0 (tCons (tOp (rIxT K) (tVar 2) (tC (.int 0))) (tCons (tC (.int 8)) (tCons (tCB (rTupOf K) (tCons (tVar 5) tNil)) tNil)))) [some (.ref a), some (.ref p), some (.ref tp), some pv, some (.str w), some (.ref fa), some (.ref ma), none, none, none, none, none] A7 (ProgAt K g s 8 (farRs s)) :=
      ep_prog (t := 8) (eaP3 (t0 (.inr L27) rfl) ev_c (EvP.imp (eu_ep (eu_tupV (K := K) (ev_var rfl) (e7 _ _ ho))) fun v B eB ⟨r, hv, h⟩ => ⟨r, out, hv, st_of h, by rw [hol, farRs_len], fun i x rr hx hr => by
        have hi : i < 12 := by have := (List.getElem?_eq_some_iff.mp hx).1; omega
        rw [farRs_get hi] at hr
        rw [← Option.some.inj hr]
        exact rdv_st _ _ _ _ (ex_loose (e7.trans eB)) (hox i x hx)⟩)) s1 s4 (by decide) (by decide) (by rw [farRs_len]; decide) farRs_fine (farRs_asc s)
    refine qp_asg (φ := fun v A => ∃ ps, OrdOf (rs ++ (farRs s).map (moveR t)) ps ∧ ProgAt K g s (t + 8) ps v A) (epp_call (sp := sp_beside K g) (eap_v (ev_var rfl) (eap_one prog2)) fun vs A e h Q q E => ?_) fun bv A8 e8 ⟨ps, hps, hbp⟩ => ?_
    · obtain ⟨_, rfl, v2, rfl, h2⟩ := h
      exact ⟨s, t, 8, rs, farRs s, pv, v2, rfl, prog_st _ _ _ (ex_loose e) hp7, h2, hlen, by rw [farRs_len]; decide, q⟩
    have hps := ord_one hps (both_asc hasc hfine)
    subst hps
    have L28 := L27.trans (ex_loose e8)
    have movT : EvP (tCB (rTupOf K) (tCons (tVar 6) tNil)) [some (.ref a), some (.ref p), some (.ref tp), some pv, some (.str w), some (.ref fa), some (.ref ma), some bv, none, none, none, none] A8 (RdsT K ((farRs s).map (moveR t))) :=
      EvP.imp (eu_ep (eu_tupV (K := K) (ev_var rfl) (e8 _ _ ho2))) fun v B eB ⟨r, hv, h⟩ => ⟨r, out2, hv, st_of h, by rw [hol2, hol, List.length_map, farRs_len], fun i x rr hx hr => by
        have hi : i < 12 := by have := (List.getElem?_eq_some_iff.mp hx).1; omega
        rw [List.getElem?_map, farRs_get hi] at hr
        rw [← Option.some.inj hr]
        exact rdv_st _ _ _ _ (ex_loose (e8.trans eB)) (hox2 i x hx)⟩
    have toldT : EvP (tTup (tCons (tOp (rIxT K) (tVar 2) (tC (.int 0))) (tCons (tOp rAddI (tOp (rIxT K) (tVar 2) (tC (.int 1))) (tC (.int 8))) (tCons (tOp (rCatA K) (tOp (rIxT K) (tVar 2) (tC (.int 2))) (tCB (rTupOf K) (tCons (tVar 6) tNil))) tNil)))) [some (.ref a), some (.ref p), some (.ref tp), some pv, some (.str w), some (.ref fa), some (.ref ma), some bv, none, none, none, none] A8 (Told K s (t + 8) (rs ++ (farRs s).map (moveR t))) :=
      EvP.imp (ep_tup (eaP3 (t0 (.inr L28) rfl) (ev_op (t1' (.inr L28) rfl) ev_c rv_I0) (ep_catR (ep_val (t2 (.inr L28) rfl) fun H1 e => rds (.inr (L28.trans (ex_loose e)))) (fun A e => movT.mono e) (by rw [List.length_map, farRs_len]; omega))) (by rintro vs B ⟨_, rfl, _⟩; simp)) fun v B eB h => by
        obtain ⟨r, _, B0, hv, h1, e2, rv, rfl, h2⟩ := h
        exact ⟨r, rv, hv, st_of (by rw [h1, Int.natCast_add] <;> rfl), rds_st _ _ _ _ (ex_loose e2) h2⟩
    have lenT : Ev (tCB (rLn K) (tCons (tOp (rIxT K) (tVar 2) (tC (.int 2))) tNil)) [some (.ref a), some (.ref p), some (.ref tp), some pv, some (.str w), some (.ref fa), some (.ref ma), some bv, none, none, none, none] A8 (.int (rs.length : Int)) := ev_is (ev_lenT (t2 (.inr L28) rfl) (Loose.t L28 _ _ har)) (by rw [hxr])
    refine sp_ret (φ := fun v _ => v = .bl true) (epp_call (sp := sp__law_is_right K g) (eap_cons toldT told_st.up (eap_cons (eu_ep (eu_rg lenT (by omega))) (fun v A B e ⟨p, hv, h⟩ => ⟨p, hv, e _ _ h⟩) (eap_v (ev_var rfl) (eap_v (ev_var rfl) eap_nil)))) fun vs A e h Q q E => ?_) fun v A e h => by rw [h]; exact q A
    obtain ⟨tv, _, rfl, h1, _, _, rfl, ⟨lo, rfl, h2⟩, _, rfl, _, rfl, rfl⟩ := h
    refine ⟨s, t + 8, rs ++ (farRs s).map (moveR t), rs.length, w, bv, ⟨tv, lo, rfl, h1, st_of h2, hw, ⟨s1, s4, by omega, by omega, by rw [List.length_append, List.length_map, farRs_len]; omega, by rw [List.length_append]; omega, fun r hr => ?_⟩⟩, prog_st _ _ _ (ex_loose e) hbp, fun H2 e2 => q _ H2 e2 rfl⟩
    rcases List.mem_append.mp hr with h | h
    · exact more_fine (hfine r h)
    · obtain ⟨r0, h0, rfl⟩ := List.mem_map.mp h
      exact move_fine (farRs_fine r0 h0)
  · have L25 : Loose A2 A5 := L24.trans (exP_loose P4 e5)
    have hp5 := prog_st _ _ _ (exP_loose P4 e5) hp4
    have lenT : Ev (tCB (rLn K) (tCons (tOp (rIxT K) (tVar 2) (tC (.int 2))) tNil)) [some (.ref a), some (.ref p), some (.ref tp), some pv, some (.str w), none, none, none, none, none, none, none] A5 (.int (rs.length : Int)) := ev_is (ev_lenT (t2 (.inr L25) rfl) (Loose.t L25 _ _ har)) (by rw [hxr])
    refine sp_ret (φ := fun v _ => v = .bl true) (epp_call (sp := sp__law_is_right K g) (eap_v (ev_var rfl) (eap_cons (eu_ep (eu_rg lenT (by omega))) (fun v A B e ⟨p, hv, h⟩ => ⟨p, hv, e _ _ h⟩) (eap_v (ev_var rfl) (eap_v (ev_var rfl) eap_nil)))) fun vs A e h Q q E => ?_) fun v A e h => by rw [h]; exact q A
    obtain ⟨_, rfl, _, _, rfl, ⟨lo, rfl, h2⟩, _, rfl, _, rfl, rfl⟩ := h
    have L2A := L25.trans (ex_loose e)
    exact ⟨s, t, rs, rs.length, w, pv, ⟨.ref tp, lo, rfl, ⟨tp, .ref ar, rfl, Loose.t L2A _ _ hT, rds (.inr L2A)⟩, st_of h2, hw, ⟨s1, s4, t1, by omega, by omega, Nat.le_refl _, hfine⟩⟩, prog_st _ _ _ (ex_loose e) hp5, fun H2 e2 => q _ H2 e2 rfl⟩
end TW
namespace TW
open PySem L2 Evl RS RZ TN
/-! ### the text's names -/
structure Tx (mg : Str → Option Value) (g : Gs) : Prop where
  len : mg "len" = none
  isinstance : mg "isinstance" = none
  int : mg "int" = none
  bool : mg "bool" = none
  tuple : mg "tuple" = none
  str : mg "str" = none
  all : mg "all" = none
  abs : mg "abs" = none
  range : mg "range" = none
  enumerate : mg "enumerate" = none
  sum : mg "sum" = none
  sorted : mg "sorted" = none
  set : mg "set" = none
  list : mg "list" = none
  zip : mg "zip" = none
  mSides : ∃ t, mg "MOST_SIDES" = some (.int 4 t)
  mTables : ∃ t, mg "MOST_TABLES" = some (.int 8 t)
  mReadings : ∃ t, mg "MOST_READINGS" = some (.int 24 t)
  mStep : ∃ t, mg "MOST_STEP" = some (.int 1000000000000 t)
  worlds : mg "WORLDS" = some (.ref g.W)
theorem sc_is_integer : FnScope ["thing"] ["thing"] (defScope (top 8)) := ⟨rfl, rfl, rfl, by decide +kernel, rfl, by decide +kernel, by decide +kernel⟩
theorem sc_is_within : FnScope ["thing", "least", "most"] ["thing", "least", "most"] (defScope (top 9)) := ⟨rfl, rfl, rfl, by decide +kernel, rfl, by decide +kernel, by decide +kernel⟩
theorem sc_is_triple : FnScope ["thing"] ["thing"] (defScope (top 10)) := ⟨rfl, rfl, rfl, by decide +kernel, rfl, by decide +kernel, by decide +kernel⟩
theorem sc_are_integers : FnScope ["thing", "many", "item"] ["thing", "many"] (defScope (top 11)) := ⟨rfl, rfl, rfl, by decide +kernel, rfl, by decide +kernel, by decide +kernel⟩
theorem sc_are_within : FnScope ["thing", "many", "least", "most", "item"] ["thing", "many", "least", "most"] (defScope (top 12)) := ⟨rfl, rfl, rfl, by decide +kernel, rfl, by decide +kernel, by decide +kernel⟩
theorem sc_is_lot_below : FnScope ["thing", "many", "last", "item"] ["thing", "many"] (defScope (top 13)) := ⟨rfl, rfl, rfl, by decide +kernel, rfl, by decide +kernel, by decide +kernel⟩
theorem sc_check_world : FnScope ["thing"] ["thing"] (defScope (top 14)) := ⟨rfl, rfl, rfl, by decide +kernel, rfl, by decide +kernel, by decide +kernel⟩
theorem sc_divisor : FnScope ["one", "other"] ["one", "other"] (defScope (top 15)) := ⟨rfl, rfl, rfl, by decide +kernel, rfl, by decide +kernel, by decide +kernel⟩
theorem sc_multiple : FnScope ["one", "other"] ["one", "other"] (defScope (top 16)) := ⟨rfl, rfl, rfl, by decide +kernel, rfl, by decide +kernel, by decide +kernel⟩
theorem sc_fraction : FnScope ["top", "bottom", "part"] ["top", "bottom"] (defScope (top 17)) := ⟨rfl, rfl, rfl, by decide +kernel, rfl, by decide +kernel, by decide +kernel⟩
theorem sc_is_reading : FnScope ["sides", "tables", "thing"] ["sides", "tables", "thing"] (defScope (top 23)) := ⟨rfl, rfl, rfl, by decide +kernel, rfl, by decide +kernel, by decide +kernel⟩
theorem sc_Program_keep : FnScope ["self", "sides", "tables", "readings"] ["self", "sides", "tables", "readings"] (defScope (inClass (top 24) 1)) := ⟨rfl, rfl, rfl, by decide +kernel, rfl, by decide +kernel, by decide +kernel⟩
theorem sc_Program_init : FnScope ["self", "sides", "tables", "readings", "number", "item"] ["self", "sides", "tables", "readings"] (defScope (inClass (top 24) 0)) := ⟨rfl, rfl, rfl, by decide +kernel, rfl, by decide +kernel, by decide +kernel⟩
theorem sc_program_of : FnScope ["sides", "tables", "readings", "found"] ["sides", "tables", "readings"] (defScope (top 25)) := ⟨rfl, rfl, rfl, by decide +kernel, rfl, by decide +kernel, by decide +kernel⟩
theorem sc_check_lot : FnScope ["program", "thing"] ["program", "thing"] (defScope (top 26)) := ⟨rfl, rfl, rfl, by decide +kernel, rfl, by decide +kernel, by decide +kernel⟩
theorem sc_beside : FnScope ["one", "other", "moved", "reader", "read", "step"] ["one", "other"] (defScope (top 27)) := ⟨rfl, rfl, rfl, by decide +kernel, rfl, by decide +kernel, by decide +kernel⟩
theorem sc_Tableau_init : FnScope ["self", "rows", "amounts", "worths", "at", "row", "helpers", "line", "gains", "lacks", "amount", "other", "worth", "place", "item"] ["self", "rows", "amounts", "worths"] (defScope (inClass (top 29) 0)) := ⟨rfl, rfl, rfl, by decide +kernel, rfl, by decide +kernel, by decide +kernel⟩
theorem sc_Tableau_step : FnScope ["self", "at", "place", "line", "pivot", "other", "old", "part", "one", "two"] ["self", "at", "place"] (defScope (inClass (top 29) 1)) := ⟨rfl, rfl, rfl, by decide +kernel, rfl, by decide +kernel, by decide +kernel⟩
theorem sc_Tableau_leaving : FnScope ["self", "place", "best", "at", "line", "other", "one", "two"] ["self", "place"] (defScope (inClass (top 29) 2)) := ⟨rfl, rfl, rfl, by decide +kernel, rfl, by decide +kernel, by decide +kernel⟩
theorem sc_Tableau_entering : FnScope ["self", "number", "line", "place"] ["self", "number"] (defScope (inClass (top 29) 3)) := ⟨rfl, rfl, rfl, by decide +kernel, rfl, by decide +kernel, by decide +kernel⟩
theorem sc_Tableau_run : FnScope ["self", "number", "place", "at"] ["self", "number"] (defScope (inClass (top 29) 4)) := ⟨rfl, rfl, rfl, by decide +kernel, rfl, by decide +kernel, by decide +kernel⟩
theorem sc_Tableau_clear : FnScope ["self", "at", "places", "place", "item"] ["self"] (defScope (inClass (top 29) 5)) := ⟨rfl, rfl, rfl, by decide +kernel, rfl, by decide +kernel, by decide +kernel⟩
theorem sc_Tableau_wanted : FnScope ["self", "found", "at"] ["self"] (defScope (inClass (top 29) 6)) := ⟨rfl, rfl, rfl, by decide +kernel, rfl, by decide +kernel, by decide +kernel⟩
theorem sc_Tableau_other_side : FnScope ["self", "number", "less", "found", "at", "top"] ["self", "number", "less"] (defScope (inClass (top 29) 8)) := ⟨rfl, rfl, rfl, by decide +kernel, rfl, by decide +kernel, by decide +kernel⟩
theorem sc_solved : FnScope ["rows", "amounts", "worths", "table", "place"] ["rows", "amounts", "worths"] (defScope (top 30)) := ⟨rfl, rfl, rfl, by decide +kernel, rfl, by decide +kernel, by decide +kernel⟩
theorem sc_column_of : FnScope ["program", "number", "reader", "read", "step", "found"] ["program", "number"] (defScope (top 32)) := ⟨rfl, rfl, rfl, by decide +kernel, rfl, by decide +kernel, by decide +kernel⟩
theorem sc_far_columns : FnScope ["program", "world", "unit", "side", "place"] ["program", "world"] (defScope (top 33)) := ⟨rfl, rfl, rfl, by decide +kernel, rfl, by decide +kernel, by decide +kernel⟩
theorem sc_task_of : FnScope ["program", "lot", "world", "columns", "far", "many", "rows", "place", "line", "at", "unit", "amounts", "worths", "number", "column", "other"] ["program", "lot", "world"] (defScope (top 34)) := ⟨rfl, rfl, rfl, by decide +kernel, rfl, by decide +kernel, by decide +kernel⟩
theorem sc_common_bottom : FnScope ["shares", "found", "top", "bottom"] ["shares"] (defScope (top 35)) := ⟨rfl, rfl, rfl, by decide +kernel, rfl, by decide +kernel, by decide +kernel⟩
theorem sc_whole : FnScope ["shares", "bottom", "top", "other"] ["shares"] (defScope (top 36)) := ⟨rfl, rfl, rfl, by decide +kernel, rfl, by decide +kernel, by decide +kernel⟩


theorem sc_told_of : FnScope ["program", "lot", "world", "rows", "amounts", "worths", "word", "shares", "sides", "many", "number", "kept_lot", "sums", "one", "other", "told", "amount", "numbers", "share"] ["program", "lot", "world"] (defScope (top 37)) := ⟨rfl, rfl, rfl, by decide +kernel, rfl, by decide +kernel, by decide +kernel⟩
theorem sc_check_asked : FnScope ["program", "lot", "world"] ["program", "lot", "world"] (defScope (top 38)) := ⟨rfl, rfl, rfl, by decide +kernel, rfl, by decide +kernel, by decide +kernel⟩
theorem sc_kept : FnScope ["program", "lot", "world"] ["program", "lot", "world"] (defScope (top 39)) := ⟨rfl, rfl, rfl, by decide +kernel, rfl, by decide +kernel, by decide +kernel⟩
theorem sc_flow : FnScope ["program", "lot", "world"] ["program", "lot", "world"] (defScope (top 40)) := ⟨rfl, rfl, rfl, by decide +kernel, rfl, by decide +kernel, by decide +kernel⟩
theorem sc_row : FnScope ["program", "lot", "world"] ["program", "lot", "world"] (defScope (top 41)) := ⟨rfl, rfl, rfl, by decide +kernel, rfl, by decide +kernel, by decide +kernel⟩
theorem sc__law_pool : FnScope ["_law_script", "_law_seed", "_law_cell"] ["_law_script"] (defScope (top 43)) := ⟨rfl, rfl, rfl, by decide +kernel, rfl, by decide +kernel, by decide +kernel⟩
theorem sc__law_draw : FnScope ["_law_pool_here", "_law_many", "_law_cells", "_law_digit", "_law_mixed_here"] ["_law_pool_here", "_law_many"] (defScope (top 44)) := ⟨rfl, rfl, rfl, by decide +kernel, rfl, by decide +kernel, by decide +kernel⟩
theorem sc__law_is_int : FnScope ["_law_thing"] ["_law_thing"] (defScope (top 46)) := ⟨rfl, rfl, rfl, by decide +kernel, rfl, by decide +kernel, by decide +kernel⟩
theorem sc__law_are_ints : FnScope ["_law_things", "_law_many", "_law_one"] ["_law_things", "_law_many"] (defScope (top 47)) := ⟨rfl, rfl, rfl, by decide +kernel, rfl, by decide +kernel, by decide +kernel⟩
theorem sc__law_is_flow : FnScope ["_law_told", "_law_lot", "_law_world", "_law_thing", "_law_sides", "_law_tables", "_law_readings", "_law_k", "_law_out", "_law_sums", "_law_reader", "_law_read", "_law_step_here", "_law_side", "_law_total", "_law_many"] ["_law_told", "_law_lot", "_law_world", "_law_thing"] (defScope (top 48)) := ⟨rfl, rfl, rfl, by decide +kernel, rfl, by decide +kernel, by decide +kernel⟩
theorem sc__law_is_row : FnScope ["_law_told", "_law_lot", "_law_world", "_law_keep", "_law_thing", "_law_sides", "_law_tables", "_law_readings", "_law_k", "_law_reader", "_law_read", "_law_step_here", "_law_later", "_law_number", "_law_side"] ["_law_told", "_law_lot", "_law_world", "_law_keep", "_law_thing"] (defScope (top 49)) := ⟨rfl, rfl, rfl, by decide +kernel, rfl, by decide +kernel, by decide +kernel⟩
theorem sc__law_is_certain : FnScope ["_law_told", "_law_lot", "_law_world", "_law_keep", "_law_amounts", "_law_later", "_law_k"] ["_law_told", "_law_lot", "_law_world", "_law_keep", "_law_amounts", "_law_later"] (defScope (top 50)) := ⟨rfl, rfl, rfl, by decide +kernel, rfl, by decide +kernel, by decide +kernel⟩
theorem sc__law_step : FnScope ["_law_pool_here", "_law_sides", "_law_most", "_law_k"] ["_law_pool_here", "_law_sides"] (defScope (top 51)) := ⟨rfl, rfl, rfl, by decide +kernel, rfl, by decide +kernel, by decide +kernel⟩
theorem sc__law_walk_of : FnScope ["_law_pool_here", "_law_sides", "_law_tables", "_law_many", "_law_stands", "_law_steps", "_law_k", "_law_side", "_law_step_here"] ["_law_pool_here", "_law_sides", "_law_tables"] (defScope (top 52)) := ⟨rfl, rfl, rfl, by decide +kernel, rfl, by decide +kernel, by decide +kernel⟩
theorem sc__law_great_told : FnScope ["_law_pool_here", "_law_wide", "_law_sides", "_law_tables", "_law_found", "_law_turn"] ["_law_pool_here", "_law_wide"] (defScope (top 53)) := ⟨rfl, rfl, rfl, by decide +kernel, rfl, by decide +kernel, by decide +kernel⟩
theorem sc__law_is_right : FnScope ["_law_told", "_law_lot", "_law_world", "_law_program", "_law_keep"] ["_law_told", "_law_lot", "_law_world", "_law_program"] (defScope (top 54)) := ⟨rfl, rfl, rfl, by decide +kernel, rfl, by decide +kernel, by decide +kernel⟩
theorem sc_law : FnScope ["_law_script", "_law_pool_here", "_law_told", "_law_program", "_law_world", "_law_far", "_law_moved", "_law_both", "_law_k", "_law_reader", "_law_read", "_law_step_here"] ["_law_script"] (defScope (top 55)) := ⟨rfl, rfl, rfl, by decide +kernel, rfl, by decide +kernel, by decide +kernel⟩
end TW
namespace TW
open PySem L2 Evl RS RZ TN
section
variable {K : PySem.W.Frag} {mg : Str → Option Value} {base : Heap} {g : Gs} (CF : CF K g) (T : Tx mg g)
include CF T
theorem ok_is_integer {f : Addr} {fd : FuncData} (F : FnP K "is_integer" "is_integer" (top 8) f fd) : FnOk g.pr g.wd K mg base CX0 1 f fd ["thing"] (sp_is_integer K g) := by
  refine F.ok sc_is_integer (fun vs H Q E h => len_is_integer h) (fun cdv A outer s H vs Q E hr h => ?_)
  have hu := hu_of hr
  exact ⟨t_is_integer K g, PSs.nox (pss_one (ps_ret (pe_and (pe_callB call_isi (by rfl) T.isinstance (by decide +kernel) (pa_cons (pv 0) (pa_cons (pe_bltn (v := .ty "int") (by rfl) T.int (by decide +kernel) rfl) pa_nil))) (pe_one (pe_not (pe_callB call_isi (by rfl) T.isinstance (by decide +kernel) (pa_cons (pv 0) (pa_cons (pe_bltn (v := .ty "bool") (by rfl) T.bool (by decide +kernel) rfl) pa_nil)))))))), pure_is_integer CF vs H Q E h⟩
theorem ok_is_within {f : Addr} {fd : FuncData} (F : FnP K "is_within" "is_within" (top 9) f fd) (c_is_integer : Cal g.pr g.wd K mg base "is_integer" 1 ["thing"] (sp_is_integer K g)) : FnOk g.pr g.wd K mg base CX0 2 f fd ["thing", "least", "most"] (sp_is_within K g) := by
  refine F.ok sc_is_within (fun vs H Q E h => len_is_within h) (fun cdv A outer s H vs Q E hr h => ?_)
  have hu := hu_of hr
  exact ⟨t_is_within K g, PSs.nox (pss_one (ps_ret (pe_and (pe_cal c_is_integer (hr.mono (by decide)) (by rfl) (pa_cons (pv 0) pa_nil)) (pe_one (pe_chain op_le op_le (pv 1) (pv 0) (pv 2)))))), pure_is_within CF vs H Q E h⟩
theorem ok_is_triple {f : Addr} {fd : FuncData} (F : FnP K "is_triple" "is_triple" (top 10) f fd) : FnOk g.pr g.wd K mg base CX0 1 f fd ["thing"] (sp_is_triple K g) := by
  refine F.ok sc_is_triple (fun vs H Q E h => len_is_triple h) (fun cdv A outer s H vs Q E hr h => ?_)
  have hu := hu_of hr
  exact ⟨t_is_triple K g, PSs.nox (pss_one (ps_ret (pe_and (pe_callB call_isi (by rfl) T.isinstance (by decide +kernel) (pa_cons (pv 0) (pa_cons (pe_bltn (v := .ty "tuple") (by rfl) T.tuple (by decide +kernel) rfl) pa_nil))) (pe_one (pe_cmpR op_eq (pe_callB c_len (by rfl) T.len PySem.boot_len (pa_cons (pv 0) pa_nil)) pe_int (nomark _)))))), pure_is_triple CF vs H Q E h⟩
theorem ok_are_integers {f : Addr} {fd : FuncData} (F : FnP K "are_integers" "are_integers" (top 11) f fd) (c_is_integer : Cal g.pr g.wd K mg base "is_integer" 1 ["thing"] (sp_is_integer K g)) : FnOk g.pr g.wd K mg base CX0 2 f fd ["thing", "many"] (sp_are_integers K g) := by
  refine F.ok sc_are_integers (fun vs H Q E h => len_are_integers h) (fun cdv A outer s H vs Q E hr h => ?_)
  have hu := hu_of hr
  exact ⟨t_are_integers K g, PSs.nox (pss_one (ps_ret (pe_and (pe_callB call_isi (by rfl) T.isinstance (by decide +kernel) (pa_cons (pv 0) (pa_cons (pe_bltn (v := .ty "tuple") (by rfl) T.tuple (by decide +kernel) rfl) pa_nil))) (pe_and (pe_cmpR op_eq (pe_callB c_len (by rfl) T.len PySem.boot_len (pa_cons (pv 0) pa_nil)) (pv 1) (nomark _)) (pe_one (pe_callB (cr_all rfl) (by rfl) T.all (by decide +kernel) (pa_cons (pe_lc (own := [("item", 2)]) rfl sc_are_integers.nd (pi_tup (pv 0)) (blkOk_by (by kernel_rfl)) (fun _ _ _ _ _ => (pg_name (i := 2) sc_are_integers.nd rfl (by first | exact Or.inl rfl | exact Or.inr rfl))) (fun _ _ _ _ _ => pts_nil) (fun _ _ _ _ _ => (pe_cal c_is_integer (hr.mono (by decide)) (by rfl) (pa_cons (pv 2) pa_nil)))) pa_nil))))))), pure_are_integers CF vs H Q E h⟩
theorem ok_are_within {f : Addr} {fd : FuncData} (F : FnP K "are_within" "are_within" (top 12) f fd) (c_are_integers : Cal g.pr g.wd K mg base "are_integers" 2 ["thing", "many"] (sp_are_integers K g)) : FnOk g.pr g.wd K mg base CX0 3 f fd ["thing", "many", "least", "most"] (sp_are_within K g) := by
  refine F.ok sc_are_within (fun vs H Q E h => len_are_within h) (fun cdv A outer s H vs Q E hr h => ?_)
  have hu := hu_of hr
  exact ⟨t_are_within K g, PSs.nox (pss_one (ps_ret (pe_and (pe_cal c_are_integers (hr.mono (by decide)) (by rfl) (pa_cons (pv 0) (pa_cons (pv 1) pa_nil))) (pe_one (pe_callB (cr_all rfl) (by rfl) T.all (by decide +kernel) (pa_cons (pe_lc (own := [("item", 4)]) rfl sc_are_within.nd (pi_tup (pv 0)) (blkOk_by (by kernel_rfl)) (fun _ _ _ _ _ => (pg_name (i := 4) sc_are_within.nd rfl (by first | exact Or.inl rfl | exact Or.inr rfl))) (fun _ _ _ _ _ => pts_nil) (fun _ _ _ _ _ => (pe_chain op_le op_le (pv 2) (pv 4) (pv 3)))) pa_nil)))))), pure_are_within CF vs H Q E h⟩
theorem ok_is_lot_below {f : Addr} {fd : FuncData} (F : FnP K "is_lot_below" "is_lot_below" (top 13) f fd) (c_is_within : Cal g.pr g.wd K mg base "is_within" 2 ["thing", "least", "most"] (sp_is_within K g)) : FnOk g.pr g.wd K mg base CX0 3 f fd ["thing", "many"] (sp_is_lot_below K g) := by
  refine F.ok sc_is_lot_below (fun vs H Q E h => len_is_lot_below h) (fun cdv A outer s H vs Q E hr h => ?_)
  have hu := hu_of hr
  exact ⟨t_is_lot_below K g, PSs.nox (pss_cons (ps_if (pt_not (pt_val (pe_callB call_isi (by rfl) T.isinstance (by decide +kernel) (pa_cons (pv 0) (pa_cons (pe_bltn (v := .ty "tuple") (by rfl) T.tuple (by decide +kernel) rfl) pa_nil))))) (pss_one (ps_ret pe_bl)) pss_nil)
      (pss_cons (ps_set (i := 2) sc_is_lot_below.nd rfl (by first | exact Or.inl rfl | exact Or.inr rfl) (pe_un un_neg pe_int))
      (pss_cons (ps_for PassesOwn.never rfl (pi_tup (pv 0)) (pg_name (i := 3) sc_is_lot_below.nd rfl (by first | exact Or.inl rfl | exact Or.inr rfl))
      (pss_cons (ps_if (pt_not (pt_val (pe_cal c_is_within (hr.mono (by decide)) (by rfl) (pa_cons (pv 3) (pa_cons (pe_op op_add (pv 2) pe_int) (pa_cons (pe_op op_sub (pv 1) pe_int) pa_nil)))))) (pss_one (ps_ret pe_bl)) pss_nil)
      (pss_one (ps_set (i := 2) sc_is_lot_below.nd rfl (by first | exact Or.inl rfl | exact Or.inr rfl) (pv 3)))))
      (pss_one (ps_ret pe_bl))))), pure_is_lot_below CF vs H Q E h⟩
theorem ok_check_world {f : Addr} {fd : FuncData} (F : FnP K "check_world" "check_world" (top 14) f fd) : FnOk g.pr g.wd K mg base CX0 1 f fd ["thing"] (sp_check_world K g) := by
  refine F.ok sc_check_world (fun vs H Q E h => len_check_world h) (fun cdv A outer s H vs Q E hr h => ?_)
  have hu := hu_of hr
  exact ⟨t_check_world K g, PSs.nox (pss_one (ps_if (PW.pt (pw_or (pt_not (pt_val (pe_callB call_isi (by rfl) T.isinstance (by decide +kernel) (pa_cons (pv 0) (pa_cons (pe_bltn (v := .ty "str") (by rfl) T.str (by decide +kernel) rfl) pa_nil))))) (pw_or1 (pt_cmpR op_notIn_seq (pv 0) (pe_glob (by rfl) T.worlds rfl) (by rfl))))) (pss_one ps_never) pss_nil)), pure_check_world CF vs H Q E h⟩
theorem ok_divisor {f : Addr} {fd : FuncData} (F : FnP K "divisor" "divisor" (top 15) f fd) : FnOk g.pr g.wd K mg base CX0 1 f fd ["one", "other"] (sp_divisor K g) := by
  refine F.ok sc_divisor (fun vs H Q E h => len_divisor h) (fun cdv A outer s H vs Q E hr h => ?_)
  have hu := hu_of hr
  exact ⟨t_divisor K g, PSs.nox (pss_cons (ps_par (i := 0) (j := 1) rfl sc_divisor.nd rfl rfl (by decide) rfl rfl (pa_cons (pe_callB c_abs (by rfl) T.abs (by decide +kernel) (pa_cons (pv 0) pa_nil)) (pa_cons (pe_callB c_abs (by rfl) T.abs (by decide +kernel) (pa_cons (pv 1) pa_nil)) pa_nil)) (by rfl))
      (pss_cons (ps_while PassesOwn.never (pt_cmpR op_gt (pv 1) pe_int (nomark _))
      (pss_one (ps_par (i := 0) (j := 1) rfl sc_divisor.nd rfl rfl (by decide) rfl rfl (pa_cons (pv 1) (pa_cons (pe_op op_mod (pv 0) (pv 1)) pa_nil)) (by rfl))))
      (pss_one (ps_ret (pv 0))))), pure_divisor CF vs H Q E h⟩
theorem ok_multiple {f : Addr} {fd : FuncData} (F : FnP K "multiple" "multiple" (top 16) f fd) (c_divisor : Cal g.pr g.wd K mg base "divisor" 1 ["one", "other"] (sp_divisor K g)) : FnOk g.pr g.wd K mg base CX0 2 f fd ["one", "other"] (sp_multiple K g) := by
  refine F.ok sc_multiple (fun vs H Q E h => len_multiple h) (fun cdv A outer s H vs Q E hr h => ?_)
  have hu := hu_of hr
  exact ⟨t_multiple K g, PSs.nox (pss_one (ps_ret (pe_op op_mulW (pe_op op_fdivW (pv 0) (pe_cal c_divisor (hr.mono (by decide)) (by rfl) (pa_cons (pv 0) (pa_cons (pv 1) pa_nil)))) (pv 1)))), pure_multiple CF vs H Q E h⟩
theorem ok_fraction {f : Addr} {fd : FuncData} (F : FnP K "fraction" "fraction" (top 17) f fd) (c_divisor : Cal g.pr g.wd K mg base "divisor" 1 ["one", "other"] (sp_divisor K g)) : FnOk g.pr g.wd K mg base CX0 2 f fd ["top", "bottom"] (sp_fraction K g) := by
  refine F.ok sc_fraction (fun vs H Q E h => len_fraction h) (fun cdv A outer s H vs Q E hr h => ?_)
  have hu := hu_of hr
  exact ⟨t_fraction K g, PSs.nox (pss_cons (ps_set (i := 2) sc_fraction.nd rfl (by first | exact Or.inl rfl | exact Or.inr rfl) (pe_cal c_divisor (hr.mono (by decide)) (by rfl) (pa_cons (pv 0) (pa_cons (pv 1) pa_nil))))
      (pss_cons (ps_if (pt_cmpR op_lt (pv 1) pe_int (nomark _)) (pss_one (ps_set (i := 2) sc_fraction.nd rfl (by first | exact Or.inl rfl | exact Or.inr rfl) (pe_un un_neg (pv 2)))) pss_nil)
      (pss_one (ps_ret (pe_tup (pa_cons (pe_op op_fdivW (pv 0) (pv 2)) (pa_cons (pe_op op_fdivW (pv 1) (pv 2)) pa_nil))))))), pure_fraction CF vs H Q E h⟩
theorem ok_is_reading {f : Addr} {fd : FuncData} (F : FnP K "is_reading" "is_reading" (top 23) f fd) (c_is_triple : Cal g.pr g.wd K mg base "is_triple" 1 ["thing"] (sp_is_triple K g)) (c_is_within : Cal g.pr g.wd K mg base "is_within" 2 ["thing", "least", "most"] (sp_is_within K g)) (c_are_within : Cal g.pr g.wd K mg base "are_within" 3 ["thing", "many", "least", "most"] (sp_are_within K g)) : FnOk g.pr g.wd K mg base CX0 4 f fd ["sides", "tables", "thing"] (sp_is_reading K g) := by
  refine F.ok sc_is_reading (fun vs H Q E h => len_is_reading h) (fun cdv A outer s H vs Q E hr h => ?_)
  have hu := hu_of hr
  exact ⟨t_is_reading K g, PSs.nox (pss_cons (ps_if (PW.pt (pw_or (pt_not (pt_val (pe_cal c_is_triple (hr.mono (by decide)) (by rfl) (pa_cons (pv 2) pa_nil)))) (pw_or (pt_not (pt_val (pe_cal c_is_within (hr.mono (by decide)) (by rfl) (pa_cons (pe_ix ix_tup (pv 2) pe_int (fun _ _ => rfl)) (pa_cons pe_int (pa_cons (pe_op op_sub (pv 1) pe_int) pa_nil)))))) (pw_or1 (pt_not (pt_val (pe_cal c_is_within (hr.mono (by decide)) (by rfl) (pa_cons (pe_ix ix_tup (pv 2) pe_int (fun _ _ => rfl)) (pa_cons pe_int (pa_cons (pe_op op_sub (pv 1) pe_int) pa_nil)))))))))) (pss_one (ps_ret pe_bl)) pss_nil)
      (pss_one (ps_ret (pe_cal c_are_within (hr.mono (by decide)) (by rfl) (pa_cons (pe_ix ix_tup (pv 2) pe_int (fun _ _ => rfl)) (pa_cons (pv 0) (pa_cons (pe_un un_neg (pe_glob (by rfl) T.mStep.choose_spec ⟨_, rfl⟩)) (pa_cons (pe_glob (by rfl) T.mStep.choose_spec ⟨_, rfl⟩) pa_nil)))))))), pure_is_reading CF vs H Q E h⟩
theorem ok_Program_keep {f : Addr} {fd : FuncData} (F : FnP K "keep" "Program.keep" (inClass (top 24) 1) f fd) : FnOk g.pr g.wd K mg base CX0 1 f fd ["self", "sides", "tables", "readings"] (sp_Program_keep K g) := by
  refine F.ok sc_Program_keep (fun vs H Q E h => len_Program_keep h) (fun cdv A outer s H vs Q E hr h => ?_)
  have hu := hu_of hr
  exact ⟨t_Program_keep K g, PSs.nox (pss_cons (ps_fld (pv 0) (pv 1) rfl)
      (pss_cons (ps_fld (pv 0) (pv 2) rfl)
      (pss_one (ps_fld (pv 0) (pv 3) rfl)))), pure_Program_keep CF vs H Q E h⟩
theorem ok_Program_init {f : Addr} {fd : FuncData} (F : FnP K "__init__" "Program.__init__" (inClass (top 24) 0) f fd) (c_is_within : Cal g.pr g.wd K mg base "is_within" 2 ["thing", "least", "most"] (sp_is_within K g)) (c_is_reading : Cal g.pr g.wd K mg base "is_reading" 4 ["sides", "tables", "thing"] (sp_is_reading K g)) (c_Program_keep : MCal g.pr g.wd K mg base g.P "keep" 1 ["self", "sides", "tables", "readings"] (sp_Program_keep K g)) : FnOk g.pr g.wd K mg base CX0 5 f fd ["self", "sides", "tables", "readings"] (sp_Program_init K g) := by
  refine F.ok sc_Program_init (fun vs H Q E h => len_Program_init h) (fun cdv A outer s H vs Q E hr h => ?_)
  have hu := hu_of hr
  exact ⟨t_Program_init K g, PSs.nox (pss_cons (ps_if (pt_not (pt_val (pe_cal c_is_within (hr.mono (by decide)) (by rfl) (pa_cons (pv 1) (pa_cons pe_int (pa_cons (pe_glob (by rfl) T.mSides.choose_spec ⟨_, rfl⟩) pa_nil)))))) (pss_one ps_never) pss_nil)
      (pss_cons (ps_if (pt_not (pt_val (pe_cal c_is_within (hr.mono (by decide)) (by rfl) (pa_cons (pv 2) (pa_cons pe_int (pa_cons (pe_glob (by rfl) T.mTables.choose_spec ⟨_, rfl⟩) pa_nil)))))) (pss_one ps_never) pss_nil)
      (pss_cons (ps_if (PW.pt (pw_or (pt_not (pt_val (pe_callB call_isi (by rfl) T.isinstance (by decide +kernel) (pa_cons (pv 3) (pa_cons (pe_bltn (v := .ty "tuple") (by rfl) T.tuple (by decide +kernel) rfl) pa_nil))))) (pw_or1 (pt_cmpR op_gt (pe_callB c_len (by rfl) T.len PySem.boot_len (pa_cons (pv 3) pa_nil)) (pe_glob (by rfl) T.mReadings.choose_spec ⟨_, rfl⟩) (nomark _))))) (pss_one ps_never) pss_nil)
      (pss_cons (ps_for PassesOwn.never rfl (pi_enumT (by rfl) T.enumerate (pa_cons (pv 3) pa_nil)) (pg_tup rfl (pgs_cons (pg_name (i := 4) sc_Program_init.nd rfl (by first | exact Or.inl rfl | exact Or.inr rfl)) (pgs_cons (pg_name (i := 5) sc_Program_init.nd rfl (by first | exact Or.inl rfl | exact Or.inr rfl)) pgs_nil)))
      (pss_one (ps_if (PW.pt (pw_or (pt_not (pt_val (pe_cal c_is_reading (hr.mono (by decide)) (by rfl) (pa_cons (pv 1) (pa_cons (pv 2) (pa_cons (pv 5) pa_nil)))))) (pw_or1 (PW.pt (pw_and (pt_cmpR op_gt (pv 4) pe_int (nomark _)) (pw_and1 (pt_cmpR (o_leD hr.units) (pv 5) (pe_ix ix_tup (pv 3) (pe_op op_sub (pv 4) pe_int) (fun _ _ => rfl)) (nomark _)))))))) (pss_one ps_never) pss_nil)))
      (pss_one (ps_expr (pe_mcal (pv 0) CF.P c_Program_keep (hr.mono (by decide)) (pa_cons (pv 1) (pa_cons (pv 2) (pa_cons (pv 3) pa_nil)))))))))), pure_Program_init CF vs H Q E h⟩
theorem ok_program_of {f : Addr} {fd : FuncData} (F : FnP K "program_of" "program_of" (top 25) f fd) (c_Program_init : KCal g.pr g.wd K mg base g.P "Program" 5 ["self", "sides", "tables", "readings"] (sp_Program_init K g)) (c_Program_keep : MCal g.pr g.wd K mg base g.P "keep" 1 ["self", "sides", "tables", "readings"] (sp_Program_keep K g)) : FnOk g.pr g.wd K mg base CX0 7 f fd ["sides", "tables", "readings"] (sp_program_of K g) := by
  refine F.ok sc_program_of (fun vs H Q E h => len_program_of h) (fun cdv A outer s H vs Q E hr h => ?_)
  have hu := hu_of hr
  exact ⟨t_program_of K g, PSs.nox (pss_cons (ps_set (i := 3) sc_program_of.nd rfl (by first | exact Or.inl rfl | exact Or.inr rfl) (pe_kcal c_Program_init (hr.mono (by decide)) (by rfl) (pa_cons pe_int (pa_cons pe_int (pa_cons (pe_tup pa_nil) pa_nil)))))
      (pss_cons (ps_expr (pe_mcal (pv 3) CF.P c_Program_keep (hr.mono (by decide)) (pa_cons (pv 0) (pa_cons (pv 1) (pa_cons (pe_callTy c_tup (by rfl) T.tuple (by decide +kernel) (pa_cons (pe_callB (c_srtR rfl hr.units) (by rfl) T.sorted (by decide +kernel) (pa_cons (pe_callTy (c_setR rfl hr.units) (by rfl) T.set (by decide +kernel) (pa_cons (pv 2) pa_nil)) pa_nil)) pa_nil)) pa_nil)))))
      (pss_one (ps_ret (pv 3))))), pure_program_of CF vs H Q E h⟩
theorem ok_check_lot {f : Addr} {fd : FuncData} (F : FnP K "check_lot" "check_lot" (top 26) f fd) (c_is_lot_below : Cal g.pr g.wd K mg base "is_lot_below" 3 ["thing", "many"] (sp_is_lot_below K g)) : FnOk g.pr g.wd K mg base CX0 4 f fd ["program", "thing"] (sp_check_lot K g) := by
  refine F.ok sc_check_lot (fun vs H Q E h => len_check_lot h) (fun cdv A outer s H vs Q E hr h => ?_)
  have hu := hu_of hr
  exact ⟨t_check_lot K g, PSs.nox (pss_one (ps_if (pt_not (pt_val (pe_cal c_is_lot_below (hr.mono (by decide)) (by rfl) (pa_cons (pv 1) (pa_cons (pe_callB c_len (by rfl) T.len PySem.boot_len (pa_cons (pe_fld (pv 0) rfl) pa_nil)) pa_nil))))) (pss_one ps_never) pss_nil)), pure_check_lot CF vs H Q E h⟩
theorem ok_beside {f : Addr} {fd : FuncData} (F : FnP K "beside" "beside" (top 27) f fd) (c_program_of : Cal g.pr g.wd K mg base "program_of" 7 ["sides", "tables", "readings"] (sp_program_of K g)) : FnOk g.pr g.wd K mg base CX0 8 f fd ["one", "other"] (sp_beside K g) := by
  refine F.ok sc_beside (fun vs H Q E h => len_beside h) (fun cdv A outer s H vs Q E hr h => ?_)
  have hu := hu_of hr
  exact ⟨t_beside K g, PSs.nox (pss_cons (ps_if (pt_cmpR op_ne (pe_fld (pv 0) rfl) (pe_fld (pv 1) rfl) (nomark _)) (pss_one ps_never) pss_nil)
      (pss_cons (ps_setLc (i := 2) (own := [("reader", 3), ("read", 4), ("step", 5)]) rfl sc_beside.nd rfl rfl (sw_true rfl rfl rfl (by kernel_rfl)) (pi_tup (pe_fld (pv 1) rfl)) (blkOk_by (by kernel_rfl)) (fun _ _ _ _ _ => (pg_tup rfl (pgs_cons (pg_name (i := 3) sc_beside.nd rfl (by first | exact Or.inl rfl | exact Or.inr rfl)) (pgs_cons (pg_name (i := 4) sc_beside.nd rfl (by first | exact Or.inl rfl | exact Or.inr rfl)) (pgs_cons (pg_name (i := 5) sc_beside.nd rfl (by first | exact Or.inl rfl | exact Or.inr rfl)) pgs_nil))))) (fun _ _ _ _ _ => pts_nil) (fun _ _ _ _ _ => (pe_tup (pa_cons (pe_op op_add (pv 3) (pe_fld (pv 0) rfl)) (pa_cons (pe_op op_add (pv 4) (pe_fld (pv 0) rfl)) (pa_cons (pv 5) pa_nil))))))
      (pss_one (ps_ret (pe_cal c_program_of (hr.mono (by decide)) (by rfl) (pa_cons (pe_fld (pv 0) rfl) (pa_cons (pe_op op_add (pe_fld (pv 0) rfl) (pe_fld (pv 1) rfl)) (pa_cons (pe_op op_cat (pe_callTy c_lst (by rfl) T.list (by decide +kernel) (pa_cons (pe_fld (pv 0) rfl) pa_nil)) (pv 2)) pa_nil)))))))), pure_beside CF vs H Q E h⟩
theorem ok_Tableau_init {f : Addr} {fd : FuncData} (F : FnP K "__init__" "Tableau.__init__" (inClass (top 29) 0) f fd) : FnOk g.pr g.wd K mg base CX0 1 f fd ["self", "rows", "amounts", "worths"] (sp_Tableau_init K g) := by
  refine F.ok sc_Tableau_init (fun vs H Q E h => len_Tableau_init h) (fun cdv A outer s H vs Q E hr h => ?_)
  have hu := hu_of hr
  exact ⟨t_Tableau_init K g, PSs.nox (pss_cons (ps_fld (pv 0) (pe_callB c_len (by rfl) T.len PySem.boot_len (pa_cons (pv 3) pa_nil)) rfl)
      (pss_cons (ps_fld (pv 0) (pe_callB c_len (by rfl) T.len PySem.boot_len (pa_cons (pv 1) pa_nil)) rfl)
      (pss_cons (ps_fld (pv 0) (pe_lc (own := [("amount", 10)]) rfl sc_Tableau_init.nd (pi_list (pv 2)) (blkOk_by (by kernel_rfl)) (fun _ _ _ _ _ => (pg_name (i := 10) sc_Tableau_init.nd rfl (by first | exact Or.inl rfl | exact Or.inr rfl))) (fun _ _ _ _ _ => pts_nil) (fun _ _ _ _ _ => (pe_ifExp (pt_cmpR op_lt (pv 10) pe_int (nomark _)) (pe_un un_neg pe_int) pe_int))) rfl)
      (pss_cons (ps_fld (pv 0) (pe_lst pa_nil) rfl)
      (pss_cons (ps_for PassesOwn.never rfl (pi_enum (by rfl) T.enumerate (pa_cons (pv 1) pa_nil)) (pg_tup rfl (pgs_cons (pg_name (i := 4) sc_Tableau_init.nd rfl (by first | exact Or.inl rfl | exact Or.inr rfl)) (pgs_cons (pg_name (i := 5) sc_Tableau_init.nd rfl (by first | exact Or.inl rfl | exact Or.inr rfl)) pgs_nil)))
      (pss_cons (ps_setLc (i := 6) (own := [("other", 11)]) rfl sc_Tableau_init.nd rfl rfl (sw_true rfl rfl rfl (by kernel_rfl)) (pi_range1 (by rfl) T.range (pa_cons (pe_fld (pv 0) rfl) pa_nil)) (blkOk_by (by kernel_rfl)) (fun _ _ _ _ _ => (pg_name (i := 11) sc_Tableau_init.nd rfl (by first | exact Or.inl rfl | exact Or.inr rfl))) (fun _ _ _ _ _ => pts_nil) (fun _ _ _ _ _ => (pe_callTy c_int (by rfl) T.int (by decide +kernel) (pa_cons (pe_cmpR op_eq (pv 4) (pv 11) (nomark _)) pa_nil))))
      (pss_cons (ps_set (i := 7) sc_Tableau_init.nd rfl (by first | exact Or.inl rfl | exact Or.inr rfl) (pe_op op_cat (pe_lc (own := [("item", 14)]) rfl sc_Tableau_init.nd (pi_list (pv 5)) (blkOk_by (by kernel_rfl)) (fun _ _ _ _ _ => (pg_name (i := 14) sc_Tableau_init.nd rfl (by first | exact Or.inl rfl | exact Or.inr rfl))) (fun _ _ _ _ _ => pts_nil) (fun _ _ _ _ _ => (pe_op op_mulW (pe_ix ix_list (pe_fld (pv 0) rfl) (pv 4) (fun _ _ => rfl)) (pv 14)))) (pv 6)))
      (pss_one (ps_expr (pe_bm PySem.F.plainAttrs_list PySem.F.slot_list_append PySem.F.type_list_append mt_append (pe_fld (pv 0) rfl) (pa_cons (pe_op op_cat (pv 7) (pe_lst (pa_cons (pe_op op_mulW (pe_ix ix_list (pe_fld (pv 0) rfl) (pv 4) (fun _ _ => rfl)) (pe_ix ix_list (pv 2) (pv 4) (fun _ _ => rfl))) pa_nil))) pa_nil)))))))
      (pss_cons (ps_fld (pv 0) (pe_lc (own := [("at", 4)]) rfl sc_Tableau_init.nd (pi_range1 (by rfl) T.range (pa_cons (pe_fld (pv 0) rfl) pa_nil)) (blkOk_by (by kernel_rfl)) (fun _ _ _ _ _ => (pg_name (i := 4) sc_Tableau_init.nd rfl (by first | exact Or.inl rfl | exact Or.inr rfl))) (fun _ _ _ _ _ => pts_nil) (fun _ _ _ _ _ => (pe_op op_add (pe_fld (pv 0) rfl) (pv 4)))) rfl)
      (pss_cons (ps_fld (pv 0) pe_int rfl)
      (pss_cons (ps_set (i := 8) sc_Tableau_init.nd rfl (by first | exact Or.inl rfl | exact Or.inr rfl) (pe_op op_cat (pe_lc (own := [("worth", 12)]) rfl sc_Tableau_init.nd (pi_list (pv 3)) (blkOk_by (by kernel_rfl)) (fun _ _ _ _ _ => (pg_name (i := 12) sc_Tableau_init.nd rfl (by first | exact Or.inl rfl | exact Or.inr rfl))) (fun _ _ _ _ _ => pts_nil) (fun _ _ _ _ _ => (pe_un un_neg (pv 12)))) (pe_op op_rep (pe_lst (pa_cons pe_int pa_nil)) (pe_op op_add (pe_fld (pv 0) rfl) pe_int))))
      (pss_cons (ps_set (i := 9) sc_Tableau_init.nd rfl (by first | exact Or.inl rfl | exact Or.inr rfl) (pe_op op_cat (pe_lc (own := [("place", 13)]) rfl sc_Tableau_init.nd (pi_range1 (by rfl) T.range (pa_cons (pe_fld (pv 0) rfl) pa_nil)) (blkOk_by (by kernel_rfl)) (fun _ _ _ _ _ => (pg_name (i := 13) sc_Tableau_init.nd rfl (by first | exact Or.inl rfl | exact Or.inr rfl))) (fun _ _ _ _ _ => pts_nil) (fun _ _ _ _ _ => (pe_un un_neg (pe_callB (cr_sum rfl) (by rfl) T.sum (by decide +kernel) (pa_cons (pe_lc (own := [("line", 7)]) rfl sc_Tableau_init.nd (pi_list (pe_fld (pv 0) rfl)) (blkOk_by (by kernel_rfl)) (fun _ _ _ _ _ => (pg_name (i := 7) sc_Tableau_init.nd rfl (by first | exact Or.inl rfl | exact Or.inr rfl))) (fun _ _ _ _ _ => pts_nil) (fun _ _ _ _ _ => (pe_ix ix_list (pv 7) (pv 13) (fun _ _ => rfl)))) pa_nil))))) (pe_op op_rep (pe_lst (pa_cons pe_int pa_nil)) (pe_fld (pv 0) rfl))))
      (pss_cons (ps_expr (pe_bm PySem.F.plainAttrs_list PySem.F.slot_list_append PySem.F.type_list_append mt_append (pv 9) (pa_cons (pe_un un_neg (pe_callB (cr_sum rfl) (by rfl) T.sum (by decide +kernel) (pa_cons (pe_lc (own := [("line", 7)]) rfl sc_Tableau_init.nd (pi_list (pe_fld (pv 0) rfl)) (blkOk_by (by kernel_rfl)) (fun _ _ _ _ _ => (pg_name (i := 7) sc_Tableau_init.nd rfl (by first | exact Or.inl rfl | exact Or.inr rfl))) (fun _ _ _ _ _ => pts_nil) (fun _ _ _ _ _ => (pe_ix ix_list (pv 7) (pe_un un_neg pe_int) (fun _ _ => rfl)))) pa_nil))) pa_nil)))
      (pss_cons (ps_expr (pe_bm PySem.F.plainAttrs_list PySem.F.slot_list_append PySem.F.type_list_append mt_append (pe_fld (pv 0) rfl) (pa_cons (pv 8) pa_nil)))
      (pss_one (ps_expr (pe_bm PySem.F.plainAttrs_list PySem.F.slot_list_append PySem.F.type_list_append mt_append (pe_fld (pv 0) rfl) (pa_cons (pv 9) pa_nil))))))))))))))), pure_Tableau_init CF vs H Q E h⟩
theorem ok_Tableau_step {f : Addr} {fd : FuncData} (F : FnP K "step" "Tableau.step" (inClass (top 29) 1) f fd) : FnOk g.pr g.wd K mg base CX0 1 f fd ["self", "at", "place"] (sp_Tableau_step K g) := by
  refine F.ok sc_Tableau_step (fun vs H Q E h => len_Tableau_step h) (fun cdv A outer s H vs Q E hr h => ?_)
  have hu := hu_of hr
  exact ⟨t_Tableau_step K g, PSs.nox (pss_cons (ps_set (i := 3) sc_Tableau_step.nd rfl (by first | exact Or.inl rfl | exact Or.inr rfl) (pe_ix ix_list (pe_fld (pv 0) rfl) (pv 1) (fun _ _ => rfl)))
      (pss_cons (ps_set (i := 4) sc_Tableau_step.nd rfl (by first | exact Or.inl rfl | exact Or.inr rfl) (pe_ix ix_list (pv 3) (pv 2) (fun _ _ => rfl)))
      (pss_cons (ps_for PassesOwn.never rfl (pi_range1 (by rfl) T.range (pa_cons (pe_callB c_len (by rfl) T.len PySem.boot_len (pa_cons (pe_fld (pv 0) rfl) pa_nil)) pa_nil)) (pg_name (i := 5) sc_Tableau_step.nd rfl (by first | exact Or.inl rfl | exact Or.inr rfl))
      (pss_one (ps_if (pt_cmpR op_ne (pv 5) (pv 1) (nomark _)) (pss_cons (ps_set (i := 6) sc_Tableau_step.nd rfl (by first | exact Or.inl rfl | exact Or.inr rfl) (pe_ix ix_list (pe_fld (pv 0) rfl) (pv 5) (fun _ _ => rfl)))
      (pss_cons (ps_set (i := 7) sc_Tableau_step.nd rfl (by first | exact Or.inl rfl | exact Or.inr rfl) (pe_ix ix_list (pv 6) (pv 2) (fun _ _ => rfl)))
      (pss_one (ps_asg (pe_lc (own := [("one", 8), ("two", 9)]) rfl sc_Tableau_step.nd (pi_zipA (by rfl) T.zip (pa_cons (pv 6) (pa_cons (pv 3) pa_nil))) (blkOk_by (by kernel_rfl)) (fun _ _ _ _ _ => (pg_tup rfl (pgs_cons (pg_name (i := 8) sc_Tableau_step.nd rfl (by first | exact Or.inl rfl | exact Or.inr rfl)) (pgs_cons (pg_name (i := 9) sc_Tableau_step.nd rfl (by first | exact Or.inl rfl | exact Or.inr rfl)) pgs_nil)))) (fun _ _ _ _ _ => pts_nil) (fun _ _ _ _ _ => (pe_op op_fdivW (pe_op op_sub (pe_op op_mulW (pv 8) (pv 4)) (pe_op op_mulW (pv 7) (pv 9))) (pe_fld (pv 0) rfl)))) (pg_sub (pe_fld (pv 0) rfl) (pv 5) set_list))))) pss_nil)))
      (pss_cons (ps_asg (pv 2) (pg_sub (pe_fld (pv 0) rfl) (pv 1) set_list))
      (pss_one (ps_fld (pv 0) (pv 4) rfl)))))), pure_Tableau_step CF vs H Q E h⟩
theorem ok_Tableau_leaving {f : Addr} {fd : FuncData} (F : FnP K "leaving" "Tableau.leaving" (inClass (top 29) 2) f fd) : FnOk g.pr g.wd K mg base CX0 1 f fd ["self", "place"] (sp_Tableau_leaving K g) := by
  refine F.ok sc_Tableau_leaving (fun vs H Q E h => len_Tableau_leaving h) (fun cdv A outer s H vs Q E hr h => ?_)
  have hu := hu_of hr
  exact ⟨t_Tableau_leaving K g, PSs.nox (pss_cons (ps_set (i := 2) sc_Tableau_leaving.nd rfl (by first | exact Or.inl rfl | exact Or.inr rfl) pe_non)
      (pss_cons (ps_for PassesOwn.never rfl (pi_range1 (by rfl) T.range (pa_cons (pe_fld (pv 0) rfl) pa_nil)) (pg_name (i := 3) sc_Tableau_leaving.nd rfl (by first | exact Or.inl rfl | exact Or.inr rfl))
      (pss_cons (ps_set (i := 4) sc_Tableau_leaving.nd rfl (by first | exact Or.inl rfl | exact Or.inr rfl) (pe_ix ix_list (pe_fld (pv 0) rfl) (pv 3) (fun _ _ => rfl)))
      (pss_one (ps_if (pt_cmpR op_gt (pe_ix ix_list (pv 4) (pv 1) (fun _ _ => rfl)) pe_int (nomark _)) (pss_one (ps_if (pt_cmpR o_isN (pv 2) pe_non (nomark _)) (pss_one (ps_set (i := 2) sc_Tableau_leaving.nd rfl (by first | exact Or.inl rfl | exact Or.inr rfl) (pv 3))) (pss_cons (ps_set (i := 5) sc_Tableau_leaving.nd rfl (by first | exact Or.inl rfl | exact Or.inr rfl) (pe_ix ix_list (pe_fld (pv 0) rfl) (pv 2) (fun _ _ => rfl)))
      (pss_cons (ps_par (i := 6) (j := 7) rfl sc_Tableau_leaving.nd rfl rfl (by decide) rfl rfl (pa_cons (pe_op op_mulW (pe_ix ix_list (pv 4) (pe_un un_neg pe_int) (fun _ _ => rfl)) (pe_ix ix_list (pv 5) (pv 1) (fun _ _ => rfl))) (pa_cons (pe_op op_mulW (pe_ix ix_list (pv 5) (pe_un un_neg pe_int) (fun _ _ => rfl)) (pe_ix ix_list (pv 4) (pv 1) (fun _ _ => rfl))) pa_nil)) (by rfl))
      (pss_one (ps_if (PW.pt (pw_or (pt_cmpR op_lt (pv 6) (pv 7) (nomark _)) (pw_or1 (PW.pt (pw_and (pt_cmpR op_eq (pv 6) (pv 7) (nomark _)) (pw_and1 (pt_cmpR op_lt (pe_ix ix_list (pe_fld (pv 0) rfl) (pv 3) (fun _ _ => rfl)) (pe_ix ix_list (pe_fld (pv 0) rfl) (pv 2) (fun _ _ => rfl)) (nomark _)))))))) (pss_one (ps_set (i := 2) sc_Tableau_leaving.nd rfl (by first | exact Or.inl rfl | exact Or.inr rfl) (pv 3))) pss_nil)))))) pss_nil))))
      (pss_one (ps_ret (pv 2))))), pure_Tableau_leaving CF vs H Q E h⟩
theorem ok_Tableau_entering {f : Addr} {fd : FuncData} (F : FnP K "entering" "Tableau.entering" (inClass (top 29) 3) f fd) : FnOk g.pr g.wd K mg base CX0 1 f fd ["self", "number"] (sp_Tableau_entering K g) := by
  refine F.ok sc_Tableau_entering (fun vs H Q E h => len_Tableau_entering h) (fun cdv A outer s H vs Q E hr h => ?_)
  have hu := hu_of hr
  exact ⟨t_Tableau_entering K g, PSs.nox (pss_cons (ps_set (i := 2) sc_Tableau_entering.nd rfl (by first | exact Or.inl rfl | exact Or.inr rfl) (pe_ix ix_list (pe_fld (pv 0) rfl) (pv 1) (fun _ _ => rfl)))
      (pss_cons (ps_for PassesOwn.never rfl (pi_range1 (by rfl) T.range (pa_cons (pe_fld (pv 0) rfl) pa_nil)) (pg_name (i := 3) sc_Tableau_entering.nd rfl (by first | exact Or.inl rfl | exact Or.inr rfl))
      (pss_one (ps_if (pt_cmpR op_lt (pe_ix ix_list (pv 2) (pv 3) (fun _ _ => rfl)) pe_int (nomark _)) (pss_one (ps_ret (pv 3))) pss_nil)))
      (pss_one (ps_ret pe_non)))), pure_Tableau_entering CF vs H Q E h⟩
theorem ok_Tableau_run {f : Addr} {fd : FuncData} (F : FnP K "run" "Tableau.run" (inClass (top 29) 4) f fd) (c_Tableau_entering : MCal g.pr g.wd K mg base g.T "entering" 1 ["self", "number"] (sp_Tableau_entering K g)) (c_Tableau_leaving : MCal g.pr g.wd K mg base g.T "leaving" 1 ["self", "place"] (sp_Tableau_leaving K g)) (c_Tableau_step : MCal g.pr g.wd K mg base g.T "step" 1 ["self", "at", "place"] (sp_Tableau_step K g)) : FnOk g.pr g.wd K mg base CX0 2 f fd ["self", "number"] (sp_Tableau_run K g) := by
  refine F.ok sc_Tableau_run (fun vs H Q E h => len_Tableau_run h) (fun cdv A outer s H vs Q E hr h => ?_)
  have hu := hu_of hr
  exact ⟨t_Tableau_run K g, PSs.nox (pss_cons (ps_set (i := 2) sc_Tableau_run.nd rfl (by first | exact Or.inl rfl | exact Or.inr rfl) (pe_mcal (pv 0) CF.T c_Tableau_entering (hr.mono (by decide)) (pa_cons (pv 1) pa_nil)))
      (pss_cons (ps_while PassesOwn.never (pt_cmpR o_notN (pv 2) pe_non (nomark _))
      (pss_cons (ps_set (i := 3) sc_Tableau_run.nd rfl (by first | exact Or.inl rfl | exact Or.inr rfl) (pe_mcal (pv 0) CF.T c_Tableau_leaving (hr.mono (by decide)) (pa_cons (pv 2) pa_nil)))
      (pss_cons (ps_if (pt_cmpR o_isN (pv 3) pe_non (nomark _)) (pss_one (ps_ret (pv 2))) pss_nil)
      (pss_cons (ps_expr (pe_mcal (pv 0) CF.T c_Tableau_step (hr.mono (by decide)) (pa_cons (pv 3) (pa_cons (pv 2) pa_nil))))
      (pss_one (ps_set (i := 2) sc_Tableau_run.nd rfl (by first | exact Or.inl rfl | exact Or.inr rfl) (pe_mcal (pv 0) CF.T c_Tableau_entering (hr.mono (by decide)) (pa_cons (pv 1) pa_nil))))))))
      (pss_one (ps_ret pe_non)))), pure_Tableau_run CF vs H Q E h⟩
theorem ok_Tableau_clear {f : Addr} {fd : FuncData} (F : FnP K "clear" "Tableau.clear" (inClass (top 29) 5) f fd) (c_Tableau_step : MCal g.pr g.wd K mg base g.T "step" 1 ["self", "at", "place"] (sp_Tableau_step K g)) : FnOk g.pr g.wd K mg base CX0 2 f fd ["self"] (sp_Tableau_clear K g) := by
  refine F.ok sc_Tableau_clear (fun vs H Q E h => len_Tableau_clear h) (fun cdv A outer s H vs Q E hr h => ?_)
  have hu := hu_of hr
  exact ⟨t_Tableau_clear K g, PSs.nox (pss_one (ps_for PassesOwn.never rfl (pi_range1 (by rfl) T.range (pa_cons (pe_fld (pv 0) rfl) pa_nil)) (pg_name (i := 1) sc_Tableau_clear.nd rfl (by first | exact Or.inl rfl | exact Or.inr rfl))
      (pss_one (ps_if (pt_cmpR op_ge (pe_ix ix_list (pe_fld (pv 0) rfl) (pv 1) (fun _ _ => rfl)) (pe_fld (pv 0) rfl) (nomark _)) (pss_cons (ps_setLc (i := 2) (own := [("place", 3)]) rfl sc_Tableau_clear.nd rfl rfl (sw_true rfl rfl rfl (by kernel_rfl)) (pi_range1 (by rfl) T.range (pa_cons (pe_fld (pv 0) rfl) pa_nil)) (blkOk_by (by kernel_rfl)) (fun _ _ _ _ _ => (pg_name (i := 3) sc_Tableau_clear.nd rfl (by first | exact Or.inl rfl | exact Or.inr rfl))) (fun _ _ _ _ _ => (pts_one (pt_cmpR op_ne (pe_ix ix_list (pe_ix ix_list (pe_fld (pv 0) rfl) (pv 1) (fun _ _ => rfl)) (pv 3) (fun _ _ => rfl)) pe_int (nomark _)))) (fun _ _ _ _ _ => (pv 3)))
      (pss_one (ps_if (pt_cmpR op_gt (pe_callB c_len (by rfl) T.len PySem.boot_len (pa_cons (pv 2) pa_nil)) pe_int (nomark _)) (pss_cons (ps_if (pt_cmpR op_lt (pe_ix ix_list (pe_ix ix_list (pe_fld (pv 0) rfl) (pv 1) (fun _ _ => rfl)) (pe_ix ix_list (pv 2) pe_int (fun _ _ => rfl)) (fun _ _ => rfl)) pe_int (nomark _)) (pss_one (ps_asg (pe_lc (own := [("item", 4)]) rfl sc_Tableau_clear.nd (pi_list (pe_ix ix_list (pe_fld (pv 0) rfl) (pv 1) (fun _ _ => rfl))) (blkOk_by (by kernel_rfl)) (fun _ _ _ _ _ => (pg_name (i := 4) sc_Tableau_clear.nd rfl (by first | exact Or.inl rfl | exact Or.inr rfl))) (fun _ _ _ _ _ => pts_nil) (fun _ _ _ _ _ => (pe_un un_neg (pv 4)))) (pg_sub (pe_fld (pv 0) rfl) (pv 1) set_list))) pss_nil)
      (pss_one (ps_expr (pe_mcal (pv 0) CF.T c_Tableau_step (hr.mono (by decide)) (pa_cons (pv 1) (pa_cons (pe_ix ix_list (pv 2) pe_int (fun _ _ => rfl)) pa_nil)))))) pss_nil))) pss_nil)))), pure_Tableau_clear CF vs H Q E h⟩
theorem ok_Tableau_wanted {f : Addr} {fd : FuncData} (F : FnP K "wanted" "Tableau.wanted" (inClass (top 29) 6) f fd) (c_fraction : Cal g.pr g.wd K mg base "fraction" 2 ["top", "bottom"] (sp_fraction K g)) : FnOk g.pr g.wd K mg base CX0 3 f fd ["self"] (sp_Tableau_wanted K g) := by
  refine F.ok sc_Tableau_wanted (fun vs H Q E h => len_Tableau_wanted h) (fun cdv A outer s H vs Q E hr h => ?_)
  have hu := hu_of hr
  exact ⟨t_Tableau_wanted K g, PSs.nox (pss_cons (ps_set (i := 1) sc_Tableau_wanted.nd rfl (by first | exact Or.inl rfl | exact Or.inr rfl) (pe_op op_rep (pe_lst (pa_cons (pe_tup (pa_cons pe_int (pa_cons pe_int pa_nil))) pa_nil)) (pe_fld (pv 0) rfl)))
      (pss_cons (ps_for PassesOwn.never rfl (pi_range1 (by rfl) T.range (pa_cons (pe_fld (pv 0) rfl) pa_nil)) (pg_name (i := 2) sc_Tableau_wanted.nd rfl (by first | exact Or.inl rfl | exact Or.inr rfl))
      (pss_one (ps_if (pt_cmpR op_lt (pe_ix ix_list (pe_fld (pv 0) rfl) (pv 2) (fun _ _ => rfl)) (pe_fld (pv 0) rfl) (nomark _)) (pss_one (ps_asg (pe_cal c_fraction (hr.mono (by decide)) (by rfl) (pa_cons (pe_ix ix_list (pe_ix ix_list (pe_fld (pv 0) rfl) (pv 2) (fun _ _ => rfl)) (pe_un un_neg pe_int) (fun _ _ => rfl)) (pa_cons (pe_fld (pv 0) rfl) pa_nil))) (pg_sub (pv 1) (pe_ix ix_list (pe_fld (pv 0) rfl) (pv 2) (fun _ _ => rfl)) set_list))) pss_nil)))
      (pss_one (ps_ret (pe_callTy c_tup (by rfl) T.tuple (by decide +kernel) (pa_cons (pv 1) pa_nil)))))), pure_Tableau_wanted CF vs H Q E h⟩
theorem ok_Tableau_other_side {f : Addr} {fd : FuncData} (F : FnP K "other_side" "Tableau.other_side" (inClass (top 29) 8) f fd) (c_fraction : Cal g.pr g.wd K mg base "fraction" 2 ["top", "bottom"] (sp_fraction K g)) : FnOk g.pr g.wd K mg base CX0 3 f fd ["self", "number", "less"] (sp_Tableau_other_side K g) := by
  refine F.ok sc_Tableau_other_side (fun vs H Q E h => len_Tableau_other_side h) (fun cdv A outer s H vs Q E hr h => ?_)
  have hu := hu_of hr
  exact ⟨t_Tableau_other_side K g, PSs.nox (pss_cons (ps_set (i := 3) sc_Tableau_other_side.nd rfl (by first | exact Or.inl rfl | exact Or.inr rfl) (pe_lst pa_nil))
      (pss_cons (ps_for PassesOwn.never rfl (pi_range1 (by rfl) T.range (pa_cons (pe_fld (pv 0) rfl) pa_nil)) (pg_name (i := 4) sc_Tableau_other_side.nd rfl (by first | exact Or.inl rfl | exact Or.inr rfl))
      (pss_cons (ps_set (i := 5) sc_Tableau_other_side.nd rfl (by first | exact Or.inl rfl | exact Or.inr rfl) (pe_op op_sub (pe_ix ix_list (pe_ix ix_list (pe_fld (pv 0) rfl) (pv 1) (fun _ _ => rfl)) (pe_op op_add (pe_fld (pv 0) rfl) (pv 4)) (fun _ _ => rfl)) (pe_op op_mulW (pv 2) (pe_fld (pv 0) rfl))))
      (pss_one (ps_expr (pe_bm PySem.F.plainAttrs_list PySem.F.slot_list_append PySem.F.type_list_append mt_append (pv 3) (pa_cons (pe_cal c_fraction (hr.mono (by decide)) (by rfl) (pa_cons (pe_op op_mulW (pe_ix ix_list (pe_fld (pv 0) rfl) (pv 4) (fun _ _ => rfl)) (pv 5)) (pa_cons (pe_fld (pv 0) rfl) pa_nil))) pa_nil))))))
      (pss_one (ps_ret (pe_callTy c_tup (by rfl) T.tuple (by decide +kernel) (pa_cons (pv 3) pa_nil)))))), pure_Tableau_other_side CF vs H Q E h⟩
theorem ok_solved {f : Addr} {fd : FuncData} (F : FnP K "solved" "solved" (top 30) f fd) (c_Tableau_init : KCal g.pr g.wd K mg base g.T "Tableau" 1 ["self", "rows", "amounts", "worths"] (sp_Tableau_init K g)) (c_Tableau_run : MCal g.pr g.wd K mg base g.T "run" 2 ["self", "number"] (sp_Tableau_run K g)) (c_Tableau_clear : MCal g.pr g.wd K mg base g.T "clear" 2 ["self"] (sp_Tableau_clear K g)) (c_Tableau_wanted : MCal g.pr g.wd K mg base g.T "wanted" 3 ["self"] (sp_Tableau_wanted K g)) (c_Tableau_other_side : MCal g.pr g.wd K mg base g.T "other_side" 3 ["self", "number", "less"] (sp_Tableau_other_side K g)) : FnOk g.pr g.wd K mg base CX0 4 f fd ["rows", "amounts", "worths"] (sp_solved K g) := by
  refine F.ok sc_solved (fun vs H Q E h => len_solved h) (fun cdv A outer s H vs Q E hr h => ?_)
  have hu := hu_of hr
  exact ⟨t_solved K g, PSs.nox (pss_cons (ps_set (i := 3) sc_solved.nd rfl (by first | exact Or.inl rfl | exact Or.inr rfl) (pe_kcal c_Tableau_init (hr.mono (by decide)) (by rfl) (pa_cons (pv 0) (pa_cons (pv 1) (pa_cons (pv 2) pa_nil)))))
      (pss_cons (ps_expr (pe_mcal (pv 3) CF.T c_Tableau_run (hr.mono (by decide)) (pa_cons (pe_op op_add (pe_fld (pv 3) rfl) pe_int) pa_nil)))
      (pss_cons (ps_if (pt_cmpR op_lt (pe_ix ix_list (pe_ix ix_list (pe_fld (pv 3) rfl) (pe_op op_add (pe_fld (pv 3) rfl) pe_int) (fun _ _ => rfl)) (pe_un un_neg pe_int) (fun _ _ => rfl)) pe_int (nomark _)) (pss_one ps_never) pss_nil)
      (pss_cons (ps_expr (pe_mcal0 (pv 3) CF.T c_Tableau_clear (hr.mono (by decide))))
      (pss_cons (ps_set (i := 4) sc_solved.nd rfl (by first | exact Or.inl rfl | exact Or.inr rfl) (pe_mcal (pv 3) CF.T c_Tableau_run (hr.mono (by decide)) (pa_cons (pe_fld (pv 3) rfl) pa_nil)))
      (pss_cons (ps_if (pt_cmpR o_notN (pv 4) pe_non (nomark _)) (pss_one ps_never) pss_nil)
      (pss_one (ps_ret (pe_tup (pa_cons pe_str (pa_cons (pe_mcal0 (pv 3) CF.T c_Tableau_wanted (hr.mono (by decide))) (pa_cons (pe_mcal (pv 3) CF.T c_Tableau_other_side (hr.mono (by decide)) (pa_cons (pe_fld (pv 3) rfl) (pa_cons pe_int pa_nil))) pa_nil)))))))))))), pure_solved CF vs H Q E h⟩
theorem ok_column_of {f : Addr} {fd : FuncData} (F : FnP K "column_of" "column_of" (top 32) f fd) : FnOk g.pr g.wd K mg base CX0 1 f fd ["program", "number"] (sp_column_of K g) := by
  refine F.ok sc_column_of (fun vs H Q E h => len_column_of h) (fun cdv A outer s H vs Q E hr h => ?_)
  have hu := hu_of hr
  exact ⟨t_column_of K g, PSs.nox (pss_cons (ps_asg (pe_ix ix_tup (pe_fld (pv 0) rfl) (pv 1) (fun _ _ => rfl)) (pg_tup rfl (pgs_cons (pg_name (i := 2) sc_column_of.nd rfl (by first | exact Or.inl rfl | exact Or.inr rfl)) (pgs_cons (pg_name (i := 3) sc_column_of.nd rfl (by first | exact Or.inl rfl | exact Or.inr rfl)) (pgs_cons (pg_name (i := 4) sc_column_of.nd rfl (by first | exact Or.inl rfl | exact Or.inr rfl)) pgs_nil)))))
      (pss_cons (ps_set (i := 5) sc_column_of.nd rfl (by first | exact Or.inl rfl | exact Or.inr rfl) (pe_op op_rep (pe_lst (pa_cons pe_int pa_nil)) (pe_fld (pv 0) rfl)))
      (pss_cons (ps_augS (pv 5) (pv 2) get_list pe_int ip_add set_list)
      (pss_cons (ps_augS (pv 5) (pv 3) get_list pe_int ip_sub set_list)
      (pss_one (ps_ret (pe_op op_cat (pv 5) (pe_callTy c_lst (by rfl) T.list (by decide +kernel) (pa_cons (pv 4) pa_nil))))))))), pure_column_of CF vs H Q E h⟩
theorem ok_far_columns {f : Addr} {fd : FuncData} (F : FnP K "far_columns" "far_columns" (top 33) f fd) : FnOk g.pr g.wd K mg base CX0 1 f fd ["program", "world"] (sp_far_columns K g) := by
  refine F.ok sc_far_columns (fun vs H Q E h => len_far_columns h) (fun cdv A outer s H vs Q E hr h => ?_)
  have hu := hu_of hr
  exact ⟨t_far_columns K g, PSs.nox (pss_cons (ps_if (pt_cmpR op_eq (pv 1) pe_str (nomark _)) (pss_one (ps_ret (pe_lst pa_nil))) pss_nil)
      (pss_cons (ps_set (i := 2) sc_far_columns.nd rfl (by first | exact Or.inl rfl | exact Or.inr rfl) (pe_op op_add (pe_fld (pv 0) rfl) (pe_fld (pv 0) rfl)))
      (pss_one (ps_ret (pe_lc (own := [("side", 3)]) rfl sc_far_columns.nd (pi_range1 (by rfl) T.range (pa_cons (pe_fld (pv 0) rfl) pa_nil)) (blkOk_by (by kernel_rfl)) (fun _ _ _ _ _ => (pg_name (i := 3) sc_far_columns.nd rfl (by first | exact Or.inl rfl | exact Or.inr rfl))) (fun _ _ _ _ _ => pts_nil) (fun _ _ _ _ _ => (pe_lc (own := [("place", 4)]) rfl sc_far_columns.nd (pi_range1 (by rfl) T.range (pa_cons (pv 2) pa_nil)) (blkOk_by (by kernel_rfl)) (fun _ _ _ _ _ => (pg_name (i := 4) sc_far_columns.nd rfl (by first | exact Or.inl rfl | exact Or.inr rfl))) (fun _ _ _ _ _ => pts_nil) (fun _ _ _ _ _ => (pe_callTy c_int (by rfl) T.int (by decide +kernel) (pa_cons (pe_cmpR op_eq (pv 4) (pe_op op_add (pe_fld (pv 0) rfl) (pv 3)) (nomark _)) pa_nil)))))))))), pure_far_columns CF vs H Q E h⟩
theorem ok_task_of {f : Addr} {fd : FuncData} (F : FnP K "task_of" "task_of" (top 34) f fd) (c_column_of : Cal g.pr g.wd K mg base "column_of" 1 ["program", "number"] (sp_column_of K g)) (c_far_columns : Cal g.pr g.wd K mg base "far_columns" 1 ["program", "world"] (sp_far_columns K g)) : FnOk g.pr g.wd K mg base CX0 2 f fd ["program", "lot", "world"] (sp_task_of K g) := by
  refine F.ok sc_task_of (fun vs H Q E h => len_task_of h) (fun cdv A outer s H vs Q E hr h => ?_)
  have hu := hu_of hr
  exact ⟨t_task_of K g, PSs.nox (pss_cons (ps_setLc (i := 3) (own := [("number", 13)]) rfl sc_task_of.nd rfl rfl (sw_true rfl rfl rfl (by kernel_rfl)) (pi_tup (pv 1)) (blkOk_by (by kernel_rfl)) (fun _ _ _ _ _ => (pg_name (i := 13) sc_task_of.nd rfl (by first | exact Or.inl rfl | exact Or.inr rfl))) (fun _ _ _ _ _ => pts_nil) (fun _ _ _ _ _ => (pe_cal c_column_of (hr.mono (by decide)) (by rfl) (pa_cons (pv 0) (pa_cons (pv 13) pa_nil)))))
      (pss_cons (ps_set (i := 4) sc_task_of.nd rfl (by first | exact Or.inl rfl | exact Or.inr rfl) (pe_cal c_far_columns (hr.mono (by decide)) (by rfl) (pa_cons (pv 0) (pa_cons (pv 2) pa_nil))))
      (pss_cons (ps_set (i := 5) sc_task_of.nd rfl (by first | exact Or.inl rfl | exact Or.inr rfl) (pe_callB c_len (by rfl) T.len PySem.boot_len (pa_cons (pv 1) pa_nil)))
      (pss_cons (ps_set (i := 6) sc_task_of.nd rfl (by first | exact Or.inl rfl | exact Or.inr rfl) (pe_lst pa_nil))
      (pss_cons (ps_for PassesOwn.never rfl (pi_range1 (by rfl) T.range (pa_cons (pe_op op_add (pe_fld (pv 0) rfl) (pe_fld (pv 0) rfl)) pa_nil)) (pg_name (i := 7) sc_task_of.nd rfl (by first | exact Or.inl rfl | exact Or.inr rfl))
      (pss_cons (ps_setLc (i := 8) (own := [("column", 14)]) rfl sc_task_of.nd rfl rfl (sw_true rfl rfl rfl (by kernel_rfl)) (pi_list (pv 3)) (blkOk_by (by kernel_rfl)) (fun _ _ _ _ _ => (pg_name (i := 14) sc_task_of.nd rfl (by first | exact Or.inl rfl | exact Or.inr rfl))) (fun _ _ _ _ _ => pts_nil) (fun _ _ _ _ _ => (pe_ix ix_list (pv 14) (pv 7) (fun _ _ => rfl))))
      (pss_one (ps_expr (pe_bm PySem.F.plainAttrs_list PySem.F.slot_list_append PySem.F.type_list_append mt_append (pv 6) (pa_cons (pe_op op_cat (pe_op op_cat (pe_op op_cat (pv 8) (pv 8)) (pe_op op_rep (pe_lst (pa_cons pe_int pa_nil)) (pv 5))) (pe_lc (own := [("column", 14)]) rfl sc_task_of.nd (pi_list (pv 4)) (blkOk_by (by kernel_rfl)) (fun _ _ _ _ _ => (pg_name (i := 14) sc_task_of.nd rfl (by first | exact Or.inl rfl | exact Or.inr rfl))) (fun _ _ _ _ _ => pts_nil) (fun _ _ _ _ _ => (pe_ix ix_list (pv 14) (pv 7) (fun _ _ => rfl))))) pa_nil))))))
      (pss_cons (ps_for PassesOwn.never rfl (pi_range1 (by rfl) T.range (pa_cons (pv 5) pa_nil)) (pg_name (i := 9) sc_task_of.nd rfl (by first | exact Or.inl rfl | exact Or.inr rfl))
      (pss_cons (ps_setLc (i := 10) (own := [("other", 15)]) rfl sc_task_of.nd rfl rfl (sw_true rfl rfl rfl (by kernel_rfl)) (pi_range1 (by rfl) T.range (pa_cons (pv 5) pa_nil)) (blkOk_by (by kernel_rfl)) (fun _ _ _ _ _ => (pg_name (i := 15) sc_task_of.nd rfl (by first | exact Or.inl rfl | exact Or.inr rfl))) (fun _ _ _ _ _ => pts_nil) (fun _ _ _ _ _ => (pe_callTy c_int (by rfl) T.int (by decide +kernel) (pa_cons (pe_cmpR op_eq (pv 9) (pv 15) (nomark _)) pa_nil))))
      (pss_one (ps_expr (pe_bm PySem.F.plainAttrs_list PySem.F.slot_list_append PySem.F.type_list_append mt_append (pv 6) (pa_cons (pe_op op_cat (pe_op op_cat (pe_op op_cat (pv 10) (pe_op op_rep (pe_lst (pa_cons pe_int pa_nil)) (pv 5))) (pv 10)) (pe_op op_rep (pe_lst (pa_cons pe_int pa_nil)) (pe_callB c_len (by rfl) T.len PySem.boot_len (pa_cons (pv 4) pa_nil)))) pa_nil))))))
      (pss_cons (ps_set (i := 11) sc_task_of.nd rfl (by first | exact Or.inl rfl | exact Or.inr rfl) (pe_op op_cat (pe_op op_rep (pe_lst (pa_cons pe_int pa_nil)) (pe_op op_add (pe_fld (pv 0) rfl) (pe_fld (pv 0) rfl))) (pe_op op_rep (pe_lst (pa_cons pe_int pa_nil)) (pv 5))))
      (pss_cons (ps_set (i := 12) sc_task_of.nd rfl (by first | exact Or.inl rfl | exact Or.inr rfl) (pe_op op_cat (pe_op op_rep (pe_lst (pa_cons pe_int pa_nil)) (pv 5)) (pe_op op_rep (pe_lst (pa_cons pe_int pa_nil)) (pe_op op_add (pe_op op_mulW pe_int (pv 5)) (pe_callB c_len (by rfl) T.len PySem.boot_len (pa_cons (pv 4) pa_nil))))))
      (pss_one (ps_ret (pe_tup (pa_cons (pv 6) (pa_cons (pv 11) (pa_cons (pv 12) pa_nil)))))))))))))), pure_task_of CF vs H Q E h⟩
theorem ok_common_bottom {f : Addr} {fd : FuncData} (F : FnP K "common_bottom" "common_bottom" (top 35) f fd) (c_multiple : Cal g.pr g.wd K mg base "multiple" 2 ["one", "other"] (sp_multiple K g)) : FnOk g.pr g.wd K mg base CX0 3 f fd ["shares"] (sp_common_bottom K g) := by
  refine F.ok sc_common_bottom (fun vs H Q E h => len_common_bottom h) (fun cdv A outer s H vs Q E hr h => ?_)
  have hu := hu_of hr
  exact ⟨t_common_bottom K g, PSs.nox (pss_cons (ps_set (i := 1) sc_common_bottom.nd rfl (by first | exact Or.inl rfl | exact Or.inr rfl) pe_int)
      (pss_cons (ps_for PassesOwn.never rfl (pi_tup (pv 0)) (pg_tup rfl (pgs_cons (pg_name (i := 2) sc_common_bottom.nd rfl (by first | exact Or.inl rfl | exact Or.inr rfl)) (pgs_cons (pg_name (i := 3) sc_common_bottom.nd rfl (by first | exact Or.inl rfl | exact Or.inr rfl)) pgs_nil)))
      (pss_one (ps_set (i := 1) sc_common_bottom.nd rfl (by first | exact Or.inl rfl | exact Or.inr rfl) (pe_cal c_multiple (hr.mono (by decide)) (by rfl) (pa_cons (pv 1) (pa_cons (pv 3) pa_nil))))))
      (pss_one (ps_ret (pv 1))))), pure_common_bottom CF vs H Q E h⟩
theorem ok_whole {f : Addr} {fd : FuncData} (F : FnP K "whole" "whole" (top 36) f fd) (c_common_bottom : Cal g.pr g.wd K mg base "common_bottom" 3 ["shares"] (sp_common_bottom K g)) : FnOk g.pr g.wd K mg base CX0 4 f fd ["shares"] (sp_whole K g) := by
  refine F.ok sc_whole (fun vs H Q E h => len_whole h) (fun cdv A outer s H vs Q E hr h => ?_)
  have hu := hu_of hr
  exact ⟨t_whole K g, PSs.nox (pss_cons (ps_set (i := 1) sc_whole.nd rfl (by first | exact Or.inl rfl | exact Or.inr rfl) (pe_cal c_common_bottom (hr.mono (by decide)) (by rfl) (pa_cons (pv 0) pa_nil)))
      (pss_one (ps_ret (pe_callTy c_tup (by rfl) T.tuple (by decide +kernel) (pa_cons (pe_lc (own := [("top", 2), ("other", 3)]) rfl sc_whole.nd (pi_tup (pv 0)) (blkOk_by (by kernel_rfl)) (fun _ _ _ _ _ => (pg_tup rfl (pgs_cons (pg_name (i := 2) sc_whole.nd rfl (by first | exact Or.inl rfl | exact Or.inr rfl)) (pgs_cons (pg_name (i := 3) sc_whole.nd rfl (by first | exact Or.inl rfl | exact Or.inr rfl)) pgs_nil)))) (fun _ _ _ _ _ => pts_nil) (fun _ _ _ _ _ => (pe_op op_mulW (pv 2) (pe_op op_fdivW (pv 1) (pv 3))))) pa_nil))))), pure_whole CF vs H Q E h⟩
theorem ok_common_bottom_l {f : Addr} {fd : FuncData} (F : FnP K "common_bottom" "common_bottom" (top 35) f fd) (c_multiple : Cal g.pr g.wd K mg base "multiple" 2 ["one", "other"] (sp_multiple K g)) : FnOk g.pr g.wd K mg base CX0 3 f fd ["shares"] (sp_common_bottom_l K g) := by
  refine F.ok sc_common_bottom (fun vs H Q E h => len_common_bottom_l h) (fun cdv A outer s H vs Q E hr h => ?_)
  have hu := hu_of hr
  exact ⟨t_common_bottom_l K g, PSs.nox (pss_cons (ps_set (i := 1) sc_common_bottom.nd rfl (by first | exact Or.inl rfl | exact Or.inr rfl) pe_int)
      (pss_cons (ps_for PassesOwn.never rfl (pi_list (pv 0)) (pg_tup rfl (pgs_cons (pg_name (i := 2) sc_common_bottom.nd rfl (by first | exact Or.inl rfl | exact Or.inr rfl)) (pgs_cons (pg_name (i := 3) sc_common_bottom.nd rfl (by first | exact Or.inl rfl | exact Or.inr rfl)) pgs_nil)))
      (pss_one (ps_set (i := 1) sc_common_bottom.nd rfl (by first | exact Or.inl rfl | exact Or.inr rfl) (pe_cal c_multiple (hr.mono (by decide)) (by rfl) (pa_cons (pv 1) (pa_cons (pv 3) pa_nil))))))
      (pss_one (ps_ret (pv 1))))), pure_common_bottom_l CF vs H Q E h⟩
theorem ok_whole_l {f : Addr} {fd : FuncData} (F : FnP K "whole" "whole" (top 36) f fd) (c_common_bottom_l : Cal g.pr g.wd K mg base "common_bottom" 3 ["shares"] (sp_common_bottom_l K g)) : FnOk g.pr g.wd K mg base CX0 4 f fd ["shares"] (sp_whole_l K g) := by
  refine F.ok sc_whole (fun vs H Q E h => len_whole_l h) (fun cdv A outer s H vs Q E hr h => ?_)
  have hu := hu_of hr
  exact ⟨t_whole_l K g, PSs.nox (pss_cons (ps_set (i := 1) sc_whole.nd rfl (by first | exact Or.inl rfl | exact Or.inr rfl) (pe_cal c_common_bottom_l (hr.mono (by decide)) (by rfl) (pa_cons (pv 0) pa_nil)))
      (pss_one (ps_ret (pe_callTy c_tup (by rfl) T.tuple (by decide +kernel) (pa_cons (pe_lc (own := [("top", 2), ("other", 3)]) rfl sc_whole.nd (pi_list (pv 0)) (blkOk_by (by kernel_rfl)) (fun _ _ _ _ _ => (pg_tup rfl (pgs_cons (pg_name (i := 2) sc_whole.nd rfl (by first | exact Or.inl rfl | exact Or.inr rfl)) (pgs_cons (pg_name (i := 3) sc_whole.nd rfl (by first | exact Or.inl rfl | exact Or.inr rfl)) pgs_nil)))) (fun _ _ _ _ _ => pts_nil) (fun _ _ _ _ _ => (pe_op op_mulW (pv 2) (pe_op op_fdivW (pv 1) (pv 3))))) pa_nil))))), pure_whole_l CF vs H Q E h⟩
theorem ok_told_of {f : Addr} {fd : FuncData} (F : FnP K "told_of" "told_of" (top 37) f fd) (c_task_of : Cal g.pr g.wd K mg base "task_of" 2 ["program", "lot", "world"] (sp_task_of K g)) (c_solved : Cal g.pr g.wd K mg base "solved" 4 ["rows", "amounts", "worths"] (sp_solved K g)) (c_whole_l : Cal g.pr g.wd K mg base "whole" 4 ["shares"] (sp_whole_l K g)) (c_whole : Cal g.pr g.wd K mg base "whole" 4 ["shares"] (sp_whole K g)) : FnOk g.pr g.wd K mg base CX0 5 f fd ["program", "lot", "world"] (sp_told_of K g) := by
  refine F.ok sc_told_of (fun vs H Q E h => len_told_of h) (fun cdv A outer s H vs Q E hr h => ?_)
  have hu := hu_of hr
  exact ⟨t_told_of K g, PSs.nox (pss_cons (ps_if (pt_cmpR op_eq (pe_callB c_len (by rfl) T.len PySem.boot_len (pa_cons (pv 1) pa_nil)) pe_int (nomark _)) (pss_one (ps_ret (pe_tup (pa_cons (pe_tup pa_nil) (pa_cons (pe_op o_repT (pe_tup (pa_cons pe_int pa_nil)) (pe_callB c_len (by rfl) T.len PySem.boot_len (pa_cons (pe_fld (pv 0) rfl) pa_nil))) (pa_cons (pe_tup (pa_cons (pe_op o_repT (pe_tup (pa_cons pe_int pa_nil)) (pe_fld (pv 0) rfl)) (pa_cons (pe_op o_repT (pe_tup (pa_cons pe_int pa_nil)) (pe_fld (pv 0) rfl)) pa_nil))) pa_nil)))))) pss_nil)
      (pss_cons (ps_asg (pe_cal c_task_of (hr.mono (by decide)) (by rfl) (pa_cons (pv 0) (pa_cons (pv 1) (pa_cons (pv 2) pa_nil)))) (pg_tup rfl (pgs_cons (pg_name (i := 3) sc_told_of.nd rfl (by first | exact Or.inl rfl | exact Or.inr rfl)) (pgs_cons (pg_name (i := 4) sc_told_of.nd rfl (by first | exact Or.inl rfl | exact Or.inr rfl)) (pgs_cons (pg_name (i := 5) sc_told_of.nd rfl (by first | exact Or.inl rfl | exact Or.inr rfl)) pgs_nil)))))
      (pss_cons (ps_asg (pe_cal c_solved (hr.mono (by decide)) (by rfl) (pa_cons (pv 3) (pa_cons (pv 4) (pa_cons (pv 5) pa_nil)))) (pg_tup rfl (pgs_cons (pg_name (i := 6) sc_told_of.nd rfl (by first | exact Or.inl rfl | exact Or.inr rfl)) (pgs_cons (pg_name (i := 7) sc_told_of.nd rfl (by first | exact Or.inl rfl | exact Or.inr rfl)) (pgs_cons (pg_name (i := 8) sc_told_of.nd rfl (by first | exact Or.inl rfl | exact Or.inr rfl)) pgs_nil)))))
      (pss_cons (ps_set (i := 9) sc_told_of.nd rfl (by first | exact Or.inl rfl | exact Or.inr rfl) (pe_callB c_len (by rfl) T.len PySem.boot_len (pa_cons (pv 1) pa_nil)))
      (pss_cons (ps_set (i := 11) sc_told_of.nd rfl (by first | exact Or.inl rfl | exact Or.inr rfl) (pe_callTy c_tup (by rfl) T.tuple (by decide +kernel) (pa_cons (pe_lc (own := [("number", 10), ("share", 18)]) rfl sc_told_of.nd (pi_zipA (by rfl) T.zip (pa_cons (pv 1) (pa_cons (pe_slice sl_tup (pv 7) po_none (po_some (pv 9))) pa_nil))) (blkOk_by (by kernel_rfl)) (fun _ _ _ _ _ => (pg_tup rfl (pgs_cons (pg_name (i := 10) sc_told_of.nd rfl (by first | exact Or.inl rfl | exact Or.inr rfl)) (pgs_cons (pg_name (i := 18) sc_told_of.nd rfl (by first | exact Or.inl rfl | exact Or.inr rfl)) pgs_nil)))) (fun _ _ _ _ _ => (pts_one (pt_cmpR op_gt (pe_ix ix_tup (pv 18) pe_int (fun _ _ => rfl)) pe_int (nomark _)))) (fun _ _ _ _ _ => (pv 10))) pa_nil)))
      (pss_cons (ps_set (i := 12) sc_told_of.nd rfl (by first | exact Or.inl rfl | exact Or.inr rfl) (pe_lst pa_nil))
      (pss_cons (ps_for PassesOwn.never rfl (pi_zipA (by rfl) T.zip (pa_cons (pe_slice sl_tup (pv 7) po_none (po_some (pv 9))) (pa_cons (pe_slice sl_tup (pv 7) (po_some (pv 9)) (po_some (pe_op op_mulW pe_int (pv 9)))) pa_nil))) (pg_tup rfl (pgs_cons (pg_name (i := 13) sc_told_of.nd rfl (by first | exact Or.inl rfl | exact Or.inr rfl)) (pgs_cons (pg_name (i := 14) sc_told_of.nd rfl (by first | exact Or.inl rfl | exact Or.inr rfl)) pgs_nil)))
      (pss_one (ps_expr (pe_bm PySem.F.plainAttrs_list PySem.F.slot_list_append PySem.F.type_list_append mt_append (pv 12) (pa_cons (pe_tup (pa_cons (pe_op op_add (pe_op op_mulW (pe_ix ix_tup (pv 13) pe_int (fun _ _ => rfl)) (pe_ix ix_tup (pv 14) pe_int (fun _ _ => rfl))) (pe_op op_mulW (pe_ix ix_tup (pv 14) pe_int (fun _ _ => rfl)) (pe_ix ix_tup (pv 13) pe_int (fun _ _ => rfl)))) (pa_cons (pe_op op_mulW (pe_ix ix_tup (pv 13) pe_int (fun _ _ => rfl)) (pe_ix ix_tup (pv 14) pe_int (fun _ _ => rfl))) pa_nil))) pa_nil)))))
      (pss_cons (ps_set (i := 15) sc_told_of.nd rfl (by first | exact Or.inl rfl | exact Or.inr rfl) (pe_op op_rep (pe_lst (pa_cons pe_int pa_nil)) (pe_callB c_len (by rfl) T.len PySem.boot_len (pa_cons (pe_fld (pv 0) rfl) pa_nil))))
      (pss_cons (ps_for PassesOwn.never rfl (pi_zipA (by rfl) T.zip (pa_cons (pv 1) (pa_cons (pe_cal c_whole_l (hr.mono (by decide)) (by rfl) (pa_cons (pv 12) pa_nil)) pa_nil))) (pg_tup rfl (pgs_cons (pg_name (i := 10) sc_told_of.nd rfl (by first | exact Or.inl rfl | exact Or.inr rfl)) (pgs_cons (pg_name (i := 16) sc_told_of.nd rfl (by first | exact Or.inl rfl | exact Or.inr rfl)) pgs_nil)))
      (pss_one (ps_asg (pv 16) (pg_sub (pv 15) (pv 10) set_list))))
      (pss_cons (ps_set (i := 17) sc_told_of.nd rfl (by first | exact Or.inl rfl | exact Or.inr rfl) (pe_cal c_whole (hr.mono (by decide)) (by rfl) (pa_cons (pe_slice sl_tup (pv 8) po_none (po_some (pe_op op_add (pe_fld (pv 0) rfl) (pe_fld (pv 0) rfl)))) pa_nil)))
      (pss_one (ps_ret (pe_tup (pa_cons (pv 11) (pa_cons (pe_callTy c_tup (by rfl) T.tuple (by decide +kernel) (pa_cons (pv 15) pa_nil)) (pa_cons (pe_tup (pa_cons (pe_slice sl_tup (pv 17) (po_some (pe_fld (pv 0) rfl)) po_none) (pa_cons (pe_slice sl_tup (pv 17) po_none (po_some (pe_fld (pv 0) rfl))) pa_nil))) pa_nil)))))))))))))))), pure_told_of CF vs H Q E h⟩
theorem ok_check_asked {f : Addr} {fd : FuncData} (F : FnP K "check_asked" "check_asked" (top 38) f fd) (c_check_lot : Cal g.pr g.wd K mg base "check_lot" 4 ["program", "thing"] (sp_check_lot K g)) (c_check_world : Cal g.pr g.wd K mg base "check_world" 1 ["thing"] (sp_check_world K g)) : FnOk g.pr g.wd K mg base CX0 5 f fd ["program", "lot", "world"] (sp_check_asked K g) := by
  refine F.ok sc_check_asked (fun vs H Q E h => len_check_asked h) (fun cdv A outer s H vs Q E hr h => ?_)
  have hu := hu_of hr
  exact ⟨t_check_asked K g, PSs.nox (pss_cons (ps_expr (pe_cal c_check_lot (hr.mono (by decide)) (by rfl) (pa_cons (pv 0) (pa_cons (pv 1) pa_nil))))
      (pss_one (ps_expr (pe_cal c_check_world (hr.mono (by decide)) (by rfl) (pa_cons (pv 2) pa_nil))))), pure_check_asked CF vs H Q E h⟩
theorem ok_kept {f : Addr} {fd : FuncData} (F : FnP K "kept" "kept" (top 39) f fd) (c_check_asked : Cal g.pr g.wd K mg base "check_asked" 5 ["program", "lot", "world"] (sp_check_asked K g)) (c_told_of : Cal g.pr g.wd K mg base "told_of" 5 ["program", "lot", "world"] (sp_told_of K g)) : FnOk g.pr g.wd K mg base CX0 6 f fd ["program", "lot", "world"] (sp_kept K g) := by
  refine F.ok sc_kept (fun vs H Q E h => len_kept h) (fun cdv A outer s H vs Q E hr h => ?_)
  have hu := hu_of hr
  exact ⟨t_kept K g, PSs.nox (pss_cons (ps_expr (pe_cal c_check_asked (hr.mono (by decide)) (by rfl) (pa_cons (pv 0) (pa_cons (pv 1) (pa_cons (pv 2) pa_nil)))))
      (pss_one (ps_ret (pe_ix ix_tup (pe_cal c_told_of (hr.mono (by decide)) (by rfl) (pa_cons (pv 0) (pa_cons (pv 1) (pa_cons (pv 2) pa_nil)))) pe_int (fun _ _ => rfl))))), pure_kept CF vs H Q E h⟩
theorem ok_flow {f : Addr} {fd : FuncData} (F : FnP K "flow" "flow" (top 40) f fd) (c_check_asked : Cal g.pr g.wd K mg base "check_asked" 5 ["program", "lot", "world"] (sp_check_asked K g)) (c_told_of : Cal g.pr g.wd K mg base "told_of" 5 ["program", "lot", "world"] (sp_told_of K g)) : FnOk g.pr g.wd K mg base CX0 6 f fd ["program", "lot", "world"] (sp_flow K g) := by
  refine F.ok sc_flow (fun vs H Q E h => len_flow h) (fun cdv A outer s H vs Q E hr h => ?_)
  have hu := hu_of hr
  exact ⟨t_flow K g, PSs.nox (pss_cons (ps_expr (pe_cal c_check_asked (hr.mono (by decide)) (by rfl) (pa_cons (pv 0) (pa_cons (pv 1) (pa_cons (pv 2) pa_nil)))))
      (pss_one (ps_ret (pe_ix ix_tup (pe_cal c_told_of (hr.mono (by decide)) (by rfl) (pa_cons (pv 0) (pa_cons (pv 1) (pa_cons (pv 2) pa_nil)))) pe_int (fun _ _ => rfl))))), pure_flow CF vs H Q E h⟩
theorem ok_row {f : Addr} {fd : FuncData} (F : FnP K "row" "row" (top 41) f fd) (c_check_asked : Cal g.pr g.wd K mg base "check_asked" 5 ["program", "lot", "world"] (sp_check_asked K g)) (c_told_of : Cal g.pr g.wd K mg base "told_of" 5 ["program", "lot", "world"] (sp_told_of K g)) : FnOk g.pr g.wd K mg base CX0 6 f fd ["program", "lot", "world"] (sp_row K g) := by
  refine F.ok sc_row (fun vs H Q E h => len_row h) (fun cdv A outer s H vs Q E hr h => ?_)
  have hu := hu_of hr
  exact ⟨t_row K g, PSs.nox (pss_cons (ps_expr (pe_cal c_check_asked (hr.mono (by decide)) (by rfl) (pa_cons (pv 0) (pa_cons (pv 1) (pa_cons (pv 2) pa_nil)))))
      (pss_one (ps_ret (pe_ix ix_tup (pe_cal c_told_of (hr.mono (by decide)) (by rfl) (pa_cons (pv 0) (pa_cons (pv 1) (pa_cons (pv 2) pa_nil)))) pe_int (fun _ _ => rfl))))), pure_row CF vs H Q E h⟩
theorem ok__law_pool {f : Addr} {fd : FuncData} (F : FnP K "_law_pool" "_law_pool" (top 43) f fd) : FnOk g.pr g.wd K mg base CX0 1 f fd ["_law_script"] (sp__law_pool K g) := by
  refine F.ok sc__law_pool (fun vs H Q E h => len__law_pool h) (fun cdv A outer s H vs Q E hr h => ?_)
  have hu := hu_of hr
  exact ⟨t__law_pool K g, PSs.nox (pss_cons (ps_set (i := 1) sc__law_pool.nd rfl (by first | exact Or.inl rfl | exact Or.inr rfl) (pe_op op_add (pe_op op_add (pe_op op_mod (pe_callTy c_int (by rfl) T.int (by decide +kernel) (pa_cons (pe_callB (cr_sum rfl) (by rfl) T.sum (by decide +kernel) (pa_cons (pe_slice sl_list (pv 0) po_none (po_some pe_int)) pa_nil)) pa_nil)) pe_int) (pe_callB c_len (by rfl) T.len PySem.boot_len (pa_cons (pv 0) pa_nil))) pe_int))
      (pss_cons (ps_for PassesOwn.never rfl (pi_list (pe_slice sl_list (pv 0) po_none (po_some pe_int))) (pg_name (i := 2) sc__law_pool.nd rfl (by first | exact Or.inl rfl | exact Or.inr rfl))
      (pss_one (ps_set (i := 1) sc__law_pool.nd rfl (by first | exact Or.inl rfl | exact Or.inr rfl) (pe_op op_mod (pe_callTy c_int (by rfl) T.int (by decide +kernel) (pa_cons (pe_op op_add (pe_op op_add (pe_op op_mul (pv 1) pe_int) (pe_op op_mod (pe_callTy c_int (by rfl) T.int (by decide +kernel) (pa_cons (pv 2) pa_nil)) pe_int)) pe_int) pa_nil)) pe_int))))
      (pss_one (ps_ret (pe_lst (pa_cons (pv 1) (pa_cons pe_int (pa_cons (pe_lc (own := [("_law_cell", 2)]) rfl sc__law_pool.nd (pi_list (pe_slice sl_list (pv 0) po_none (po_some pe_int))) (blkOk_by (by kernel_rfl)) (fun _ _ _ _ _ => (pg_name (i := 2) sc__law_pool.nd rfl (by first | exact Or.inl rfl | exact Or.inr rfl))) (fun _ _ _ _ _ => (pts_one (pt_cmpR op_ge (pe_callB c_abs (by rfl) T.abs (by decide +kernel) (pa_cons (pv 2) pa_nil)) (pe_op op_pow pe_int pe_int) (nomark _)))) (fun _ _ _ _ _ => (pe_callB c_abs (by rfl) T.abs (by decide +kernel) (pa_cons (pv 2) pa_nil)))) pa_nil)))))))), pure__law_pool CF vs H Q E h⟩
theorem ok__law_draw {f : Addr} {fd : FuncData} (F : FnP K "_law_draw" "_law_draw" (top 44) f fd) : FnOk g.pr g.wd K mg base CX0 1 f fd ["_law_pool_here", "_law_many"] (sp__law_draw K g) := by
  refine F.ok sc__law_draw (fun vs H Q E h => len__law_draw h) (fun cdv A outer s H vs Q E hr h => ?_)
  have hu := hu_of hr
  exact ⟨t__law_draw K g, PSs.nox (pss_cons (ps_asg (pe_op op_add (pe_ix ix_list (pv 0) pe_int (fun _ _ => rfl)) pe_int) (pg_sub (pv 0) pe_int set_list))
      (pss_cons (ps_set (i := 2) sc__law_draw.nd rfl (by first | exact Or.inl rfl | exact Or.inr rfl) (pe_ix ix_list (pv 0) pe_int (fun _ _ => rfl)))
      (pss_cons (ps_if (pt_cmpR op_gt (pe_callB c_len (by rfl) T.len PySem.boot_len (pa_cons (pv 2) pa_nil)) pe_int (nomark _)) (pss_cons (ps_set (i := 3) sc__law_draw.nd rfl (by first | exact Or.inl rfl | exact Or.inr rfl) (pe_op op_mod (pe_callTy c_int (by rfl) T.int (by decide +kernel) (pa_cons (pe_ix ix_list (pv 2) pe_int (fun _ _ => rfl)) pa_nil)) (pv 1)))
      (pss_cons (ps_asg (pe_op op_fdivW (pe_callTy c_int (by rfl) T.int (by decide +kernel) (pa_cons (pe_ix ix_list (pv 2) pe_int (fun _ _ => rfl)) pa_nil)) (pv 1)) (pg_sub (pv 2) pe_int set_list))
      (pss_cons (ps_if (pt_cmpR op_eq (pe_ix ix_list (pv 2) pe_int (fun _ _ => rfl)) pe_int (nomark _)) (pss_one (ps_expr (pe_bm PySem.F.plainAttrs_list PySem.F.slot_list_pop PySem.F.type_list_pop mt_popAt (pv 2) (pa_cons pe_int pa_nil)))) pss_nil)
      (pss_one (ps_ret (pv 3)))))) pss_nil)
      (pss_cons (ps_set (i := 4) sc__law_draw.nd rfl (by first | exact Or.inl rfl | exact Or.inr rfl) (pe_op op_mod (pe_callTy c_int (by rfl) T.int (by decide +kernel) (pa_cons (pe_op op_mul (pe_op op_add (pe_ix ix_list (pv 0) pe_int (fun _ _ => rfl)) (pe_op op_mul pe_int (pe_ix ix_list (pv 0) pe_int (fun _ _ => rfl)))) pe_int) pa_nil)) pe_int))
      (pss_cons (ps_set (i := 4) sc__law_draw.nd rfl (by first | exact Or.inl rfl | exact Or.inr rfl) (pe_op op_mod (pe_callTy c_int (by rfl) T.int (by decide +kernel) (pa_cons (pe_op op_mul (pv 4) (pe_op op_add (pe_op op_fdivW (pv 4) pe_int) pe_int)) pa_nil)) pe_int))
      (pss_cons (ps_set (i := 4) sc__law_draw.nd rfl (by first | exact Or.inl rfl | exact Or.inr rfl) (pe_op op_mod (pe_callTy c_int (by rfl) T.int (by decide +kernel) (pa_cons (pe_op op_mul (pv 4) (pe_op op_add (pe_op op_fdivW (pv 4) pe_int) pe_int)) pa_nil)) pe_int))
      (pss_one (ps_ret (pe_op op_mod (pe_callTy c_int (by rfl) T.int (by decide +kernel) (pa_cons (pe_op op_fdivW (pv 4) pe_int) pa_nil)) (pv 1)))))))))), pure__law_draw CF vs H Q E h⟩
theorem ok__law_is_int {f : Addr} {fd : FuncData} (F : FnP K "_law_is_int" "_law_is_int" (top 46) f fd) : FnOk g.pr g.wd K mg base CX0 1 f fd ["_law_thing"] (sp__law_is_int K g) := by
  refine F.ok sc__law_is_int (fun vs H Q E h => len__law_is_int h) (fun cdv A outer s H vs Q E hr h => ?_)
  have hu := hu_of hr
  exact ⟨t__law_is_int K g, PSs.nox (pss_one (ps_ret (pe_and (pe_callB call_isi (by rfl) T.isinstance (by decide +kernel) (pa_cons (pv 0) (pa_cons (pe_bltn (v := .ty "int") (by rfl) T.int (by decide +kernel) rfl) pa_nil))) (pe_one (pe_not (pe_callB call_isi (by rfl) T.isinstance (by decide +kernel) (pa_cons (pv 0) (pa_cons (pe_bltn (v := .ty "bool") (by rfl) T.bool (by decide +kernel) rfl) pa_nil)))))))), pure__law_is_int CF vs H Q E h⟩
theorem ok__law_are_ints {f : Addr} {fd : FuncData} (F : FnP K "_law_are_ints" "_law_are_ints" (top 47) f fd) (c__law_is_int : Cal g.pr g.wd K mg base "_law_is_int" 1 ["_law_thing"] (sp__law_is_int K g)) : FnOk g.pr g.wd K mg base CX0 2 f fd ["_law_things", "_law_many"] (sp__law_are_ints K g) := by
  refine F.ok sc__law_are_ints (fun vs H Q E h => len__law_are_ints h) (fun cdv A outer s H vs Q E hr h => ?_)
  have hu := hu_of hr
  exact ⟨t__law_are_ints K g, PSs.nox (pss_one (ps_ret (pe_and (pe_callB call_isi (by rfl) T.isinstance (by decide +kernel) (pa_cons (pv 0) (pa_cons (pe_bltn (v := .ty "tuple") (by rfl) T.tuple (by decide +kernel) rfl) pa_nil))) (pe_and (pe_cmpR op_eq (pe_callB c_len (by rfl) T.len PySem.boot_len (pa_cons (pv 0) pa_nil)) (pv 1) (nomark _)) (pe_one (pe_callB (cr_all rfl) (by rfl) T.all (by decide +kernel) (pa_cons (pe_lc (own := [("_law_one", 2)]) rfl sc__law_are_ints.nd (pi_tup (pv 0)) (blkOk_by (by kernel_rfl)) (fun _ _ _ _ _ => (pg_name (i := 2) sc__law_are_ints.nd rfl (by first | exact Or.inl rfl | exact Or.inr rfl))) (fun _ _ _ _ _ => pts_nil) (fun _ _ _ _ _ => (pe_cal c__law_is_int (hr.mono (by decide)) (by rfl) (pa_cons (pv 2) pa_nil)))) pa_nil))))))), pure__law_are_ints CF vs H Q E h⟩
theorem ok__law_is_flow {f : Addr} {fd : FuncData} (F : FnP K "_law_is_flow" "_law_is_flow" (top 48) f fd) (c__law_are_ints : Cal g.pr g.wd K mg base "_law_are_ints" 2 ["_law_things", "_law_many"] (sp__law_are_ints K g)) : FnOk g.pr g.wd K mg base CX0 3 f fd ["_law_told", "_law_lot", "_law_world", "_law_thing"] (sp__law_is_flow K g) := by
  refine F.ok sc__law_is_flow (fun vs H Q E h => len__law_is_flow h) (fun cdv A outer s H vs Q E hr h => ?_)
  have hu := hu_of hr
  exact ⟨t__law_is_flow K g, PSs.nox (pss_cons (ps_asg (pv 0) (pg_tup rfl (pgs_cons (pg_name (i := 4) sc__law_is_flow.nd rfl (by first | exact Or.inl rfl | exact Or.inr rfl)) (pgs_cons (pg_name (i := 5) sc__law_is_flow.nd rfl (by first | exact Or.inl rfl | exact Or.inr rfl)) (pgs_cons (pg_name (i := 6) sc__law_is_flow.nd rfl (by first | exact Or.inl rfl | exact Or.inr rfl)) pgs_nil)))))
      (pss_cons (ps_if (PW.pt (pw_or (pt_not (pt_val (pe_cal c__law_are_ints (hr.mono (by decide)) (by rfl) (pa_cons (pv 3) (pa_cons (pe_callB c_len (by rfl) T.len PySem.boot_len (pa_cons (pv 6) pa_nil)) pa_nil))))) (pw_or1 (pt_not (pt_val (pe_callB (cr_all rfl) (by rfl) T.all (by decide +kernel) (pa_cons (pe_lc (own := [("_law_many", 15)]) rfl sc__law_is_flow.nd (pi_tup (pv 3)) (blkOk_by (by kernel_rfl)) (fun _ _ _ _ _ => (pg_name (i := 15) sc__law_is_flow.nd rfl (by first | exact Or.inl rfl | exact Or.inr rfl))) (fun _ _ _ _ _ => pts_nil) (fun _ _ _ _ _ => (pe_cmpR op_ge (pv 15) pe_int (nomark _)))) pa_nil))))))) (pss_one (ps_ret pe_bl)) pss_nil)
      (pss_cons (ps_if (pt_not (pt_val (pe_callB (cr_all rfl) (by rfl) T.all (by decide +kernel) (pa_cons (pe_lc (own := [("_law_k", 7)]) rfl sc__law_is_flow.nd (pi_range1 (by rfl) T.range (pa_cons (pe_callB c_len (by rfl) T.len PySem.boot_len (pa_cons (pv 3) pa_nil)) pa_nil)) (blkOk_by (by kernel_rfl)) (fun _ _ _ _ _ => (pg_name (i := 7) sc__law_is_flow.nd rfl (by first | exact Or.inl rfl | exact Or.inr rfl))) (fun _ _ _ _ _ => pts_nil) (fun _ _ _ _ _ => (pe_or (pe_cmpR op_in_seq (pv 7) (pv 1) (by rfl)) (pe_one (pe_cmpR op_eq (pe_ix ix_tup (pv 3) (pv 7) (fun _ _ => rfl)) pe_int (nomark _)))))) pa_nil)))) (pss_one (ps_ret pe_bl)) pss_nil)
      (pss_cons (ps_set (i := 8) sc__law_is_flow.nd rfl (by first | exact Or.inl rfl | exact Or.inr rfl) (pe_op op_rep (pe_lst (pa_cons pe_int pa_nil)) (pv 5)))
      (pss_cons (ps_set (i := 9) sc__law_is_flow.nd rfl (by first | exact Or.inl rfl | exact Or.inr rfl) (pe_op op_rep (pe_lst (pa_cons pe_int pa_nil)) (pv 4)))
      (pss_cons (ps_for PassesOwn.never rfl (pi_range1 (by rfl) T.range (pa_cons (pe_callB c_len (by rfl) T.len PySem.boot_len (pa_cons (pv 3) pa_nil)) pa_nil)) (pg_name (i := 7) sc__law_is_flow.nd rfl (by first | exact Or.inl rfl | exact Or.inr rfl))
      (pss_cons (ps_asg (pe_ix ix_tup (pv 6) (pv 7) (fun _ _ => rfl)) (pg_tup rfl (pgs_cons (pg_name (i := 10) sc__law_is_flow.nd rfl (by first | exact Or.inl rfl | exact Or.inr rfl)) (pgs_cons (pg_name (i := 11) sc__law_is_flow.nd rfl (by first | exact Or.inl rfl | exact Or.inr rfl)) (pgs_cons (pg_name (i := 12) sc__law_is_flow.nd rfl (by first | exact Or.inl rfl | exact Or.inr rfl)) pgs_nil)))))
      (pss_cons (ps_asg (pe_op op_add (pe_ix ix_list (pv 8) (pv 10) (fun _ _ => rfl)) (pe_ix ix_tup (pv 3) (pv 7) (fun _ _ => rfl))) (pg_sub (pv 8) (pv 10) set_list))
      (pss_cons (ps_asg (pe_op op_sub (pe_ix ix_list (pv 8) (pv 11) (fun _ _ => rfl)) (pe_ix ix_tup (pv 3) (pv 7) (fun _ _ => rfl))) (pg_sub (pv 8) (pv 11) set_list))
      (pss_one (ps_for PassesOwn.never rfl (pi_range1 (by rfl) T.range (pa_cons (pv 4) pa_nil)) (pg_name (i := 13) sc__law_is_flow.nd rfl (by first | exact Or.inl rfl | exact Or.inr rfl))
      (pss_one (ps_asg (pe_op op_add (pe_ix ix_list (pv 9) (pv 13) (fun _ _ => rfl)) (pe_op op_mul (pe_ix ix_tup (pv 3) (pv 7) (fun _ _ => rfl)) (pe_ix ix_tup (pv 12) (pv 13) (fun _ _ => rfl)))) (pg_sub (pv 9) (pv 13) set_list)))))))))
      (pss_cons (ps_if (pt_not (pt_val (pe_callB (cr_all rfl) (by rfl) T.all (by decide +kernel) (pa_cons (pe_lc (own := [("_law_many", 15)]) rfl sc__law_is_flow.nd (pi_list (pv 8)) (blkOk_by (by kernel_rfl)) (fun _ _ _ _ _ => (pg_name (i := 15) sc__law_is_flow.nd rfl (by first | exact Or.inl rfl | exact Or.inr rfl))) (fun _ _ _ _ _ => pts_nil) (fun _ _ _ _ _ => (pe_cmpR op_eq (pv 15) pe_int (nomark _)))) pa_nil)))) (pss_one (ps_ret pe_bl)) pss_nil)
      (pss_one (ps_ret (pe_callB (cr_all rfl) (by rfl) T.all (by decide +kernel) (pa_cons (pe_lc (own := [("_law_total", 14)]) rfl sc__law_is_flow.nd (pi_list (pv 9)) (blkOk_by (by kernel_rfl)) (fun _ _ _ _ _ => (pg_name (i := 14) sc__law_is_flow.nd rfl (by first | exact Or.inl rfl | exact Or.inr rfl))) (fun _ _ _ _ _ => pts_nil) (fun _ _ _ _ _ => (pe_or (pe_cmpR op_eq (pv 14) pe_int (nomark _)) (pe_one (pe_and (pe_cmpR op_lt (pv 14) pe_int (nomark _)) (pe_one (pe_cmpR op_eq (pv 2) pe_str (nomark _)))))))) pa_nil))))))))))), pure__law_is_flow CF vs H Q E h⟩
theorem ok__law_is_row {f : Addr} {fd : FuncData} (F : FnP K "_law_is_row" "_law_is_row" (top 49) f fd) (c__law_are_ints : Cal g.pr g.wd K mg base "_law_are_ints" 2 ["_law_things", "_law_many"] (sp__law_are_ints K g)) : FnOk g.pr g.wd K mg base CX0 3 f fd ["_law_told", "_law_lot", "_law_world", "_law_keep", "_law_thing"] (sp__law_is_row K g) := by
  refine F.ok sc__law_is_row (fun vs H Q E h => len__law_is_row h) (fun cdv A outer s H vs Q E hr h => ?_)
  have hu := hu_of hr
  exact ⟨t__law_is_row K g, PSs.nox (pss_cons (ps_asg (pv 0) (pg_tup rfl (pgs_cons (pg_name (i := 5) sc__law_is_row.nd rfl (by first | exact Or.inl rfl | exact Or.inr rfl)) (pgs_cons (pg_name (i := 6) sc__law_is_row.nd rfl (by first | exact Or.inl rfl | exact Or.inr rfl)) (pgs_cons (pg_name (i := 7) sc__law_is_row.nd rfl (by first | exact Or.inl rfl | exact Or.inr rfl)) pgs_nil)))))
      (pss_cons (ps_if (PW.pt (pw_or (pt_not (pt_val (pe_callB call_isi (by rfl) T.isinstance (by decide +kernel) (pa_cons (pv 4) (pa_cons (pe_bltn (v := .ty "tuple") (by rfl) T.tuple (by decide +kernel) rfl) pa_nil))))) (pw_or1 (pt_cmpR op_ne (pe_callB c_len (by rfl) T.len PySem.boot_len (pa_cons (pv 4) pa_nil)) pe_int (nomark _))))) (pss_one (ps_ret pe_bl)) pss_nil)
      (pss_cons (ps_if (PW.pt (pw_or (pt_not (pt_val (pe_cal c__law_are_ints (hr.mono (by decide)) (by rfl) (pa_cons (pe_ix ix_tup (pv 4) pe_int (fun _ _ => rfl)) (pa_cons (pv 5) pa_nil))))) (pw_or1 (pt_not (pt_val (pe_cal c__law_are_ints (hr.mono (by decide)) (by rfl) (pa_cons (pe_ix ix_tup (pv 4) pe_int (fun _ _ => rfl)) (pa_cons (pv 6) pa_nil)))))))) (pss_one (ps_ret pe_bl)) pss_nil)
      (pss_cons (ps_if (PW.pt (pw_and (pt_cmpR op_eq (pv 2) pe_str (nomark _)) (pw_and1 (pt_not (pt_val (pe_callB (cr_all rfl) (by rfl) T.all (by decide +kernel) (pa_cons (pe_lc (own := [("_law_number", 13)]) rfl sc__law_is_row.nd (pi_tup (pe_ix ix_tup (pv 4) pe_int (fun _ _ => rfl))) (blkOk_by (by kernel_rfl)) (fun _ _ _ _ _ => (pg_name (i := 13) sc__law_is_row.nd rfl (by first | exact Or.inl rfl | exact Or.inr rfl))) (fun _ _ _ _ _ => pts_nil) (fun _ _ _ _ _ => (pe_cmpR op_ge (pv 13) pe_int (nomark _)))) pa_nil))))))) (pss_one (ps_ret pe_bl)) pss_nil)
      (pss_cons (ps_for PassesOwn.never rfl (pi_tup (pv 1)) (pg_name (i := 8) sc__law_is_row.nd rfl (by first | exact Or.inl rfl | exact Or.inr rfl))
      (pss_cons (ps_asg (pe_ix ix_tup (pv 7) (pv 8) (fun _ _ => rfl)) (pg_tup rfl (pgs_cons (pg_name (i := 9) sc__law_is_row.nd rfl (by first | exact Or.inl rfl | exact Or.inr rfl)) (pgs_cons (pg_name (i := 10) sc__law_is_row.nd rfl (by first | exact Or.inl rfl | exact Or.inr rfl)) (pgs_cons (pg_name (i := 11) sc__law_is_row.nd rfl (by first | exact Or.inl rfl | exact Or.inr rfl)) pgs_nil)))))
      (pss_cons (ps_set (i := 12) sc__law_is_row.nd rfl (by first | exact Or.inl rfl | exact Or.inr rfl) (pe_op op_sub (pe_op op_add (pe_callB (cr_sum rfl) (by rfl) T.sum (by decide +kernel) (pa_cons (pe_lc (own := [("_law_side", 14)]) rfl sc__law_is_row.nd (pi_range1 (by rfl) T.range (pa_cons (pv 5) pa_nil)) (blkOk_by (by kernel_rfl)) (fun _ _ _ _ _ => (pg_name (i := 14) sc__law_is_row.nd rfl (by first | exact Or.inl rfl | exact Or.inr rfl))) (fun _ _ _ _ _ => pts_nil) (fun _ _ _ _ _ => (pe_op op_mul (pe_ix ix_tup (pe_ix ix_tup (pv 4) pe_int (fun _ _ => rfl)) (pv 14) (fun _ _ => rfl)) (pe_ix ix_tup (pv 11) (pv 14) (fun _ _ => rfl))))) pa_nil)) (pe_ix ix_tup (pe_ix ix_tup (pv 4) pe_int (fun _ _ => rfl)) (pv 9) (fun _ _ => rfl))) (pe_ix ix_tup (pe_ix ix_tup (pv 4) pe_int (fun _ _ => rfl)) (pv 10) (fun _ _ => rfl))))
      (pss_one (ps_if (PW.pt (pw_or (pt_cmpR op_lt (pv 12) pe_int (nomark _)) (pw_or1 (pt_cmpR op_ne (pe_cmpR op_eq (pv 12) pe_int (nomark _)) (pe_cmpR op_in_seq (pv 8) (pv 3) (by rfl)) (nomark _))))) (pss_one (ps_ret pe_bl)) pss_nil)))))
      (pss_one (ps_ret pe_bl))))))), pure__law_is_row CF vs H Q E h⟩
theorem ok__law_is_certain {f : Addr} {fd : FuncData} (F : FnP K "_law_is_certain" "_law_is_certain" (top 50) f fd) (c__law_are_ints : Cal g.pr g.wd K mg base "_law_are_ints" 2 ["_law_things", "_law_many"] (sp__law_are_ints K g)) (c__law_is_flow : Cal g.pr g.wd K mg base "_law_is_flow" 3 ["_law_told", "_law_lot", "_law_world", "_law_thing"] (sp__law_is_flow K g)) (c__law_is_row : Cal g.pr g.wd K mg base "_law_is_row" 3 ["_law_told", "_law_lot", "_law_world", "_law_keep", "_law_thing"] (sp__law_is_row K g)) : FnOk g.pr g.wd K mg base CX0 4 f fd ["_law_told", "_law_lot", "_law_world", "_law_keep", "_law_amounts", "_law_later"] (sp__law_is_certain K g) := by
  refine F.ok sc__law_is_certain (fun vs H Q E h => len__law_is_certain h) (fun cdv A outer s H vs Q E hr h => ?_)
  have hu := hu_of hr
  exact ⟨t__law_is_certain K g, PSs.nox (pss_cons (ps_if (PW.pt (pw_or (pt_not (pt_val (pe_cal c__law_are_ints (hr.mono (by decide)) (by rfl) (pa_cons (pv 3) (pa_cons (pe_callB c_len (by rfl) T.len PySem.boot_len (pa_cons (pv 3) pa_nil)) pa_nil))))) (pw_or (pt_cmpR (op_neD hr.units) (pe_callB (cr_sortedSet rfl) (by rfl) T.sorted (by decide +kernel) (pa_cons (pe_callTy (c_setT rfl) (by rfl) T.set (by decide +kernel) (pa_cons (pv 3) pa_nil)) pa_nil)) (pe_callTy c_lst (by rfl) T.list (by decide +kernel) (pa_cons (pv 3) pa_nil)) (nomark _)) (pw_or1 (pt_not (pt_val (pe_callB (cr_all rfl) (by rfl) T.all (by decide +kernel) (pa_cons (pe_lc (own := [("_law_k", 6)]) rfl sc__law_is_certain.nd (pi_tup (pv 3)) (blkOk_by (by kernel_rfl)) (fun _ _ _ _ _ => (pg_name (i := 6) sc__law_is_certain.nd rfl (by first | exact Or.inl rfl | exact Or.inr rfl))) (fun _ _ _ _ _ => pts_nil) (fun _ _ _ _ _ => (pe_cmpR op_in_seq (pv 6) (pv 1) (by rfl)))) pa_nil)))))))) (pss_one (ps_ret pe_bl)) pss_nil)
      (pss_cons (ps_if (PW.pt (pw_or (pt_not (pt_val (pe_cal c__law_is_flow (hr.mono (by decide)) (by rfl) (pa_cons (pv 0) (pa_cons (pv 1) (pa_cons (pv 2) (pa_cons (pv 4) pa_nil))))))) (pw_or1 (pt_not (pt_val (pe_callB (cr_all rfl) (by rfl) T.all (by decide +kernel) (pa_cons (pe_lc (own := [("_law_k", 6)]) rfl sc__law_is_certain.nd (pi_tup (pv 3)) (blkOk_by (by kernel_rfl)) (fun _ _ _ _ _ => (pg_name (i := 6) sc__law_is_certain.nd rfl (by first | exact Or.inl rfl | exact Or.inr rfl))) (fun _ _ _ _ _ => pts_nil) (fun _ _ _ _ _ => (pe_cmpR op_gt (pe_ix ix_tup (pv 4) (pv 6) (fun _ _ => rfl)) pe_int (nomark _)))) pa_nil))))))) (pss_one (ps_ret pe_bl)) pss_nil)
      (pss_one (ps_ret (pe_cal c__law_is_row (hr.mono (by decide)) (by rfl) (pa_cons (pv 0) (pa_cons (pv 1) (pa_cons (pv 2) (pa_cons (pv 3) (pa_cons (pv 5) pa_nil)))))))))), pure__law_is_certain CF vs H Q E h⟩
theorem ok__law_step {f : Addr} {fd : FuncData} (F : FnP K "_law_step" "_law_step" (top 51) f fd) (c__law_draw : Cal g.pr g.wd K mg base "_law_draw" 1 ["_law_pool_here", "_law_many"] (sp__law_draw K g)) : FnOk g.pr g.wd K mg base CX0 2 f fd ["_law_pool_here", "_law_sides"] (sp__law_step K g) := by
  refine F.ok sc__law_step (fun vs H Q E h => len__law_step h) (fun cdv A outer s H vs Q E hr h => ?_)
  have hu := hu_of hr
  exact ⟨t__law_step K g, PSs.nox (pss_cons (ps_set (i := 2) sc__law_step.nd rfl (by first | exact Or.inl rfl | exact Or.inr rfl) (pe_ix ix_list (pe_lst (pa_cons pe_int (pa_cons pe_int (pa_cons (pe_op op_pow pe_int pe_int) pa_nil)))) (pe_cal c__law_draw (hr.mono (by decide)) (by rfl) (pa_cons (pv 0) (pa_cons pe_int pa_nil))) (fun _ _ => rfl)))
      (pss_one (ps_ret (pe_callTy c_tup (by rfl) T.tuple (by decide +kernel) (pa_cons (pe_lc (own := [("_law_k", 3)]) rfl sc__law_step.nd (pi_range1 (by rfl) T.range (pa_cons (pv 1) pa_nil)) (blkOk_by (by kernel_rfl)) (fun _ _ _ _ _ => (pg_name (i := 3) sc__law_step.nd rfl (by first | exact Or.inl rfl | exact Or.inr rfl))) (fun _ _ _ _ _ => pts_nil) (fun _ _ _ _ _ => (pe_op op_sub (pe_cal c__law_draw (hr.mono (by decide)) (by rfl) (pa_cons (pv 0) (pa_cons (pe_op op_add (pe_op op_mul pe_int (pv 2)) pe_int) pa_nil))) (pv 2)))) pa_nil))))), pure__law_step CF vs H Q E h⟩
theorem ok__law_walk_of {f : Addr} {fd : FuncData} (F : FnP K "_law_walk_of" "_law_walk_of" (top 52) f fd) (c__law_draw : Cal g.pr g.wd K mg base "_law_draw" 1 ["_law_pool_here", "_law_many"] (sp__law_draw K g)) (c__law_step : Cal g.pr g.wd K mg base "_law_step" 2 ["_law_pool_here", "_law_sides"] (sp__law_step K g)) : FnOk g.pr g.wd K mg base CX0 3 f fd ["_law_pool_here", "_law_sides", "_law_tables"] (sp__law_walk_of K g) := by
  refine F.ok sc__law_walk_of (fun vs H Q E h => len__law_walk_of h) (fun cdv A outer s H vs Q E hr h => ?_)
  have hu := hu_of hr
  exact ⟨t__law_walk_of K g, PSs.nox (pss_cons (ps_set (i := 3) sc__law_walk_of.nd rfl (by first | exact Or.inl rfl | exact Or.inr rfl) (pe_op op_add pe_int (pe_cal c__law_draw (hr.mono (by decide)) (by rfl) (pa_cons (pv 0) (pa_cons pe_int pa_nil)))))
      (pss_cons (ps_set (i := 4) sc__law_walk_of.nd rfl (by first | exact Or.inl rfl | exact Or.inr rfl) (pe_lc (own := [("_law_k", 6)]) rfl sc__law_walk_of.nd (pi_range1 (by rfl) T.range (pa_cons (pv 3) pa_nil)) (blkOk_by (by kernel_rfl)) (fun _ _ _ _ _ => (pg_name (i := 6) sc__law_walk_of.nd rfl (by first | exact Or.inl rfl | exact Or.inr rfl))) (fun _ _ _ _ _ => pts_nil) (fun _ _ _ _ _ => (pe_cal c__law_draw (hr.mono (by decide)) (by rfl) (pa_cons (pv 0) (pa_cons (pv 2) pa_nil))))))
      (pss_cons (ps_set (i := 5) sc__law_walk_of.nd rfl (by first | exact Or.inl rfl | exact Or.inr rfl) (pe_lc (own := [("_law_k", 6)]) rfl sc__law_walk_of.nd (pi_range1 (by rfl) T.range (pa_cons (pv 3) pa_nil)) (blkOk_by (by kernel_rfl)) (fun _ _ _ _ _ => (pg_name (i := 6) sc__law_walk_of.nd rfl (by first | exact Or.inl rfl | exact Or.inr rfl))) (fun _ _ _ _ _ => pts_nil) (fun _ _ _ _ _ => (pe_cal c__law_step (hr.mono (by decide)) (by rfl) (pa_cons (pv 0) (pa_cons (pv 1) pa_nil))))))
      (pss_cons (ps_asg (pe_callTy c_tup (by rfl) T.tuple (by decide +kernel) (pa_cons (pe_lc (own := [("_law_side", 7)]) rfl sc__law_walk_of.nd (pi_range1 (by rfl) T.range (pa_cons (pv 1) pa_nil)) (blkOk_by (by kernel_rfl)) (fun _ _ _ _ _ => (pg_name (i := 7) sc__law_walk_of.nd rfl (by first | exact Or.inl rfl | exact Or.inr rfl))) (fun _ _ _ _ _ => pts_nil) (fun _ _ _ _ _ => (pe_un un_neg (pe_callB (cr_sum rfl) (by rfl) T.sum (by decide +kernel) (pa_cons (pe_lc (own := [("_law_step_here", 8)]) rfl sc__law_walk_of.nd (pi_list (pe_slice sl_list (pv 5) (po_some pe_int) po_none)) (blkOk_by (by kernel_rfl)) (fun _ _ _ _ _ => (pg_name (i := 8) sc__law_walk_of.nd rfl (by first | exact Or.inl rfl | exact Or.inr rfl))) (fun _ _ _ _ _ => pts_nil) (fun _ _ _ _ _ => (pe_ix ix_tup (pv 8) (pv 7) (fun _ _ => rfl)))) pa_nil))))) pa_nil)) (pg_sub (pv 5) pe_int set_list))
      (pss_one (ps_ret (pe_lc (own := [("_law_k", 6)]) rfl sc__law_walk_of.nd (pi_range1 (by rfl) T.range (pa_cons (pv 3) pa_nil)) (blkOk_by (by kernel_rfl)) (fun _ _ _ _ _ => (pg_name (i := 6) sc__law_walk_of.nd rfl (by first | exact Or.inl rfl | exact Or.inr rfl))) (fun _ _ _ _ _ => pts_nil) (fun _ _ _ _ _ => (pe_tup (pa_cons (pe_ix ix_list (pv 4) (pe_op op_sub (pv 6) pe_int) (fun _ _ => rfl)) (pa_cons (pe_ix ix_list (pv 4) (pv 6) (fun _ _ => rfl)) (pa_cons (pe_ix ix_list (pv 5) (pv 6) (fun _ _ => rfl)) pa_nil)))))))))))), pure__law_walk_of CF vs H Q E h⟩
theorem ok__law_great_told {f : Addr} {fd : FuncData} (F : FnP K "_law_great_told" "_law_great_told" (top 53) f fd) (c__law_draw : Cal g.pr g.wd K mg base "_law_draw" 1 ["_law_pool_here", "_law_many"] (sp__law_draw K g)) (c__law_walk_of : Cal g.pr g.wd K mg base "_law_walk_of" 3 ["_law_pool_here", "_law_sides", "_law_tables"] (sp__law_walk_of K g)) (c__law_step : Cal g.pr g.wd K mg base "_law_step" 2 ["_law_pool_here", "_law_sides"] (sp__law_step K g)) : FnOk g.pr g.wd K mg base CX0 4 f fd ["_law_pool_here", "_law_wide"] (sp__law_great_told K g) := by
  refine F.ok sc__law_great_told (fun vs H Q E h => len__law_great_told h) (fun cdv A outer s H vs Q E hr h => ?_)
  have hu := hu_of hr
  exact ⟨t__law_great_told K g, PSs.nox (pss_cons (ps_set (i := 2) sc__law_great_told.nd rfl (by first | exact Or.inl rfl | exact Or.inr rfl) (pe_op op_add pe_int (pe_cal c__law_draw (hr.mono (by decide)) (by rfl) (pa_cons (pv 0) (pa_cons pe_int pa_nil)))))
      (pss_cons (ps_set (i := 3) sc__law_great_told.nd rfl (by first | exact Or.inl rfl | exact Or.inr rfl) (pe_op op_add pe_int (pe_cal c__law_draw (hr.mono (by decide)) (by rfl) (pa_cons (pv 0) (pa_cons pe_int pa_nil)))))
      (pss_cons (ps_set (i := 4) sc__law_great_told.nd rfl (by first | exact Or.inl rfl | exact Or.inr rfl) (pe_lst pa_nil))
      (pss_cons (ps_for PassesOwn.never rfl (pi_range1 (by rfl) T.range (pa_cons (pe_cal c__law_draw (hr.mono (by decide)) (by rfl) (pa_cons (pv 0) (pa_cons (pe_ix ix_list (pe_lst (pa_cons pe_int (pa_cons pe_int pa_nil))) (pv 1) (fun _ _ => rfl)) pa_nil))) pa_nil)) (pg_name (i := 5) sc__law_great_told.nd rfl (by first | exact Or.inl rfl | exact Or.inr rfl))
      (pss_one (ps_set (i := 4) sc__law_great_told.nd rfl (by first | exact Or.inl rfl | exact Or.inr rfl) (pe_op op_cat (pv 4) (pe_cal c__law_walk_of (hr.mono (by decide)) (by rfl) (pa_cons (pv 0) (pa_cons (pv 2) (pa_cons (pv 3) pa_nil))))))))
      (pss_cons (ps_for PassesOwn.never rfl (pi_range1 (by rfl) T.range (pa_cons (pe_cal c__law_draw (hr.mono (by decide)) (by rfl) (pa_cons (pv 0) (pa_cons (pe_ix ix_list (pe_lst (pa_cons pe_int (pa_cons pe_int pa_nil))) (pv 1) (fun _ _ => rfl)) pa_nil))) pa_nil)) (pg_name (i := 5) sc__law_great_told.nd rfl (by first | exact Or.inl rfl | exact Or.inr rfl))
      (pss_one (ps_expr (pe_bm PySem.F.plainAttrs_list PySem.F.slot_list_append PySem.F.type_list_append mt_append (pv 4) (pa_cons (pe_tup (pa_cons (pe_cal c__law_draw (hr.mono (by decide)) (by rfl) (pa_cons (pv 0) (pa_cons (pv 3) pa_nil))) (pa_cons (pe_cal c__law_draw (hr.mono (by decide)) (by rfl) (pa_cons (pv 0) (pa_cons (pv 3) pa_nil))) (pa_cons (pe_cal c__law_step (hr.mono (by decide)) (by rfl) (pa_cons (pv 0) (pa_cons (pv 2) pa_nil))) pa_nil)))) pa_nil)))))
      (pss_one (ps_ret (pe_tup (pa_cons (pv 2) (pa_cons (pv 3) (pa_cons (pe_callTy c_tup (by rfl) T.tuple (by decide +kernel) (pa_cons (pe_callB (c_srtR rfl hr.units) (by rfl) T.sorted (by decide +kernel) (pa_cons (pe_callTy (c_setR rfl hr.units) (by rfl) T.set (by decide +kernel) (pa_cons (pv 4) pa_nil)) pa_nil)) pa_nil)) pa_nil))))))))))), pure__law_great_told CF vs H Q E h⟩
theorem ok__law_is_right {f : Addr} {fd : FuncData} (F : FnP K "_law_is_right" "_law_is_right" (top 54) f fd) (c_kept : Cal g.pr g.wd K mg base "kept" 6 ["program", "lot", "world"] (sp_kept K g)) (c__law_is_certain : Cal g.pr g.wd K mg base "_law_is_certain" 4 ["_law_told", "_law_lot", "_law_world", "_law_keep", "_law_amounts", "_law_later"] (sp__law_is_certain K g)) (c_flow : Cal g.pr g.wd K mg base "flow" 6 ["program", "lot", "world"] (sp_flow K g)) (c_row : Cal g.pr g.wd K mg base "row" 6 ["program", "lot", "world"] (sp_row K g)) : FnOk g.pr g.wd K mg base CX0 7 f fd ["_law_told", "_law_lot", "_law_world", "_law_program"] (sp__law_is_right K g) := by
  refine F.ok sc__law_is_right (fun vs H Q E h => len__law_is_right h) (fun cdv A outer s H vs Q E hr h => ?_)
  have hu := hu_of hr
  exact ⟨t__law_is_right K g, PSs.nox (pss_cons (ps_set (i := 4) sc__law_is_right.nd rfl (by first | exact Or.inl rfl | exact Or.inr rfl) (pe_cal c_kept (hr.mono (by decide)) (by rfl) (pa_cons (pv 3) (pa_cons (pv 1) (pa_cons (pv 2) pa_nil)))))
      (pss_cons (ps_if (pt_not (pt_val (pe_callB call_isi (by rfl) T.isinstance (by decide +kernel) (pa_cons (pv 4) (pa_cons (pe_bltn (v := .ty "tuple") (by rfl) T.tuple (by decide +kernel) rfl) pa_nil))))) (pss_one (ps_ret pe_bl)) pss_nil)
      (pss_one (ps_ret (pe_cal c__law_is_certain (hr.mono (by decide)) (by rfl) (pa_cons (pv 0) (pa_cons (pv 1) (pa_cons (pv 2) (pa_cons (pv 4) (pa_cons (pe_cal c_flow (hr.mono (by decide)) (by rfl) (pa_cons (pv 3) (pa_cons (pv 1) (pa_cons (pv 2) pa_nil)))) (pa_cons (pe_cal c_row (hr.mono (by decide)) (by rfl) (pa_cons (pv 3) (pa_cons (pv 1) (pa_cons (pv 2) pa_nil)))) pa_nil))))))))))), pure__law_is_right CF vs H Q E h⟩
theorem ok_law {f : Addr} {fd : FuncData} (F : FnP K "law" "law" (top 55) f fd) (c__law_pool : Cal g.pr g.wd K mg base "_law_pool" 1 ["_law_script"] (sp__law_pool K g)) (c__law_great_told : Cal g.pr g.wd K mg base "_law_great_told" 4 ["_law_pool_here", "_law_wide"] (sp__law_great_told K g)) (c__law_draw : Cal g.pr g.wd K mg base "_law_draw" 1 ["_law_pool_here", "_law_many"] (sp__law_draw K g)) (c_Program_init : KCal g.pr g.wd K mg base g.P "Program" 5 ["self", "sides", "tables", "readings"] (sp_Program_init K g)) (c_beside : Cal g.pr g.wd K mg base "beside" 8 ["one", "other"] (sp_beside K g)) (c__law_is_right : Cal g.pr g.wd K mg base "_law_is_right" 7 ["_law_told", "_law_lot", "_law_world", "_law_program"] (sp__law_is_right K g)) : FnOk g.pr g.wd K mg base CX0 9 f fd ["_law_script"] (sp_law K g) := by
  refine F.ok sc_law (fun vs H Q E h => len_law h) (fun cdv A outer s H vs Q E hr h => ?_)
  have hu := hu_of hr
  exact ⟨t_law K g, PSs.nox (pss_cons (ps_set (i := 1) sc_law.nd rfl (by first | exact Or.inl rfl | exact Or.inr rfl) (pe_cal c__law_pool (hr.mono (by decide)) (by rfl) (pa_cons (pv 0) pa_nil)))
      (pss_cons (ps_set (i := 2) sc_law.nd rfl (by first | exact Or.inl rfl | exact Or.inr rfl) (pe_cal c__law_great_told (hr.mono (by decide)) (by rfl) (pa_cons (pv 1) (pa_cons (pe_callTy c_int (by rfl) T.int (by decide +kernel) (pa_cons (pe_cmpR op_eq (pe_cal c__law_draw (hr.mono (by decide)) (by rfl) (pa_cons (pv 1) (pa_cons pe_int pa_nil))) pe_int (nomark _)) pa_nil)) pa_nil))))
      (pss_cons (ps_set (i := 3) sc_law.nd rfl (by first | exact Or.inl rfl | exact Or.inr rfl) (pe_kcal c_Program_init (hr.mono (by decide)) (by rfl) (pa_cons (pe_ix ix_tup (pv 2) pe_int (fun _ _ => rfl)) (pa_cons (pe_ix ix_tup (pv 2) pe_int (fun _ _ => rfl)) (pa_cons (pe_ix ix_tup (pv 2) pe_int (fun _ _ => rfl)) pa_nil)))))
      (pss_cons (ps_set (i := 4) sc_law.nd rfl (by first | exact Or.inl rfl | exact Or.inr rfl) (pe_ix ix_list (pe_lst (pa_cons pe_str (pa_cons pe_str pa_nil))) (pe_cal c__law_draw (hr.mono (by decide)) (by rfl) (pa_cons (pv 1) (pa_cons pe_int pa_nil))) (fun _ _ => rfl)))
      (pss_cons (ps_if (pt_cmpR op_eq (pe_cal c__law_draw (hr.mono (by decide)) (by rfl) (pa_cons (pv 1) (pa_cons pe_int pa_nil))) pe_int (nomark _)) (pss_cons (ps_setLc (i := 5) (own := [("_law_k", 8)]) rfl sc_law.nd rfl rfl (sw_true rfl rfl rfl (by kernel_rfl)) (pi_range1 (by rfl) T.range (pa_cons pe_int pa_nil)) (blkOk_by (by kernel_rfl)) (fun _ _ _ _ _ => (pg_name (i := 8) sc_law.nd rfl (by first | exact Or.inl rfl | exact Or.inr rfl))) (fun _ _ _ _ _ => pts_nil) (fun _ _ _ _ _ => (pe_tup (pa_cons (pe_op op_fdivW (pe_callTy c_int (by rfl) T.int (by decide +kernel) (pa_cons (pv 8) pa_nil)) pe_int) (pa_cons (pe_op op_mod (pe_callTy c_int (by rfl) T.int (by decide +kernel) (pa_cons (pv 8) pa_nil)) pe_int) (pa_cons (pe_op o_repT (pe_tup (pa_cons (pe_op op_sub (pv 8) pe_int) pa_nil)) (pe_ix ix_tup (pv 2) pe_int (fun _ _ => rfl))) pa_nil))))))
      (pss_cons (ps_setLc (i := 6) (own := [("_law_reader", 9), ("_law_read", 10), ("_law_step_here", 11)]) rfl sc_law.nd rfl rfl (sw_true rfl rfl rfl (by kernel_rfl)) (pi_list (pv 5)) (blkOk_by (by kernel_rfl)) (fun _ _ _ _ _ => (pg_tup rfl (pgs_cons (pg_name (i := 9) sc_law.nd rfl (by first | exact Or.inl rfl | exact Or.inr rfl)) (pgs_cons (pg_name (i := 10) sc_law.nd rfl (by first | exact Or.inl rfl | exact Or.inr rfl)) (pgs_cons (pg_name (i := 11) sc_law.nd rfl (by first | exact Or.inl rfl | exact Or.inr rfl)) pgs_nil))))) (fun _ _ _ _ _ => pts_nil) (fun _ _ _ _ _ => (pe_tup (pa_cons (pe_op op_add (pv 9) (pe_ix ix_tup (pv 2) pe_int (fun _ _ => rfl))) (pa_cons (pe_op op_add (pv 10) (pe_ix ix_tup (pv 2) pe_int (fun _ _ => rfl))) (pa_cons (pv 11) pa_nil))))))
      (pss_cons (ps_set (i := 7) sc_law.nd rfl (by first | exact Or.inl rfl | exact Or.inr rfl) (pe_cal c_beside (hr.mono (by decide)) (by rfl) (pa_cons (pv 3) (pa_cons (pe_kcal c_Program_init (hr.mono (by decide)) (by rfl) (pa_cons (pe_ix ix_tup (pv 2) pe_int (fun _ _ => rfl)) (pa_cons pe_int (pa_cons (pe_callTy c_tup (by rfl) T.tuple (by decide +kernel) (pa_cons (pv 5) pa_nil)) pa_nil)))) pa_nil))))
      (pss_one (ps_ret (pe_cal c__law_is_right (hr.mono (by decide)) (by rfl) (pa_cons (pe_tup (pa_cons (pe_ix ix_tup (pv 2) pe_int (fun _ _ => rfl)) (pa_cons (pe_op op_add (pe_ix ix_tup (pv 2) pe_int (fun _ _ => rfl)) pe_int) (pa_cons (pe_op op_catA (pe_ix ix_tup (pv 2) pe_int (fun _ _ => rfl)) (pe_callTy c_tup (by rfl) T.tuple (by decide +kernel) (pa_cons (pv 6) pa_nil))) pa_nil)))) (pa_cons (pe_tupRg rfl (by rfl) T.tuple (prg_1 (by rfl) T.range (pe_callB c_len (by rfl) T.len PySem.boot_len (pa_cons (pe_ix ix_tup (pv 2) pe_int (fun _ _ => rfl)) pa_nil)))) (pa_cons (pv 4) (pa_cons (pv 7) pa_nil)))))))))) pss_nil)
      (pss_one (ps_ret (pe_cal c__law_is_right (hr.mono (by decide)) (by rfl) (pa_cons (pv 2) (pa_cons (pe_tupRg rfl (by rfl) T.tuple (prg_1 (by rfl) T.range (pe_callB c_len (by rfl) T.len PySem.boot_len (pa_cons (pe_ix ix_tup (pv 2) pe_int (fun _ _ => rfl)) pa_nil)))) (pa_cons (pv 4) (pa_cons (pv 3) pa_nil)))))))))))), pure_law CF vs H Q E h⟩
end
end TW
set_option maxHeartbeats 0
namespace TW
open PySem PySem.Spec PyProof.Rows L2 Evl RS RZ TN
/-! ### the head -/
def exW (K : PySem.W.Frag) : Bool := He.tupB K "WORLDS" [.str "boxes", .str "corner"]
def d_is_integer : He.DefD := ⟨("is_integer", none), "is_integer", "is_integer", defArgs (top 8), defBody (top 8), defScope (top 8), [], []⟩
def d_is_within : He.DefD := ⟨("is_within", none), "is_within", "is_within", defArgs (top 9), defBody (top 9), defScope (top 9), [], []⟩
def d_is_triple : He.DefD := ⟨("is_triple", none), "is_triple", "is_triple", defArgs (top 10), defBody (top 10), defScope (top 10), [], []⟩
def d_are_integers : He.DefD := ⟨("are_integers", none), "are_integers", "are_integers", defArgs (top 11), defBody (top 11), defScope (top 11), [], []⟩
def d_are_within : He.DefD := ⟨("are_within", none), "are_within", "are_within", defArgs (top 12), defBody (top 12), defScope (top 12), [], []⟩
def d_is_lot_below : He.DefD := ⟨("is_lot_below", none), "is_lot_below", "is_lot_below", defArgs (top 13), defBody (top 13), defScope (top 13), [], []⟩
def d_check_world : He.DefD := ⟨("check_world", none), "check_world", "check_world", defArgs (top 14), defBody (top 14), defScope (top 14), [], []⟩
def d_divisor : He.DefD := ⟨("divisor", none), "divisor", "divisor", defArgs (top 15), defBody (top 15), defScope (top 15), [], []⟩
def d_multiple : He.DefD := ⟨("multiple", none), "multiple", "multiple", defArgs (top 16), defBody (top 16), defScope (top 16), [], []⟩
def d_fraction : He.DefD := ⟨("fraction", none), "fraction", "fraction", defArgs (top 17), defBody (top 17), defScope (top 17), [], []⟩
def d_is_reading : He.DefD := ⟨("is_reading", none), "is_reading", "is_reading", defArgs (top 23), defBody (top 23), defScope (top 23), [], []⟩
def d_Program_keep : He.DefD := ⟨("Program", some "keep"), "keep", "Program.keep", defArgs (inClass (top 24) 1), defBody (inClass (top 24) 1), defScope (inClass (top 24) 1), [], []⟩
def d_Program_init : He.DefD := ⟨("Program", some "__init__"), "__init__", "Program.__init__", defArgs (inClass (top 24) 0), defBody (inClass (top 24) 0), defScope (inClass (top 24) 0), [], []⟩
def d_program_of : He.DefD := ⟨("program_of", none), "program_of", "program_of", defArgs (top 25), defBody (top 25), defScope (top 25), [], []⟩
def d_check_lot : He.DefD := ⟨("check_lot", none), "check_lot", "check_lot", defArgs (top 26), defBody (top 26), defScope (top 26), [], []⟩
def d_beside : He.DefD := ⟨("beside", none), "beside", "beside", defArgs (top 27), defBody (top 27), defScope (top 27), [], []⟩
def d_Tableau_init : He.DefD := ⟨("Tableau", some "__init__"), "__init__", "Tableau.__init__", defArgs (inClass (top 29) 0), defBody (inClass (top 29) 0), defScope (inClass (top 29) 0), [], []⟩
def d_Tableau_step : He.DefD := ⟨("Tableau", some "step"), "step", "Tableau.step", defArgs (inClass (top 29) 1), defBody (inClass (top 29) 1), defScope (inClass (top 29) 1), [], []⟩
def d_Tableau_leaving : He.DefD := ⟨("Tableau", some "leaving"), "leaving", "Tableau.leaving", defArgs (inClass (top 29) 2), defBody (inClass (top 29) 2), defScope (inClass (top 29) 2), [], []⟩
def d_Tableau_entering : He.DefD := ⟨("Tableau", some "entering"), "entering", "Tableau.entering", defArgs (inClass (top 29) 3), defBody (inClass (top 29) 3), defScope (inClass (top 29) 3), [], []⟩
def d_Tableau_run : He.DefD := ⟨("Tableau", some "run"), "run", "Tableau.run", defArgs (inClass (top 29) 4), defBody (inClass (top 29) 4), defScope (inClass (top 29) 4), [], []⟩
def d_Tableau_clear : He.DefD := ⟨("Tableau", some "clear"), "clear", "Tableau.clear", defArgs (inClass (top 29) 5), defBody (inClass (top 29) 5), defScope (inClass (top 29) 5), [], []⟩
def d_Tableau_wanted : He.DefD := ⟨("Tableau", some "wanted"), "wanted", "Tableau.wanted", defArgs (inClass (top 29) 6), defBody (inClass (top 29) 6), defScope (inClass (top 29) 6), [], []⟩
def d_Tableau_other_side : He.DefD := ⟨("Tableau", some "other_side"), "other_side", "Tableau.other_side", defArgs (inClass (top 29) 8), defBody (inClass (top 29) 8), defScope (inClass (top 29) 8), [], []⟩
def d_solved : He.DefD := ⟨("solved", none), "solved", "solved", defArgs (top 30), defBody (top 30), defScope (top 30), [], []⟩
def d_column_of : He.DefD := ⟨("column_of", none), "column_of", "column_of", defArgs (top 32), defBody (top 32), defScope (top 32), [], []⟩
def d_far_columns : He.DefD := ⟨("far_columns", none), "far_columns", "far_columns", defArgs (top 33), defBody (top 33), defScope (top 33), [], []⟩
def d_task_of : He.DefD := ⟨("task_of", none), "task_of", "task_of", defArgs (top 34), defBody (top 34), defScope (top 34), [], []⟩
def d_common_bottom : He.DefD := ⟨("common_bottom", none), "common_bottom", "common_bottom", defArgs (top 35), defBody (top 35), defScope (top 35), [], []⟩
def d_whole : He.DefD := ⟨("whole", none), "whole", "whole", defArgs (top 36), defBody (top 36), defScope (top 36), [], []⟩
def d_told_of : He.DefD := ⟨("told_of", none), "told_of", "told_of", defArgs (top 37), defBody (top 37), defScope (top 37), [], []⟩
def d_check_asked : He.DefD := ⟨("check_asked", none), "check_asked", "check_asked", defArgs (top 38), defBody (top 38), defScope (top 38), [], []⟩
def d_kept : He.DefD := ⟨("kept", none), "kept", "kept", defArgs (top 39), defBody (top 39), defScope (top 39), [], []⟩
def d_flow : He.DefD := ⟨("flow", none), "flow", "flow", defArgs (top 40), defBody (top 40), defScope (top 40), [], []⟩
def d_row : He.DefD := ⟨("row", none), "row", "row", defArgs (top 41), defBody (top 41), defScope (top 41), [], []⟩
def d__law_pool : He.DefD := ⟨("_law_pool", none), "_law_pool", "_law_pool", defArgs (top 43), defBody (top 43), defScope (top 43), [], []⟩
def d__law_draw : He.DefD := ⟨("_law_draw", none), "_law_draw", "_law_draw", defArgs (top 44), defBody (top 44), defScope (top 44), [], []⟩
def d__law_is_int : He.DefD := ⟨("_law_is_int", none), "_law_is_int", "_law_is_int", defArgs (top 46), defBody (top 46), defScope (top 46), [], []⟩
def d__law_are_ints : He.DefD := ⟨("_law_are_ints", none), "_law_are_ints", "_law_are_ints", defArgs (top 47), defBody (top 47), defScope (top 47), [], []⟩
def d__law_is_flow : He.DefD := ⟨("_law_is_flow", none), "_law_is_flow", "_law_is_flow", defArgs (top 48), defBody (top 48), defScope (top 48), [], []⟩
def d__law_is_row : He.DefD := ⟨("_law_is_row", none), "_law_is_row", "_law_is_row", defArgs (top 49), defBody (top 49), defScope (top 49), [], []⟩
def d__law_is_certain : He.DefD := ⟨("_law_is_certain", none), "_law_is_certain", "_law_is_certain", defArgs (top 50), defBody (top 50), defScope (top 50), [], []⟩
def d__law_step : He.DefD := ⟨("_law_step", none), "_law_step", "_law_step", defArgs (top 51), defBody (top 51), defScope (top 51), [], []⟩
def d__law_walk_of : He.DefD := ⟨("_law_walk_of", none), "_law_walk_of", "_law_walk_of", defArgs (top 52), defBody (top 52), defScope (top 52), [], []⟩
def d__law_great_told : He.DefD := ⟨("_law_great_told", none), "_law_great_told", "_law_great_told", defArgs (top 53), defBody (top 53), defScope (top 53), [], []⟩
def d__law_is_right : He.DefD := ⟨("_law_is_right", none), "_law_is_right", "_law_is_right", defArgs (top 54), defBody (top 54), defScope (top 54), [], []⟩
def d_law : He.DefD := ⟨("law", none), "law", "law", defArgs (top 55), defBody (top 55), defScope (top 55), [], []⟩
def fn0 : List He.DefD := [d_is_integer, d_is_within, d_is_triple, d_are_integers, d_are_within, d_is_lot_below, d_check_world, d_divisor, d_multiple, d_fraction, d_is_reading, d_Program_keep, d_Program_init, d_program_of, d_check_lot, d_beside, d_Tableau_init, d_Tableau_step, d_Tableau_leaving, d_Tableau_entering, d_Tableau_run, d_Tableau_clear, d_Tableau_wanted, d_Tableau_other_side, d_solved, d_column_of, d_far_columns, d_task_of, d_common_bottom, d_whole]
def fn1 : List He.DefD := [d_told_of, d_check_asked, d_kept, d_flow, d_row, d__law_pool, d__law_draw, d__law_is_int, d__law_are_ints, d__law_is_flow, d__law_is_row, d__law_is_certain, d__law_step, d__law_walk_of, d__law_great_told, d__law_is_right, d_law]
def fn : List He.DefD := fn0 ++ fn1
def fa0 : List He.Fa := [.glo "is_integer", .glo "is_within", .glo "is_triple", .glo "are_integers", .glo "are_within", .glo "is_lot_below", .glo "check_world", .glo "divisor", .glo "multiple", .glo "fraction", .glo "is_reading", .glo "program_of", .glo "check_lot", .glo "beside", .glo "solved", .glo "column_of", .glo "far_columns", .glo "task_of", .glo "common_bottom", .glo "whole", .glo "told_of", .glo "check_asked", .glo "kept", .glo "flow", .glo "row", .glo "_law_pool", .glo "_law_draw", .glo "_law_is_int", .glo "_law_are_ints", .glo "_law_is_flow"]
def fa1 : List He.Fa := [.glo "_law_is_row", .glo "_law_is_certain", .glo "_law_step", .glo "_law_walk_of", .glo "_law_great_told", .glo "_law_is_right", .glo "law", .glo "Program", .glo "Tableau", .glo "WORLDS", .free "len", .free "isinstance", .free "int", .free "bool", .free "tuple", .free "str", .free "all", .free "abs", .free "range", .free "enumerate", .free "sum", .free "sorted", .free "set", .free "list", .free "zip", .int "MOST_SIDES" 4, .int "MOST_TABLES" 8, .int "MOST_READINGS" 24, .int "MOST_STEP" 1000000000000, .cls "Program"]
def fa2 : List He.Fa := [.mkr "Program", .noat "Program" "sides", .noat "Program" "tables", .noat "Program" "readings", .cls "Tableau", .mkr "Tableau", .noat "Tableau" "wide", .noat "Tableau" "many", .noat "Tableau" "signs", .noat "Tableau" "lines", .noat "Tableau" "base", .noat "Tableau" "bottom", .meth "Program" "keep", .meth "Tableau" "step", .meth "Tableau" "leaving", .meth "Tableau" "entering", .meth "Tableau" "run", .meth "Tableau" "clear", .meth "Tableau" "wanted", .meth "Tableau" "other_side"]
def fa : List He.Fa := fa0 ++ fa1 ++ fa2
def loose0 : List Str := ["TurnError", "BadProgram", "OtherSides", "NoLot", "NoWorld", "WORLDS", "is_integer", "is_within", "is_triple", "are_integers", "are_within", "is_lot_below", "check_world", "divisor", "multiple", "fraction", "MOST_SIDES", "MOST_TABLES", "MOST_READINGS", "MOST_STEP", "is_reading", "Program", "program_of", "check_lot", "beside", "Tableau", "solved", "column_of", "far_columns", "task_of"]
def loose1 : List Str := ["common_bottom", "whole", "told_of", "check_asked", "kept", "flow", "row", "_law_pool", "_law_draw", "_law_mixed", "_law_is_int", "_law_are_ints", "_law_is_flow", "_law_is_row", "_law_is_certain", "_law_step", "_law_walk_of", "_law_great_told", "_law_is_right"]
def loose : List Str := loose0 ++ loose1
theorem tx {w : World} {K : PySem.W.Frag} {h : Heap} {h0 : Heap} {mg : Str → Option Value} {P : Program} (X : K.In h) (G : h.Ns mainGlobals mg) (c : He.SaysX fa fn [] [] exW w h0 K) : Tx mg ⟨He.ga K "Program", He.ga K "Tableau", He.ga K "WORLDS", P, w⟩ where
  len := He.free_ok X G (c.t.d.fact 40 (f := .free "len") (by rfl))
  isinstance := He.free_ok X G (c.t.d.fact 41 (f := .free "isinstance") (by rfl))
  int := He.free_ok X G (c.t.d.fact 42 (f := .free "int") (by rfl))
  bool := He.free_ok X G (c.t.d.fact 43 (f := .free "bool") (by rfl))
  tuple := He.free_ok X G (c.t.d.fact 44 (f := .free "tuple") (by rfl))
  str := He.free_ok X G (c.t.d.fact 45 (f := .free "str") (by rfl))
  all := He.free_ok X G (c.t.d.fact 46 (f := .free "all") (by rfl))
  abs := He.free_ok X G (c.t.d.fact 47 (f := .free "abs") (by rfl))
  range := He.free_ok X G (c.t.d.fact 48 (f := .free "range") (by rfl))
  enumerate := He.free_ok X G (c.t.d.fact 49 (f := .free "enumerate") (by rfl))
  sum := He.free_ok X G (c.t.d.fact 50 (f := .free "sum") (by rfl))
  sorted := He.free_ok X G (c.t.d.fact 51 (f := .free "sorted") (by rfl))
  set := He.free_ok X G (c.t.d.fact 52 (f := .free "set") (by rfl))
  list := He.free_ok X G (c.t.d.fact 53 (f := .free "list") (by rfl))
  zip := He.free_ok X G (c.t.d.fact 54 (f := .free "zip") (by rfl))
  mSides := He.int_ok X G (c.t.d.fact 55 (f := .int "MOST_SIDES" 4) (by rfl))
  mTables := He.int_ok X G (c.t.d.fact 56 (f := .int "MOST_TABLES" 8) (by rfl))
  mReadings := He.int_ok X G (c.t.d.fact 57 (f := .int "MOST_READINGS" 24) (by rfl))
  mStep := He.int_ok X G (c.t.d.fact 58 (f := .int "MOST_STEP" 1000000000000) (by rfl))
  worlds := He.glo_ok X G (c.t.d.fact 39 (f := .glo "WORLDS") (by rfl))
theorem cf {w : World} {K : PySem.W.Frag} {h0 : Heap} {P : Program} (c : He.SaysX fa fn [] [] exW w h0 K) : CF K ⟨He.ga K "Program", He.ga K "Tableau", He.ga K "WORLDS", P, w⟩ where
  P := He.cls_ok (c.t.d.fact 59 (f := .cls "Program") (by rfl))
  T := He.cls_ok (c.t.d.fact 64 (f := .cls "Tableau") (by rfl))
  pS := He.noat_ok (c.t.d.fact 61 (f := .noat "Program" "sides") (by rfl))
  pT := He.noat_ok (c.t.d.fact 62 (f := .noat "Program" "tables") (by rfl))
  pR := He.noat_ok (c.t.d.fact 63 (f := .noat "Program" "readings") (by rfl))
  tW := He.noat_ok (c.t.d.fact 66 (f := .noat "Tableau" "wide") (by rfl))
  tM := He.noat_ok (c.t.d.fact 67 (f := .noat "Tableau" "many") (by rfl))
  tS := He.noat_ok (c.t.d.fact 68 (f := .noat "Tableau" "signs") (by rfl))
  tL := He.noat_ok (c.t.d.fact 69 (f := .noat "Tableau" "lines") (by rfl))
  tB := He.noat_ok (c.t.d.fact 70 (f := .noat "Tableau" "base") (by rfl))
  tD := He.noat_ok (c.t.d.fact 71 (f := .noat "Tableau" "bottom") (by rfl))
  W := fun H => He.tupB_ok (vs := [.str "boxes", .str "corner"]) c.more H
theorem facts {P : Program} {w : World} {K : PySem.W.Frag} {h h0 : Heap} {mg : Str → Option Value} {f : Addr} (X : K.In h) (G : h.Ns mainGlobals mg) (hfa : mg ("law" : Str) = some (.ref f)) (c : He.SaysX fa fn [] [] exW w h0 K) :
    ∃ fd : FuncData, (∀ (s : Shared) (v : Value), BindsTo s fd ⟨[v], []⟩ [("_law_script", v)]) ∧ ∀ base : Heap, K.In base → base.Ns mainGlobals mg → FnOk P w K mg base CX0 9 f fd ["_law_script"] (sp_law K ⟨He.ga K "Program", He.ga K "Tableau", He.ga K "WORLDS", P, w⟩) := by
  have T : Tx mg ⟨He.ga K "Program", He.ga K "Tableau", He.ga K "WORLDS", P, w⟩ := tx X G c
  have C : CF K ⟨He.ga K "Program", He.ga K "Tableau", He.ga K "WORLDS", P, w⟩ := cf c
  obtain ⟨fd_is_integer, F_is_integer⟩ := c.t.d.def_ 0 (d := d_is_integer) (by rfl)
  obtain ⟨fd_is_within, F_is_within⟩ := c.t.d.def_ 1 (d := d_is_within) (by rfl)
  obtain ⟨fd_is_triple, F_is_triple⟩ := c.t.d.def_ 2 (d := d_is_triple) (by rfl)
  obtain ⟨fd_are_integers, F_are_integers⟩ := c.t.d.def_ 3 (d := d_are_integers) (by rfl)
  obtain ⟨fd_are_within, F_are_within⟩ := c.t.d.def_ 4 (d := d_are_within) (by rfl)
  obtain ⟨fd_is_lot_below, F_is_lot_below⟩ := c.t.d.def_ 5 (d := d_is_lot_below) (by rfl)
  obtain ⟨fd_check_world, F_check_world⟩ := c.t.d.def_ 6 (d := d_check_world) (by rfl)
  obtain ⟨fd_divisor, F_divisor⟩ := c.t.d.def_ 7 (d := d_divisor) (by rfl)
  obtain ⟨fd_multiple, F_multiple⟩ := c.t.d.def_ 8 (d := d_multiple) (by rfl)
  obtain ⟨fd_fraction, F_fraction⟩ := c.t.d.def_ 9 (d := d_fraction) (by rfl)
  obtain ⟨fd_is_reading, F_is_reading⟩ := c.t.d.def_ 10 (d := d_is_reading) (by rfl)
  obtain ⟨fd_Program_keep, F_Program_keep⟩ := c.t.d.def_ 11 (d := d_Program_keep) (by rfl)
  obtain ⟨fd_Program_init, F_Program_init⟩ := c.t.d.def_ 12 (d := d_Program_init) (by rfl)
  obtain ⟨fd_program_of, F_program_of⟩ := c.t.d.def_ 13 (d := d_program_of) (by rfl)
  obtain ⟨fd_check_lot, F_check_lot⟩ := c.t.d.def_ 14 (d := d_check_lot) (by rfl)
  obtain ⟨fd_beside, F_beside⟩ := c.t.d.def_ 15 (d := d_beside) (by rfl)
  obtain ⟨fd_Tableau_init, F_Tableau_init⟩ := c.t.d.def_ 16 (d := d_Tableau_init) (by rfl)
  obtain ⟨fd_Tableau_step, F_Tableau_step⟩ := c.t.d.def_ 17 (d := d_Tableau_step) (by rfl)
  obtain ⟨fd_Tableau_leaving, F_Tableau_leaving⟩ := c.t.d.def_ 18 (d := d_Tableau_leaving) (by rfl)
  obtain ⟨fd_Tableau_entering, F_Tableau_entering⟩ := c.t.d.def_ 19 (d := d_Tableau_entering) (by rfl)
  obtain ⟨fd_Tableau_run, F_Tableau_run⟩ := c.t.d.def_ 20 (d := d_Tableau_run) (by rfl)
  obtain ⟨fd_Tableau_clear, F_Tableau_clear⟩ := c.t.d.def_ 21 (d := d_Tableau_clear) (by rfl)
  obtain ⟨fd_Tableau_wanted, F_Tableau_wanted⟩ := c.t.d.def_ 22 (d := d_Tableau_wanted) (by rfl)
  obtain ⟨fd_Tableau_other_side, F_Tableau_other_side⟩ := c.t.d.def_ 23 (d := d_Tableau_other_side) (by rfl)
  obtain ⟨fd_solved, F_solved⟩ := c.t.d.def_ 24 (d := d_solved) (by rfl)
  obtain ⟨fd_column_of, F_column_of⟩ := c.t.d.def_ 25 (d := d_column_of) (by rfl)
  obtain ⟨fd_far_columns, F_far_columns⟩ := c.t.d.def_ 26 (d := d_far_columns) (by rfl)
  obtain ⟨fd_task_of, F_task_of⟩ := c.t.d.def_ 27 (d := d_task_of) (by rfl)
  obtain ⟨fd_common_bottom, F_common_bottom⟩ := c.t.d.def_ 28 (d := d_common_bottom) (by rfl)
  obtain ⟨fd_whole, F_whole⟩ := c.t.d.def_ 29 (d := d_whole) (by rfl)
  obtain ⟨fd_told_of, F_told_of⟩ := c.t.d.def_ 30 (d := d_told_of) (by rfl)
  obtain ⟨fd_check_asked, F_check_asked⟩ := c.t.d.def_ 31 (d := d_check_asked) (by rfl)
  obtain ⟨fd_kept, F_kept⟩ := c.t.d.def_ 32 (d := d_kept) (by rfl)
  obtain ⟨fd_flow, F_flow⟩ := c.t.d.def_ 33 (d := d_flow) (by rfl)
  obtain ⟨fd_row, F_row⟩ := c.t.d.def_ 34 (d := d_row) (by rfl)
  obtain ⟨fd__law_pool, F__law_pool⟩ := c.t.d.def_ 35 (d := d__law_pool) (by rfl)
  obtain ⟨fd__law_draw, F__law_draw⟩ := c.t.d.def_ 36 (d := d__law_draw) (by rfl)
  obtain ⟨fd__law_is_int, F__law_is_int⟩ := c.t.d.def_ 37 (d := d__law_is_int) (by rfl)
  obtain ⟨fd__law_are_ints, F__law_are_ints⟩ := c.t.d.def_ 38 (d := d__law_are_ints) (by rfl)
  obtain ⟨fd__law_is_flow, F__law_is_flow⟩ := c.t.d.def_ 39 (d := d__law_is_flow) (by rfl)
  obtain ⟨fd__law_is_row, F__law_is_row⟩ := c.t.d.def_ 40 (d := d__law_is_row) (by rfl)
  obtain ⟨fd__law_is_certain, F__law_is_certain⟩ := c.t.d.def_ 41 (d := d__law_is_certain) (by rfl)
  obtain ⟨fd__law_step, F__law_step⟩ := c.t.d.def_ 42 (d := d__law_step) (by rfl)
  obtain ⟨fd__law_walk_of, F__law_walk_of⟩ := c.t.d.def_ 43 (d := d__law_walk_of) (by rfl)
  obtain ⟨fd__law_great_told, F__law_great_told⟩ := c.t.d.def_ 44 (d := d__law_great_told) (by rfl)
  obtain ⟨fd__law_is_right, F__law_is_right⟩ := c.t.d.def_ 45 (d := d__law_is_right) (by rfl)
  obtain ⟨fd_law, F_law⟩ := c.t.d.def_ 46 (d := d_law) (by rfl)
  have e := hfa.symm.trans (He.glo_ok X G (c.t.d.fact 36 (f := .glo "law") (by rfl)))
  cases e
  have b_law := FunD.bindsA (ps := ["_law_script"]) F_law fun _ _ _ _ _ _ us hl => match us, hl with | [_], _ => rfl
  refine ⟨fd_law, fun s v => b_law s [v] rfl, fun base _ _ => ?_⟩
  have o_is_integer : FnOk P w K mg base CX0 1 _ fd_is_integer ["thing"] (sp_is_integer K ⟨He.ga K "Program", He.ga K "Tableau", He.ga K "WORLDS", P, w⟩) := ok_is_integer C T F_is_integer 
  have b_is_integer : Binds K fd_is_integer ["thing"] [] := F_is_integer.bindsN fun _ _ _ _ _ _ us hl => match us, hl with | [_], _ => rfl
  have f_is_integer : Cal P w K mg base "is_integer" 1 ["thing"] (sp_is_integer K ⟨He.ga K "Program", He.ga K "Tableau", He.ga K "WORLDS", P, w⟩) := ⟨_, fd_is_integer, o_is_integer, He.glo_ok X G (c.t.d.fact 0 (f := .glo "is_integer") (by rfl)), F_is_integer.kp, b_is_integer⟩
  have o_is_within : FnOk P w K mg base CX0 2 _ fd_is_within ["thing", "least", "most"] (sp_is_within K ⟨He.ga K "Program", He.ga K "Tableau", He.ga K "WORLDS", P, w⟩) := ok_is_within C T F_is_within f_is_integer
  have b_is_within : Binds K fd_is_within ["thing", "least", "most"] [] := F_is_within.bindsN fun _ _ _ _ _ _ us hl => match us, hl with | [_, _, _], _ => rfl
  have f_is_within : Cal P w K mg base "is_within" 2 ["thing", "least", "most"] (sp_is_within K ⟨He.ga K "Program", He.ga K "Tableau", He.ga K "WORLDS", P, w⟩) := ⟨_, fd_is_within, o_is_within, He.glo_ok X G (c.t.d.fact 1 (f := .glo "is_within") (by rfl)), F_is_within.kp, b_is_within⟩
  have o_is_triple : FnOk P w K mg base CX0 1 _ fd_is_triple ["thing"] (sp_is_triple K ⟨He.ga K "Program", He.ga K "Tableau", He.ga K "WORLDS", P, w⟩) := ok_is_triple C T F_is_triple 
  have b_is_triple : Binds K fd_is_triple ["thing"] [] := F_is_triple.bindsN fun _ _ _ _ _ _ us hl => match us, hl with | [_], _ => rfl
  have f_is_triple : Cal P w K mg base "is_triple" 1 ["thing"] (sp_is_triple K ⟨He.ga K "Program", He.ga K "Tableau", He.ga K "WORLDS", P, w⟩) := ⟨_, fd_is_triple, o_is_triple, He.glo_ok X G (c.t.d.fact 2 (f := .glo "is_triple") (by rfl)), F_is_triple.kp, b_is_triple⟩
  have o_are_integers : FnOk P w K mg base CX0 2 _ fd_are_integers ["thing", "many"] (sp_are_integers K ⟨He.ga K "Program", He.ga K "Tableau", He.ga K "WORLDS", P, w⟩) := ok_are_integers C T F_are_integers f_is_integer
  have b_are_integers : Binds K fd_are_integers ["thing", "many"] [] := F_are_integers.bindsN fun _ _ _ _ _ _ us hl => match us, hl with | [_, _], _ => rfl
  have f_are_integers : Cal P w K mg base "are_integers" 2 ["thing", "many"] (sp_are_integers K ⟨He.ga K "Program", He.ga K "Tableau", He.ga K "WORLDS", P, w⟩) := ⟨_, fd_are_integers, o_are_integers, He.glo_ok X G (c.t.d.fact 3 (f := .glo "are_integers") (by rfl)), F_are_integers.kp, b_are_integers⟩
  have o_are_within : FnOk P w K mg base CX0 3 _ fd_are_within ["thing", "many", "least", "most"] (sp_are_within K ⟨He.ga K "Program", He.ga K "Tableau", He.ga K "WORLDS", P, w⟩) := ok_are_within C T F_are_within f_are_integers
  have b_are_within : Binds K fd_are_within ["thing", "many", "least", "most"] [] := F_are_within.bindsN fun _ _ _ _ _ _ us hl => match us, hl with | [_, _, _, _], _ => rfl
  have f_are_within : Cal P w K mg base "are_within" 3 ["thing", "many", "least", "most"] (sp_are_within K ⟨He.ga K "Program", He.ga K "Tableau", He.ga K "WORLDS", P, w⟩) := ⟨_, fd_are_within, o_are_within, He.glo_ok X G (c.t.d.fact 4 (f := .glo "are_within") (by rfl)), F_are_within.kp, b_are_within⟩
  have o_is_lot_below : FnOk P w K mg base CX0 3 _ fd_is_lot_below ["thing", "many"] (sp_is_lot_below K ⟨He.ga K "Program", He.ga K "Tableau", He.ga K "WORLDS", P, w⟩) := ok_is_lot_below C T F_is_lot_below f_is_within
  have b_is_lot_below : Binds K fd_is_lot_below ["thing", "many"] [] := F_is_lot_below.bindsN fun _ _ _ _ _ _ us hl => match us, hl with | [_, _], _ => rfl
  have f_is_lot_below : Cal P w K mg base "is_lot_below" 3 ["thing", "many"] (sp_is_lot_below K ⟨He.ga K "Program", He.ga K "Tableau", He.ga K "WORLDS", P, w⟩) := ⟨_, fd_is_lot_below, o_is_lot_below, He.glo_ok X G (c.t.d.fact 5 (f := .glo "is_lot_below") (by rfl)), F_is_lot_below.kp, b_is_lot_below⟩
  have o_check_world : FnOk P w K mg base CX0 1 _ fd_check_world ["thing"] (sp_check_world K ⟨He.ga K "Program", He.ga K "Tableau", He.ga K "WORLDS", P, w⟩) := ok_check_world C T F_check_world 
  have b_check_world : Binds K fd_check_world ["thing"] [] := F_check_world.bindsN fun _ _ _ _ _ _ us hl => match us, hl with | [_], _ => rfl
  have f_check_world : Cal P w K mg base "check_world" 1 ["thing"] (sp_check_world K ⟨He.ga K "Program", He.ga K "Tableau", He.ga K "WORLDS", P, w⟩) := ⟨_, fd_check_world, o_check_world, He.glo_ok X G (c.t.d.fact 6 (f := .glo "check_world") (by rfl)), F_check_world.kp, b_check_world⟩
  have o_divisor : FnOk P w K mg base CX0 1 _ fd_divisor ["one", "other"] (sp_divisor K ⟨He.ga K "Program", He.ga K "Tableau", He.ga K "WORLDS", P, w⟩) := ok_divisor C T F_divisor 
  have b_divisor : Binds K fd_divisor ["one", "other"] [] := F_divisor.bindsN fun _ _ _ _ _ _ us hl => match us, hl with | [_, _], _ => rfl
  have f_divisor : Cal P w K mg base "divisor" 1 ["one", "other"] (sp_divisor K ⟨He.ga K "Program", He.ga K "Tableau", He.ga K "WORLDS", P, w⟩) := ⟨_, fd_divisor, o_divisor, He.glo_ok X G (c.t.d.fact 7 (f := .glo "divisor") (by rfl)), F_divisor.kp, b_divisor⟩
  have o_multiple : FnOk P w K mg base CX0 2 _ fd_multiple ["one", "other"] (sp_multiple K ⟨He.ga K "Program", He.ga K "Tableau", He.ga K "WORLDS", P, w⟩) := ok_multiple C T F_multiple f_divisor
  have b_multiple : Binds K fd_multiple ["one", "other"] [] := F_multiple.bindsN fun _ _ _ _ _ _ us hl => match us, hl with | [_, _], _ => rfl
  have f_multiple : Cal P w K mg base "multiple" 2 ["one", "other"] (sp_multiple K ⟨He.ga K "Program", He.ga K "Tableau", He.ga K "WORLDS", P, w⟩) := ⟨_, fd_multiple, o_multiple, He.glo_ok X G (c.t.d.fact 8 (f := .glo "multiple") (by rfl)), F_multiple.kp, b_multiple⟩
  have o_fraction : FnOk P w K mg base CX0 2 _ fd_fraction ["top", "bottom"] (sp_fraction K ⟨He.ga K "Program", He.ga K "Tableau", He.ga K "WORLDS", P, w⟩) := ok_fraction C T F_fraction f_divisor
  have b_fraction : Binds K fd_fraction ["top", "bottom"] [] := F_fraction.bindsN fun _ _ _ _ _ _ us hl => match us, hl with | [_, _], _ => rfl
  have f_fraction : Cal P w K mg base "fraction" 2 ["top", "bottom"] (sp_fraction K ⟨He.ga K "Program", He.ga K "Tableau", He.ga K "WORLDS", P, w⟩) := ⟨_, fd_fraction, o_fraction, He.glo_ok X G (c.t.d.fact 9 (f := .glo "fraction") (by rfl)), F_fraction.kp, b_fraction⟩
  have o_is_reading : FnOk P w K mg base CX0 4 _ fd_is_reading ["sides", "tables", "thing"] (sp_is_reading K ⟨He.ga K "Program", He.ga K "Tableau", He.ga K "WORLDS", P, w⟩) := ok_is_reading C T F_is_reading f_is_triple f_is_within f_are_within
  have b_is_reading : Binds K fd_is_reading ["sides", "tables", "thing"] [] := F_is_reading.bindsN fun _ _ _ _ _ _ us hl => match us, hl with | [_, _, _], _ => rfl
  have f_is_reading : Cal P w K mg base "is_reading" 4 ["sides", "tables", "thing"] (sp_is_reading K ⟨He.ga K "Program", He.ga K "Tableau", He.ga K "WORLDS", P, w⟩) := ⟨_, fd_is_reading, o_is_reading, He.glo_ok X G (c.t.d.fact 10 (f := .glo "is_reading") (by rfl)), F_is_reading.kp, b_is_reading⟩
  have o_Program_keep : FnOk P w K mg base CX0 1 _ fd_Program_keep ["self", "sides", "tables", "readings"] (sp_Program_keep K ⟨He.ga K "Program", He.ga K "Tableau", He.ga K "WORLDS", P, w⟩) := ok_Program_keep C T F_Program_keep 
  have b_Program_keep : Binds K fd_Program_keep ["self", "sides", "tables", "readings"] [] := F_Program_keep.bindsN fun _ _ _ _ _ _ us hl => match us, hl with | [_, _, _, _], _ => rfl
  have m_Program_keep : MCal P w K mg base (He.ga K "Program") "keep" 1 ["self", "sides", "tables", "readings"] (sp_Program_keep K ⟨He.ga K "Program", He.ga K "Tableau", He.ga K "WORLDS", P, w⟩) := ⟨_, fd_Program_keep, o_Program_keep, He.meth_ok (c.t.d.fact 72 (f := .meth "Program" "keep") (by rfl)), b_Program_keep⟩
  have o_Program_init : FnOk P w K mg base CX0 5 _ fd_Program_init ["self", "sides", "tables", "readings"] (sp_Program_init K ⟨He.ga K "Program", He.ga K "Tableau", He.ga K "WORLDS", P, w⟩) := ok_Program_init C T F_Program_init f_is_within f_is_reading m_Program_keep
  have b_Program_init : Binds K fd_Program_init ["self", "sides", "tables", "readings"] [] := F_Program_init.bindsN fun _ _ _ _ _ _ us hl => match us, hl with | [_, _, _, _], _ => rfl
  have k_Program_init : KCal P w K mg base (He.ga K "Program") "Program" 5 ["self", "sides", "tables", "readings"] (sp_Program_init K ⟨He.ga K "Program", He.ga K "Tableau", He.ga K "WORLDS", P, w⟩) := ⟨_, fd_Program_init, o_Program_init, He.mkr_ok (c.t.d.fact 60 (f := .mkr "Program") (by rfl)), He.glo_ok X G (c.t.d.fact 37 (f := .glo "Program") (by rfl)), b_Program_init⟩
  have o_program_of : FnOk P w K mg base CX0 7 _ fd_program_of ["sides", "tables", "readings"] (sp_program_of K ⟨He.ga K "Program", He.ga K "Tableau", He.ga K "WORLDS", P, w⟩) := ok_program_of C T F_program_of k_Program_init m_Program_keep
  have b_program_of : Binds K fd_program_of ["sides", "tables", "readings"] [] := F_program_of.bindsN fun _ _ _ _ _ _ us hl => match us, hl with | [_, _, _], _ => rfl
  have f_program_of : Cal P w K mg base "program_of" 7 ["sides", "tables", "readings"] (sp_program_of K ⟨He.ga K "Program", He.ga K "Tableau", He.ga K "WORLDS", P, w⟩) := ⟨_, fd_program_of, o_program_of, He.glo_ok X G (c.t.d.fact 11 (f := .glo "program_of") (by rfl)), F_program_of.kp, b_program_of⟩
  have o_check_lot : FnOk P w K mg base CX0 4 _ fd_check_lot ["program", "thing"] (sp_check_lot K ⟨He.ga K "Program", He.ga K "Tableau", He.ga K "WORLDS", P, w⟩) := ok_check_lot C T F_check_lot f_is_lot_below
  have b_check_lot : Binds K fd_check_lot ["program", "thing"] [] := F_check_lot.bindsN fun _ _ _ _ _ _ us hl => match us, hl with | [_, _], _ => rfl
  have f_check_lot : Cal P w K mg base "check_lot" 4 ["program", "thing"] (sp_check_lot K ⟨He.ga K "Program", He.ga K "Tableau", He.ga K "WORLDS", P, w⟩) := ⟨_, fd_check_lot, o_check_lot, He.glo_ok X G (c.t.d.fact 12 (f := .glo "check_lot") (by rfl)), F_check_lot.kp, b_check_lot⟩
  have o_beside : FnOk P w K mg base CX0 8 _ fd_beside ["one", "other"] (sp_beside K ⟨He.ga K "Program", He.ga K "Tableau", He.ga K "WORLDS", P, w⟩) := ok_beside C T F_beside f_program_of
  have b_beside : Binds K fd_beside ["one", "other"] [] := F_beside.bindsN fun _ _ _ _ _ _ us hl => match us, hl with | [_, _], _ => rfl
  have f_beside : Cal P w K mg base "beside" 8 ["one", "other"] (sp_beside K ⟨He.ga K "Program", He.ga K "Tableau", He.ga K "WORLDS", P, w⟩) := ⟨_, fd_beside, o_beside, He.glo_ok X G (c.t.d.fact 13 (f := .glo "beside") (by rfl)), F_beside.kp, b_beside⟩
  have o_Tableau_init : FnOk P w K mg base CX0 1 _ fd_Tableau_init ["self", "rows", "amounts", "worths"] (sp_Tableau_init K ⟨He.ga K "Program", He.ga K "Tableau", He.ga K "WORLDS", P, w⟩) := ok_Tableau_init C T F_Tableau_init 
  have b_Tableau_init : Binds K fd_Tableau_init ["self", "rows", "amounts", "worths"] [] := F_Tableau_init.bindsN fun _ _ _ _ _ _ us hl => match us, hl with | [_, _, _, _], _ => rfl
  have k_Tableau_init : KCal P w K mg base (He.ga K "Tableau") "Tableau" 1 ["self", "rows", "amounts", "worths"] (sp_Tableau_init K ⟨He.ga K "Program", He.ga K "Tableau", He.ga K "WORLDS", P, w⟩) := ⟨_, fd_Tableau_init, o_Tableau_init, He.mkr_ok (c.t.d.fact 65 (f := .mkr "Tableau") (by rfl)), He.glo_ok X G (c.t.d.fact 38 (f := .glo "Tableau") (by rfl)), b_Tableau_init⟩
  have o_Tableau_step : FnOk P w K mg base CX0 1 _ fd_Tableau_step ["self", "at", "place"] (sp_Tableau_step K ⟨He.ga K "Program", He.ga K "Tableau", He.ga K "WORLDS", P, w⟩) := ok_Tableau_step C T F_Tableau_step 
  have b_Tableau_step : Binds K fd_Tableau_step ["self", "at", "place"] [] := F_Tableau_step.bindsN fun _ _ _ _ _ _ us hl => match us, hl with | [_, _, _], _ => rfl
  have m_Tableau_step : MCal P w K mg base (He.ga K "Tableau") "step" 1 ["self", "at", "place"] (sp_Tableau_step K ⟨He.ga K "Program", He.ga K "Tableau", He.ga K "WORLDS", P, w⟩) := ⟨_, fd_Tableau_step, o_Tableau_step, He.meth_ok (c.t.d.fact 73 (f := .meth "Tableau" "step") (by rfl)), b_Tableau_step⟩
  have o_Tableau_leaving : FnOk P w K mg base CX0 1 _ fd_Tableau_leaving ["self", "place"] (sp_Tableau_leaving K ⟨He.ga K "Program", He.ga K "Tableau", He.ga K "WORLDS", P, w⟩) := ok_Tableau_leaving C T F_Tableau_leaving 
  have b_Tableau_leaving : Binds K fd_Tableau_leaving ["self", "place"] [] := F_Tableau_leaving.bindsN fun _ _ _ _ _ _ us hl => match us, hl with | [_, _], _ => rfl
  have m_Tableau_leaving : MCal P w K mg base (He.ga K "Tableau") "leaving" 1 ["self", "place"] (sp_Tableau_leaving K ⟨He.ga K "Program", He.ga K "Tableau", He.ga K "WORLDS", P, w⟩) := ⟨_, fd_Tableau_leaving, o_Tableau_leaving, He.meth_ok (c.t.d.fact 74 (f := .meth "Tableau" "leaving") (by rfl)), b_Tableau_leaving⟩
  have o_Tableau_entering : FnOk P w K mg base CX0 1 _ fd_Tableau_entering ["self", "number"] (sp_Tableau_entering K ⟨He.ga K "Program", He.ga K "Tableau", He.ga K "WORLDS", P, w⟩) := ok_Tableau_entering C T F_Tableau_entering 
  have b_Tableau_entering : Binds K fd_Tableau_entering ["self", "number"] [] := F_Tableau_entering.bindsN fun _ _ _ _ _ _ us hl => match us, hl with | [_, _], _ => rfl
  have m_Tableau_entering : MCal P w K mg base (He.ga K "Tableau") "entering" 1 ["self", "number"] (sp_Tableau_entering K ⟨He.ga K "Program", He.ga K "Tableau", He.ga K "WORLDS", P, w⟩) := ⟨_, fd_Tableau_entering, o_Tableau_entering, He.meth_ok (c.t.d.fact 75 (f := .meth "Tableau" "entering") (by rfl)), b_Tableau_entering⟩
  have o_Tableau_run : FnOk P w K mg base CX0 2 _ fd_Tableau_run ["self", "number"] (sp_Tableau_run K ⟨He.ga K "Program", He.ga K "Tableau", He.ga K "WORLDS", P, w⟩) := ok_Tableau_run C T F_Tableau_run m_Tableau_entering m_Tableau_leaving m_Tableau_step
  have b_Tableau_run : Binds K fd_Tableau_run ["self", "number"] [] := F_Tableau_run.bindsN fun _ _ _ _ _ _ us hl => match us, hl with | [_, _], _ => rfl
  have m_Tableau_run : MCal P w K mg base (He.ga K "Tableau") "run" 2 ["self", "number"] (sp_Tableau_run K ⟨He.ga K "Program", He.ga K "Tableau", He.ga K "WORLDS", P, w⟩) := ⟨_, fd_Tableau_run, o_Tableau_run, He.meth_ok (c.t.d.fact 76 (f := .meth "Tableau" "run") (by rfl)), b_Tableau_run⟩
  have o_Tableau_clear : FnOk P w K mg base CX0 2 _ fd_Tableau_clear ["self"] (sp_Tableau_clear K ⟨He.ga K "Program", He.ga K "Tableau", He.ga K "WORLDS", P, w⟩) := ok_Tableau_clear C T F_Tableau_clear m_Tableau_step
  have b_Tableau_clear : Binds K fd_Tableau_clear ["self"] [] := F_Tableau_clear.bindsN fun _ _ _ _ _ _ us hl => match us, hl with | [_], _ => rfl
  have m_Tableau_clear : MCal P w K mg base (He.ga K "Tableau") "clear" 2 ["self"] (sp_Tableau_clear K ⟨He.ga K "Program", He.ga K "Tableau", He.ga K "WORLDS", P, w⟩) := ⟨_, fd_Tableau_clear, o_Tableau_clear, He.meth_ok (c.t.d.fact 77 (f := .meth "Tableau" "clear") (by rfl)), b_Tableau_clear⟩
  have o_Tableau_wanted : FnOk P w K mg base CX0 3 _ fd_Tableau_wanted ["self"] (sp_Tableau_wanted K ⟨He.ga K "Program", He.ga K "Tableau", He.ga K "WORLDS", P, w⟩) := ok_Tableau_wanted C T F_Tableau_wanted f_fraction
  have b_Tableau_wanted : Binds K fd_Tableau_wanted ["self"] [] := F_Tableau_wanted.bindsN fun _ _ _ _ _ _ us hl => match us, hl with | [_], _ => rfl
  have m_Tableau_wanted : MCal P w K mg base (He.ga K "Tableau") "wanted" 3 ["self"] (sp_Tableau_wanted K ⟨He.ga K "Program", He.ga K "Tableau", He.ga K "WORLDS", P, w⟩) := ⟨_, fd_Tableau_wanted, o_Tableau_wanted, He.meth_ok (c.t.d.fact 78 (f := .meth "Tableau" "wanted") (by rfl)), b_Tableau_wanted⟩
  have o_Tableau_other_side : FnOk P w K mg base CX0 3 _ fd_Tableau_other_side ["self", "number", "less"] (sp_Tableau_other_side K ⟨He.ga K "Program", He.ga K "Tableau", He.ga K "WORLDS", P, w⟩) := ok_Tableau_other_side C T F_Tableau_other_side f_fraction
  have b_Tableau_other_side : Binds K fd_Tableau_other_side ["self", "number", "less"] [] := F_Tableau_other_side.bindsN fun _ _ _ _ _ _ us hl => match us, hl with | [_, _, _], _ => rfl
  have m_Tableau_other_side : MCal P w K mg base (He.ga K "Tableau") "other_side" 3 ["self", "number", "less"] (sp_Tableau_other_side K ⟨He.ga K "Program", He.ga K "Tableau", He.ga K "WORLDS", P, w⟩) := ⟨_, fd_Tableau_other_side, o_Tableau_other_side, He.meth_ok (c.t.d.fact 79 (f := .meth "Tableau" "other_side") (by rfl)), b_Tableau_other_side⟩
  have o_solved : FnOk P w K mg base CX0 4 _ fd_solved ["rows", "amounts", "worths"] (sp_solved K ⟨He.ga K "Program", He.ga K "Tableau", He.ga K "WORLDS", P, w⟩) := ok_solved C T F_solved k_Tableau_init m_Tableau_run m_Tableau_clear m_Tableau_wanted m_Tableau_other_side
  have b_solved : Binds K fd_solved ["rows", "amounts", "worths"] [] := F_solved.bindsN fun _ _ _ _ _ _ us hl => match us, hl with | [_, _, _], _ => rfl
  have f_solved : Cal P w K mg base "solved" 4 ["rows", "amounts", "worths"] (sp_solved K ⟨He.ga K "Program", He.ga K "Tableau", He.ga K "WORLDS", P, w⟩) := ⟨_, fd_solved, o_solved, He.glo_ok X G (c.t.d.fact 14 (f := .glo "solved") (by rfl)), F_solved.kp, b_solved⟩
  have o_column_of : FnOk P w K mg base CX0 1 _ fd_column_of ["program", "number"] (sp_column_of K ⟨He.ga K "Program", He.ga K "Tableau", He.ga K "WORLDS", P, w⟩) := ok_column_of C T F_column_of 
  have b_column_of : Binds K fd_column_of ["program", "number"] [] := F_column_of.bindsN fun _ _ _ _ _ _ us hl => match us, hl with | [_, _], _ => rfl
  have f_column_of : Cal P w K mg base "column_of" 1 ["program", "number"] (sp_column_of K ⟨He.ga K "Program", He.ga K "Tableau", He.ga K "WORLDS", P, w⟩) := ⟨_, fd_column_of, o_column_of, He.glo_ok X G (c.t.d.fact 15 (f := .glo "column_of") (by rfl)), F_column_of.kp, b_column_of⟩
  have o_far_columns : FnOk P w K mg base CX0 1 _ fd_far_columns ["program", "world"] (sp_far_columns K ⟨He.ga K "Program", He.ga K "Tableau", He.ga K "WORLDS", P, w⟩) := ok_far_columns C T F_far_columns 
  have b_far_columns : Binds K fd_far_columns ["program", "world"] [] := F_far_columns.bindsN fun _ _ _ _ _ _ us hl => match us, hl with | [_, _], _ => rfl
  have f_far_columns : Cal P w K mg base "far_columns" 1 ["program", "world"] (sp_far_columns K ⟨He.ga K "Program", He.ga K "Tableau", He.ga K "WORLDS", P, w⟩) := ⟨_, fd_far_columns, o_far_columns, He.glo_ok X G (c.t.d.fact 16 (f := .glo "far_columns") (by rfl)), F_far_columns.kp, b_far_columns⟩
  have o_task_of : FnOk P w K mg base CX0 2 _ fd_task_of ["program", "lot", "world"] (sp_task_of K ⟨He.ga K "Program", He.ga K "Tableau", He.ga K "WORLDS", P, w⟩) := ok_task_of C T F_task_of f_column_of f_far_columns
  have b_task_of : Binds K fd_task_of ["program", "lot", "world"] [] := F_task_of.bindsN fun _ _ _ _ _ _ us hl => match us, hl with | [_, _, _], _ => rfl
  have f_task_of : Cal P w K mg base "task_of" 2 ["program", "lot", "world"] (sp_task_of K ⟨He.ga K "Program", He.ga K "Tableau", He.ga K "WORLDS", P, w⟩) := ⟨_, fd_task_of, o_task_of, He.glo_ok X G (c.t.d.fact 17 (f := .glo "task_of") (by rfl)), F_task_of.kp, b_task_of⟩
  have o_common_bottom : FnOk P w K mg base CX0 3 _ fd_common_bottom ["shares"] (sp_common_bottom K ⟨He.ga K "Program", He.ga K "Tableau", He.ga K "WORLDS", P, w⟩) := ok_common_bottom C T F_common_bottom f_multiple
  have b_common_bottom : Binds K fd_common_bottom ["shares"] [] := F_common_bottom.bindsN fun _ _ _ _ _ _ us hl => match us, hl with | [_], _ => rfl
  have f_common_bottom : Cal P w K mg base "common_bottom" 3 ["shares"] (sp_common_bottom K ⟨He.ga K "Program", He.ga K "Tableau", He.ga K "WORLDS", P, w⟩) := ⟨_, fd_common_bottom, o_common_bottom, He.glo_ok X G (c.t.d.fact 18 (f := .glo "common_bottom") (by rfl)), F_common_bottom.kp, b_common_bottom⟩
  have o_whole : FnOk P w K mg base CX0 4 _ fd_whole ["shares"] (sp_whole K ⟨He.ga K "Program", He.ga K "Tableau", He.ga K "WORLDS", P, w⟩) := ok_whole C T F_whole f_common_bottom
  have b_whole : Binds K fd_whole ["shares"] [] := F_whole.bindsN fun _ _ _ _ _ _ us hl => match us, hl with | [_], _ => rfl
  have f_whole : Cal P w K mg base "whole" 4 ["shares"] (sp_whole K ⟨He.ga K "Program", He.ga K "Tableau", He.ga K "WORLDS", P, w⟩) := ⟨_, fd_whole, o_whole, He.glo_ok X G (c.t.d.fact 19 (f := .glo "whole") (by rfl)), F_whole.kp, b_whole⟩
  have o_common_bottom_l : FnOk P w K mg base CX0 3 _ fd_common_bottom ["shares"] (sp_common_bottom_l K ⟨He.ga K "Program", He.ga K "Tableau", He.ga K "WORLDS", P, w⟩) := ok_common_bottom_l C T F_common_bottom f_multiple
  have b_common_bottom_l : Binds K fd_common_bottom ["shares"] [] := F_common_bottom.bindsN fun _ _ _ _ _ _ us hl => match us, hl with | [_], _ => rfl
  have f_common_bottom_l : Cal P w K mg base "common_bottom" 3 ["shares"] (sp_common_bottom_l K ⟨He.ga K "Program", He.ga K "Tableau", He.ga K "WORLDS", P, w⟩) := ⟨_, fd_common_bottom, o_common_bottom_l, He.glo_ok X G (c.t.d.fact 18 (f := .glo "common_bottom") (by rfl)), F_common_bottom.kp, b_common_bottom_l⟩
  have o_whole_l : FnOk P w K mg base CX0 4 _ fd_whole ["shares"] (sp_whole_l K ⟨He.ga K "Program", He.ga K "Tableau", He.ga K "WORLDS", P, w⟩) := ok_whole_l C T F_whole f_common_bottom_l
  have b_whole_l : Binds K fd_whole ["shares"] [] := F_whole.bindsN fun _ _ _ _ _ _ us hl => match us, hl with | [_], _ => rfl
  have f_whole_l : Cal P w K mg base "whole" 4 ["shares"] (sp_whole_l K ⟨He.ga K "Program", He.ga K "Tableau", He.ga K "WORLDS", P, w⟩) := ⟨_, fd_whole, o_whole_l, He.glo_ok X G (c.t.d.fact 19 (f := .glo "whole") (by rfl)), F_whole.kp, b_whole_l⟩
  have o_told_of : FnOk P w K mg base CX0 5 _ fd_told_of ["program", "lot", "world"] (sp_told_of K ⟨He.ga K "Program", He.ga K "Tableau", He.ga K "WORLDS", P, w⟩) := ok_told_of C T F_told_of f_task_of f_solved f_whole_l f_whole
  have b_told_of : Binds K fd_told_of ["program", "lot", "world"] [] := F_told_of.bindsN fun _ _ _ _ _ _ us hl => match us, hl with | [_, _, _], _ => rfl
  have f_told_of : Cal P w K mg base "told_of" 5 ["program", "lot", "world"] (sp_told_of K ⟨He.ga K "Program", He.ga K "Tableau", He.ga K "WORLDS", P, w⟩) := ⟨_, fd_told_of, o_told_of, He.glo_ok X G (c.t.d.fact 20 (f := .glo "told_of") (by rfl)), F_told_of.kp, b_told_of⟩
  have o_check_asked : FnOk P w K mg base CX0 5 _ fd_check_asked ["program", "lot", "world"] (sp_check_asked K ⟨He.ga K "Program", He.ga K "Tableau", He.ga K "WORLDS", P, w⟩) := ok_check_asked C T F_check_asked f_check_lot f_check_world
  have b_check_asked : Binds K fd_check_asked ["program", "lot", "world"] [] := F_check_asked.bindsN fun _ _ _ _ _ _ us hl => match us, hl with | [_, _, _], _ => rfl
  have f_check_asked : Cal P w K mg base "check_asked" 5 ["program", "lot", "world"] (sp_check_asked K ⟨He.ga K "Program", He.ga K "Tableau", He.ga K "WORLDS", P, w⟩) := ⟨_, fd_check_asked, o_check_asked, He.glo_ok X G (c.t.d.fact 21 (f := .glo "check_asked") (by rfl)), F_check_asked.kp, b_check_asked⟩
  have o_kept : FnOk P w K mg base CX0 6 _ fd_kept ["program", "lot", "world"] (sp_kept K ⟨He.ga K "Program", He.ga K "Tableau", He.ga K "WORLDS", P, w⟩) := ok_kept C T F_kept f_check_asked f_told_of
  have b_kept : Binds K fd_kept ["program", "lot", "world"] [] := F_kept.bindsN fun _ _ _ _ _ _ us hl => match us, hl with | [_, _, _], _ => rfl
  have f_kept : Cal P w K mg base "kept" 6 ["program", "lot", "world"] (sp_kept K ⟨He.ga K "Program", He.ga K "Tableau", He.ga K "WORLDS", P, w⟩) := ⟨_, fd_kept, o_kept, He.glo_ok X G (c.t.d.fact 22 (f := .glo "kept") (by rfl)), F_kept.kp, b_kept⟩
  have o_flow : FnOk P w K mg base CX0 6 _ fd_flow ["program", "lot", "world"] (sp_flow K ⟨He.ga K "Program", He.ga K "Tableau", He.ga K "WORLDS", P, w⟩) := ok_flow C T F_flow f_check_asked f_told_of
  have b_flow : Binds K fd_flow ["program", "lot", "world"] [] := F_flow.bindsN fun _ _ _ _ _ _ us hl => match us, hl with | [_, _, _], _ => rfl
  have f_flow : Cal P w K mg base "flow" 6 ["program", "lot", "world"] (sp_flow K ⟨He.ga K "Program", He.ga K "Tableau", He.ga K "WORLDS", P, w⟩) := ⟨_, fd_flow, o_flow, He.glo_ok X G (c.t.d.fact 23 (f := .glo "flow") (by rfl)), F_flow.kp, b_flow⟩
  have o_row : FnOk P w K mg base CX0 6 _ fd_row ["program", "lot", "world"] (sp_row K ⟨He.ga K "Program", He.ga K "Tableau", He.ga K "WORLDS", P, w⟩) := ok_row C T F_row f_check_asked f_told_of
  have b_row : Binds K fd_row ["program", "lot", "world"] [] := F_row.bindsN fun _ _ _ _ _ _ us hl => match us, hl with | [_, _, _], _ => rfl
  have f_row : Cal P w K mg base "row" 6 ["program", "lot", "world"] (sp_row K ⟨He.ga K "Program", He.ga K "Tableau", He.ga K "WORLDS", P, w⟩) := ⟨_, fd_row, o_row, He.glo_ok X G (c.t.d.fact 24 (f := .glo "row") (by rfl)), F_row.kp, b_row⟩
  have o__law_pool : FnOk P w K mg base CX0 1 _ fd__law_pool ["_law_script"] (sp__law_pool K ⟨He.ga K "Program", He.ga K "Tableau", He.ga K "WORLDS", P, w⟩) := ok__law_pool C T F__law_pool 
  have b__law_pool : Binds K fd__law_pool ["_law_script"] [] := F__law_pool.bindsN fun _ _ _ _ _ _ us hl => match us, hl with | [_], _ => rfl
  have f__law_pool : Cal P w K mg base "_law_pool" 1 ["_law_script"] (sp__law_pool K ⟨He.ga K "Program", He.ga K "Tableau", He.ga K "WORLDS", P, w⟩) := ⟨_, fd__law_pool, o__law_pool, He.glo_ok X G (c.t.d.fact 25 (f := .glo "_law_pool") (by rfl)), F__law_pool.kp, b__law_pool⟩
  have o__law_draw : FnOk P w K mg base CX0 1 _ fd__law_draw ["_law_pool_here", "_law_many"] (sp__law_draw K ⟨He.ga K "Program", He.ga K "Tableau", He.ga K "WORLDS", P, w⟩) := ok__law_draw C T F__law_draw 
  have b__law_draw : Binds K fd__law_draw ["_law_pool_here", "_law_many"] [] := F__law_draw.bindsN fun _ _ _ _ _ _ us hl => match us, hl with | [_, _], _ => rfl
  have f__law_draw : Cal P w K mg base "_law_draw" 1 ["_law_pool_here", "_law_many"] (sp__law_draw K ⟨He.ga K "Program", He.ga K "Tableau", He.ga K "WORLDS", P, w⟩) := ⟨_, fd__law_draw, o__law_draw, He.glo_ok X G (c.t.d.fact 26 (f := .glo "_law_draw") (by rfl)), F__law_draw.kp, b__law_draw⟩
  have o__law_is_int : FnOk P w K mg base CX0 1 _ fd__law_is_int ["_law_thing"] (sp__law_is_int K ⟨He.ga K "Program", He.ga K "Tableau", He.ga K "WORLDS", P, w⟩) := ok__law_is_int C T F__law_is_int 
  have b__law_is_int : Binds K fd__law_is_int ["_law_thing"] [] := F__law_is_int.bindsN fun _ _ _ _ _ _ us hl => match us, hl with | [_], _ => rfl
  have f__law_is_int : Cal P w K mg base "_law_is_int" 1 ["_law_thing"] (sp__law_is_int K ⟨He.ga K "Program", He.ga K "Tableau", He.ga K "WORLDS", P, w⟩) := ⟨_, fd__law_is_int, o__law_is_int, He.glo_ok X G (c.t.d.fact 27 (f := .glo "_law_is_int") (by rfl)), F__law_is_int.kp, b__law_is_int⟩
  have o__law_are_ints : FnOk P w K mg base CX0 2 _ fd__law_are_ints ["_law_things", "_law_many"] (sp__law_are_ints K ⟨He.ga K "Program", He.ga K "Tableau", He.ga K "WORLDS", P, w⟩) := ok__law_are_ints C T F__law_are_ints f__law_is_int
  have b__law_are_ints : Binds K fd__law_are_ints ["_law_things", "_law_many"] [] := F__law_are_ints.bindsN fun _ _ _ _ _ _ us hl => match us, hl with | [_, _], _ => rfl
  have f__law_are_ints : Cal P w K mg base "_law_are_ints" 2 ["_law_things", "_law_many"] (sp__law_are_ints K ⟨He.ga K "Program", He.ga K "Tableau", He.ga K "WORLDS", P, w⟩) := ⟨_, fd__law_are_ints, o__law_are_ints, He.glo_ok X G (c.t.d.fact 28 (f := .glo "_law_are_ints") (by rfl)), F__law_are_ints.kp, b__law_are_ints⟩
  have o__law_is_flow : FnOk P w K mg base CX0 3 _ fd__law_is_flow ["_law_told", "_law_lot", "_law_world", "_law_thing"] (sp__law_is_flow K ⟨He.ga K "Program", He.ga K "Tableau", He.ga K "WORLDS", P, w⟩) := ok__law_is_flow C T F__law_is_flow f__law_are_ints
  have b__law_is_flow : Binds K fd__law_is_flow ["_law_told", "_law_lot", "_law_world", "_law_thing"] [] := F__law_is_flow.bindsN fun _ _ _ _ _ _ us hl => match us, hl with | [_, _, _, _], _ => rfl
  have f__law_is_flow : Cal P w K mg base "_law_is_flow" 3 ["_law_told", "_law_lot", "_law_world", "_law_thing"] (sp__law_is_flow K ⟨He.ga K "Program", He.ga K "Tableau", He.ga K "WORLDS", P, w⟩) := ⟨_, fd__law_is_flow, o__law_is_flow, He.glo_ok X G (c.t.d.fact 29 (f := .glo "_law_is_flow") (by rfl)), F__law_is_flow.kp, b__law_is_flow⟩
  have o__law_is_row : FnOk P w K mg base CX0 3 _ fd__law_is_row ["_law_told", "_law_lot", "_law_world", "_law_keep", "_law_thing"] (sp__law_is_row K ⟨He.ga K "Program", He.ga K "Tableau", He.ga K "WORLDS", P, w⟩) := ok__law_is_row C T F__law_is_row f__law_are_ints
  have b__law_is_row : Binds K fd__law_is_row ["_law_told", "_law_lot", "_law_world", "_law_keep", "_law_thing"] [] := F__law_is_row.bindsN fun _ _ _ _ _ _ us hl => match us, hl with | [_, _, _, _, _], _ => rfl
  have f__law_is_row : Cal P w K mg base "_law_is_row" 3 ["_law_told", "_law_lot", "_law_world", "_law_keep", "_law_thing"] (sp__law_is_row K ⟨He.ga K "Program", He.ga K "Tableau", He.ga K "WORLDS", P, w⟩) := ⟨_, fd__law_is_row, o__law_is_row, He.glo_ok X G (c.t.d.fact 30 (f := .glo "_law_is_row") (by rfl)), F__law_is_row.kp, b__law_is_row⟩
  have o__law_is_certain : FnOk P w K mg base CX0 4 _ fd__law_is_certain ["_law_told", "_law_lot", "_law_world", "_law_keep", "_law_amounts", "_law_later"] (sp__law_is_certain K ⟨He.ga K "Program", He.ga K "Tableau", He.ga K "WORLDS", P, w⟩) := ok__law_is_certain C T F__law_is_certain f__law_are_ints f__law_is_flow f__law_is_row
  have b__law_is_certain : Binds K fd__law_is_certain ["_law_told", "_law_lot", "_law_world", "_law_keep", "_law_amounts", "_law_later"] [] := F__law_is_certain.bindsN fun _ _ _ _ _ _ us hl => match us, hl with | [_, _, _, _, _, _], _ => rfl
  have f__law_is_certain : Cal P w K mg base "_law_is_certain" 4 ["_law_told", "_law_lot", "_law_world", "_law_keep", "_law_amounts", "_law_later"] (sp__law_is_certain K ⟨He.ga K "Program", He.ga K "Tableau", He.ga K "WORLDS", P, w⟩) := ⟨_, fd__law_is_certain, o__law_is_certain, He.glo_ok X G (c.t.d.fact 31 (f := .glo "_law_is_certain") (by rfl)), F__law_is_certain.kp, b__law_is_certain⟩
  have o__law_step : FnOk P w K mg base CX0 2 _ fd__law_step ["_law_pool_here", "_law_sides"] (sp__law_step K ⟨He.ga K "Program", He.ga K "Tableau", He.ga K "WORLDS", P, w⟩) := ok__law_step C T F__law_step f__law_draw
  have b__law_step : Binds K fd__law_step ["_law_pool_here", "_law_sides"] [] := F__law_step.bindsN fun _ _ _ _ _ _ us hl => match us, hl with | [_, _], _ => rfl
  have f__law_step : Cal P w K mg base "_law_step" 2 ["_law_pool_here", "_law_sides"] (sp__law_step K ⟨He.ga K "Program", He.ga K "Tableau", He.ga K "WORLDS", P, w⟩) := ⟨_, fd__law_step, o__law_step, He.glo_ok X G (c.t.d.fact 32 (f := .glo "_law_step") (by rfl)), F__law_step.kp, b__law_step⟩
  have o__law_walk_of : FnOk P w K mg base CX0 3 _ fd__law_walk_of ["_law_pool_here", "_law_sides", "_law_tables"] (sp__law_walk_of K ⟨He.ga K "Program", He.ga K "Tableau", He.ga K "WORLDS", P, w⟩) := ok__law_walk_of C T F__law_walk_of f__law_draw f__law_step
  have b__law_walk_of : Binds K fd__law_walk_of ["_law_pool_here", "_law_sides", "_law_tables"] [] := F__law_walk_of.bindsN fun _ _ _ _ _ _ us hl => match us, hl with | [_, _, _], _ => rfl
  have f__law_walk_of : Cal P w K mg base "_law_walk_of" 3 ["_law_pool_here", "_law_sides", "_law_tables"] (sp__law_walk_of K ⟨He.ga K "Program", He.ga K "Tableau", He.ga K "WORLDS", P, w⟩) := ⟨_, fd__law_walk_of, o__law_walk_of, He.glo_ok X G (c.t.d.fact 33 (f := .glo "_law_walk_of") (by rfl)), F__law_walk_of.kp, b__law_walk_of⟩
  have o__law_great_told : FnOk P w K mg base CX0 4 _ fd__law_great_told ["_law_pool_here", "_law_wide"] (sp__law_great_told K ⟨He.ga K "Program", He.ga K "Tableau", He.ga K "WORLDS", P, w⟩) := ok__law_great_told C T F__law_great_told f__law_draw f__law_walk_of f__law_step
  have b__law_great_told : Binds K fd__law_great_told ["_law_pool_here", "_law_wide"] [] := F__law_great_told.bindsN fun _ _ _ _ _ _ us hl => match us, hl with | [_, _], _ => rfl
  have f__law_great_told : Cal P w K mg base "_law_great_told" 4 ["_law_pool_here", "_law_wide"] (sp__law_great_told K ⟨He.ga K "Program", He.ga K "Tableau", He.ga K "WORLDS", P, w⟩) := ⟨_, fd__law_great_told, o__law_great_told, He.glo_ok X G (c.t.d.fact 34 (f := .glo "_law_great_told") (by rfl)), F__law_great_told.kp, b__law_great_told⟩
  have o__law_is_right : FnOk P w K mg base CX0 7 _ fd__law_is_right ["_law_told", "_law_lot", "_law_world", "_law_program"] (sp__law_is_right K ⟨He.ga K "Program", He.ga K "Tableau", He.ga K "WORLDS", P, w⟩) := ok__law_is_right C T F__law_is_right f_kept f__law_is_certain f_flow f_row
  have b__law_is_right : Binds K fd__law_is_right ["_law_told", "_law_lot", "_law_world", "_law_program"] [] := F__law_is_right.bindsN fun _ _ _ _ _ _ us hl => match us, hl with | [_, _, _, _], _ => rfl
  have f__law_is_right : Cal P w K mg base "_law_is_right" 7 ["_law_told", "_law_lot", "_law_world", "_law_program"] (sp__law_is_right K ⟨He.ga K "Program", He.ga K "Tableau", He.ga K "WORLDS", P, w⟩) := ⟨_, fd__law_is_right, o__law_is_right, He.glo_ok X G (c.t.d.fact 35 (f := .glo "_law_is_right") (by rfl)), F__law_is_right.kp, b__law_is_right⟩
  have o_law : FnOk P w K mg base CX0 9 _ fd_law ["_law_script"] (sp_law K ⟨He.ga K "Program", He.ga K "Tableau", He.ga K "WORLDS", P, w⟩) := ok_law C T F_law f__law_pool f__law_great_told f__law_draw k_Program_init f_beside f__law_is_right
  exact o_law
end TW
set_option maxHeartbeats 0
namespace TW
open PySem PySem.Spec PyProof.Rows L2
abbrev R : PySem.W.OpenRow := PySem.W.OpenLaw.row PySem.Challenge.rw_turnsneeded_k37_whole_great_programs
abbrev hk : PySem.W.Hook := He.hookX 5 fa fn [] [] exW
def ob (s : PySem.W.SharedT) : He.AlX := He.obsX 5 fa fn [] [] exW (HandSHeadRun.getT s)
theorem ob_eq (s : PySem.W.SharedT) : ob s = hk.obs s.abs := He.obsX_eq (HandSHeadRun.getT_eq s)
theorem run (w : World) : HandSHeadRun.RunEq R (PySem.W.view R.prog [55]) hk ob 3600 loose w := by
  intro os
  kernel_rfl
end TW
set_option maxHeartbeats 0
open PySem PySem.W PySem.Calls PyProof.Rows
theorem PySem.Challenge.cw_turnsneeded_k37_whole_great_programs_holds : PySem.Challenge.rw_turnsneeded_k37_whole_great_programs.Holds := by
  w_on; o_law
  refine HandSHeadRun.head_any (r := OpenLaw.row PySem.Challenge.rw_turnsneeded_k37_whole_great_programs) (q := view (OpenLaw.row PySem.Challenge.rw_turnsneeded_k37_whole_great_programs).prog [55]) (H := TW.hk) (ob := TW.ob) (M := 3600) (loose := TW.loose)
    (d := HandSHeadRun.topDef (OpenLaw.row PySem.Challenge.rw_turnsneeded_k37_whole_great_programs).prog 55) (kwd := []) TW.ob_eq (by kernel_rfl) (fun s => by kernel_rfl) TW.run (by kernel_rfl) (by kernel_rfl) (by kernel_rfl) (by rfl) (by first | assumption | decide +kernel) (by decide +kernel)
    ⟨rfl, rfl, rfl, rfl, rfl, by decide +kernel⟩ ?hw ?hc
  case hw => w_witness2
  case hc =>
    refine L2.walk_ofE (l := PySem.Challenge.rw_turnsneeded_k37_whole_great_programs) (n := 63) (k := 9) (x := "_law_script") (CX := L2.CX0) rfl (by decide) (by kernel_rfl) ⟨rfl, by decide, by decide⟩ ?F (fun _ _ _ _ z => z)
    intro w mg fa h Y G hmg0
    obtain ⟨K, KX, c⟩ := Y
    have hmg : mg ("law" : PySem.Str) = some (.ref fa) := by
      have e : (HandSHeadRun.topDef (OpenLaw.row PySem.Challenge.rw_turnsneeded_k37_whole_great_programs).prog 55).name = ("law" : PySem.Str) := by kernel_rfl
      rw [← e]
      exact hmg0
    obtain ⟨fd, hb, hF⟩ := TW.facts (P := (PySem.Challenge.rw_turnsneeded_k37_whole_great_programs).prog) (w := w) KX G hmg c
    exact ⟨K, fd, TW.sp_law K _, KX, hb, fun H a ns hl _ hS => ⟨a, ns, rfl, hS, hl, fun _ => rfl⟩, hF⟩
