import PyProof.Rows.All
import Wide.All
import OpenK.AllK
import Wide.FinOn
import KE.KStateDown
import KE.GoesEnum
import HandS.ForMost
import HandS.IsInst
import HandS.Gcd
import HandS.Wide
import HandS.WideMore
import HandS.Star
import HandS.Defaults
import HandS.TupMul
import HandS.TupAny
import HandS.RaiseMore
import HandS.Conv
import HandS.Codes
import HandS.Zip
import HandS.Walk
import HandS.Flow
import HandS.Exc
import HandS.OwnEq
import HandS.Head0
import HandS.Head1
import HandS.Head2
import HandS.HeadEnd
import HandS.HeadHook1
import HandS.HeadHook2
import HandS.Deep
import PyProof.InstNe
import HandS.Style
import HandS.TupLe
import HandS.Small
import KE.KCallOwn
import HandS.Head3
import PySem.Challenge.RW_rowcounts_k35_whole_points_or_clashes
import HandS.Records
import Lean
set_option Elab.async false
set_option linter.all false
set_option maxRecDepth 100000
set_option maxHeartbeats 0
namespace Sx
/-! sums over the first numbers -/
def sm (f : Nat → Int) : Nat → Int
  | 0 => 0
  | n + 1 => sm f n + f n
theorem sm_congr {f g : Nat → Int} : ∀ {n : Nat}, (∀ k, k < n → f k = g k) → sm f n = sm g n
  | 0, _ => rfl
  | n + 1, h => by
    show sm f n + f n = sm g n + g n
    rw [sm_congr (fun k hk => h k (Nat.lt_succ_of_lt hk)), h n (Nat.lt_succ_self n)]
theorem sm_add (f g : Nat → Int) : ∀ n, sm (fun k => f k + g k) n = sm f n + sm g n
  | 0 => rfl
  | n + 1 => by
    show sm (fun k => f k + g k) n + (f n + g n) = (sm f n + f n) + (sm g n + g n)
    rw [sm_add f g n]; omega
theorem sm_sub (f g : Nat → Int) : ∀ n, sm (fun k => f k - g k) n = sm f n - sm g n
  | 0 => rfl
  | n + 1 => by
    show sm (fun k => f k - g k) n + (f n - g n) = (sm f n + f n) - (sm g n + g n)
    rw [sm_sub f g n]; omega
theorem sm_mul (a : Int) (f : Nat → Int) : ∀ n, sm (fun k => a * f k) n = a * sm f n
  | 0 => (Int.mul_zero a).symm
  | n + 1 => by
    show sm (fun k => a * f k) n + a * f n = a * (sm f n + f n)
    rw [sm_mul a f n, Int.mul_add]
theorem sm_zero {f : Nat → Int} : ∀ {n : Nat}, (∀ k, k < n → f k = 0) → sm f n = 0
  | 0, _ => rfl
  | n + 1, h => by
    show sm f n + f n = 0
    rw [sm_zero (fun k hk => h k (Nat.lt_succ_of_lt hk)), h n (Nat.lt_succ_self n)]; rfl
theorem sm_one {f : Nat → Int} {i : Nat} : ∀ {n : Nat}, i < n → (∀ k, k < n → k ≠ i → f k = 0) → sm f n = f i
  | 0, h, _ => absurd h (Nat.not_lt_zero _)
  | n + 1, hi, h => by
    show sm f n + f n = f i
    by_cases e : i = n
    · subst e
      rw [sm_zero (fun k hk => h k (Nat.lt_succ_of_lt hk) (Nat.ne_of_lt hk))]; omega
    · rw [sm_one (n := n) (by omega) (fun k hk => h k (Nat.lt_succ_of_lt hk)), h n (Nat.lt_succ_self n) (fun z => e z.symm)]; omega
theorem sm_comm (f : Nat → Nat → Int) (m : Nat) : ∀ n, sm (fun i => sm (fun j => f i j) m) n = sm (fun j => sm (fun i => f i j) n) m
  | 0 => by
    show (0 : Int) = sm (fun j => 0) m
    exact (sm_zero fun _ _ => rfl).symm
  | n + 1 => by
    show sm (fun i => sm (fun j => f i j) m) n + sm (fun j => f n j) m = sm (fun j => sm (fun i => f i j) n + f n j) m
    rw [sm_comm f m n, sm_add]
theorem sm_nonneg {f : Nat → Int} : ∀ {n : Nat}, (∀ k, k < n → 0 ≤ f k) → 0 ≤ sm f n
  | 0, _ => Int.le_refl 0
  | n + 1, h => by
    have h1 := sm_nonneg (fun k hk => h k (Nat.lt_succ_of_lt hk))
    have h2 := h n (Nat.lt_succ_self n)
    show 0 ≤ sm f n + f n
    omega
theorem sm_all_zero {f : Nat → Int} : ∀ {n : Nat}, (∀ k, k < n → 0 ≤ f k) → sm f n = 0 → ∀ k, k < n → f k = 0
  | 0, _, _, _, hk => absurd hk (Nat.not_lt_zero _)
  | n + 1, h, e, k, hk => by
    have h1 := sm_nonneg (fun k hk => h k (Nat.lt_succ_of_lt hk))
    have h2 := h n (Nat.lt_succ_self n)
    have e' : sm f n + f n = 0 := e
    by_cases q : k = n
    · subst q; omega
    · exact sm_all_zero (fun k hk => h k (Nat.lt_succ_of_lt hk)) (by omega) k (by omega)
theorem sm_pos_some {f : Nat → Int} : ∀ {n : Nat}, 0 < sm f n → ∃ k, k < n ∧ 0 < f k
  | 0, h => absurd (show (0 : Int) < 0 from h) (by decide)
  | n + 1, h => by
    have h' : 0 < sm f n + f n := h
    by_cases q : 0 < f n
    · exact ⟨n, Nat.lt_succ_self n, q⟩
    · obtain ⟨k, hk, z⟩ := sm_pos_some (f := f) (n := n) (by omega)
      exact ⟨k, Nat.lt_succ_of_lt hk, z⟩
theorem sm_abs {f : Nat → Int} {X : Nat} : ∀ {n : Nat}, (∀ k, k < n → (f k).natAbs ≤ X) → (sm f n).natAbs ≤ n * X
  | 0, _ => by simp [sm]
  | n + 1, h => by
    have h1 := sm_abs (fun k hk => h k (Nat.lt_succ_of_lt hk))
    have h2 := h n (Nat.lt_succ_self n)
    show (sm f n + f n).natAbs ≤ (n + 1) * X
    rw [Nat.succ_mul]
    omega
/-! determinants -/
def mnr (c : Nat → Nat → Int) (i : Nat) : Nat → Nat → Int := fun j k => c (if j < i then j else j + 1) (k + 1)
def sgn (i : Nat) : Int := if i % 2 = 0 then 1 else -1
theorem sgn_succ (i : Nat) : sgn (i + 1) = - sgn i := by
  unfold sgn
  by_cases h : i % 2 = 0
  · rw [if_pos h, if_neg (by omega)]
  · rw [if_neg h, if_pos (by omega)]; rfl
def det : Nat → (Nat → Nat → Int) → Int
  | 0, _ => 1
  | m + 1, c => sm (fun i => sgn i * c i 0 * det m (mnr c i)) (m + 1)
def rep (c : Nat → Nat → Int) (l : Nat) (v : Nat → Int) : Nat → Nat → Int := fun j => if j = l then v else c j
theorem rep_at (c : Nat → Nat → Int) (l : Nat) (v : Nat → Int) : rep c l v l = v := if_pos rfl
theorem rep_ne {c : Nat → Nat → Int} {l j : Nat} (v : Nat → Int) (h : j ≠ l) : rep c l v j = c j := if_neg h
theorem det_congr : ∀ {m : Nat} {c c' : Nat → Nat → Int}, (∀ j, j < m → ∀ k, k < m → c j k = c' j k) → det m c = det m c'
  | 0, _, _, _ => rfl
  | m + 1, c, c', h => by
    show sm _ _ = sm _ _
    refine sm_congr fun i hi => ?_
    rw [h i hi 0 (Nat.succ_pos m), det_congr (m := m) (c := mnr c i) (c' := mnr c' i)]
    intro j hj k hk
    show c _ _ = c' _ _
    refine h _ ?_ _ (by omega)
    split <;> omega
/-- a minor of a replaced column -/
theorem mnr_rep_same (c : Nat → Nat → Int) (l : Nat) (v : Nat → Int) : mnr (rep c l v) l = mnr c l := by
  funext j k
  show rep c l v _ _ = c _ _
  rw [rep_ne v (by split <;> omega)]
theorem mnr_rep_lt {c : Nat → Nat → Int} {l i : Nat} (v : Nat → Int) (h : l < i) : mnr (rep c l v) i = rep (mnr c i) l (fun k => v (k + 1)) := by
  funext j k
  show rep c l v _ _ = rep (mnr c i) l _ j k
  by_cases e : j = l
  · subst e
    rw [if_pos h, rep_at, rep_at]
  · rw [rep_ne _ e, rep_ne v (by split <;> omega)]
    rfl
theorem mnr_rep_gt {c : Nat → Nat → Int} {l i : Nat} (v : Nat → Int) (h : i < l) : mnr (rep c l v) i = rep (mnr c i) (l - 1) (fun k => v (k + 1)) := by
  funext j k
  show rep c l v _ _ = rep (mnr c i) (l - 1) _ j k
  by_cases e : j = l - 1
  · subst e
    rw [if_neg (by omega), show l - 1 + 1 = l by omega, rep_at, rep_at]
  · rw [rep_ne _ e, rep_ne v (by split <;> omega)]
    rfl
theorem det_add : ∀ {m : Nat} (c : Nat → Nat → Int) {l : Nat} (u v : Nat → Int), l < m → det m (rep c l fun k => u k + v k) = det m (rep c l u) + det m (rep c l v)
  | 0, _, _, _, _, h => absurd h (Nat.not_lt_zero _)
  | m + 1, c, l, u, v, h => by
    show sm _ _ = sm _ _ + sm _ _
    rw [← sm_add]
    refine sm_congr fun i hi => ?_
    by_cases e : i = l
    · subst e
      rw [mnr_rep_same, mnr_rep_same, mnr_rep_same, rep_at, rep_at, rep_at]
      grind
    · rw [rep_ne _ e, rep_ne _ e, rep_ne _ e]
      by_cases q : l < i
      · rw [mnr_rep_lt _ q, mnr_rep_lt _ q, mnr_rep_lt _ q, det_add (m := m) (mnr c i) (fun k => u (k + 1)) (fun k => v (k + 1)) (by omega), Int.mul_add]
      · have q' : i < l := by omega
        rw [mnr_rep_gt _ q', mnr_rep_gt _ q', mnr_rep_gt _ q', det_add (m := m) (mnr c i) (fun k => u (k + 1)) (fun k => v (k + 1)) (by omega), Int.mul_add]
theorem det_mul : ∀ {m : Nat} (c : Nat → Nat → Int) {l : Nat} (a : Int) (u : Nat → Int), l < m → det m (rep c l fun k => a * u k) = a * det m (rep c l u)
  | 0, _, _, _, _, h => absurd h (Nat.not_lt_zero _)
  | m + 1, c, l, a, u, h => by
    show sm _ _ = a * sm _ _
    rw [← sm_mul]
    refine sm_congr fun i hi => ?_
    by_cases e : i = l
    · subst e
      rw [mnr_rep_same, mnr_rep_same, rep_at, rep_at]
      grind
    · rw [rep_ne _ e, rep_ne _ e]
      by_cases q : l < i
      · rw [mnr_rep_lt _ q, mnr_rep_lt _ q, det_mul (m := m) (mnr c i) a (fun k => u (k + 1)) (by omega)]
        grind
      · have q' : i < l := by omega
        rw [mnr_rep_gt _ q', mnr_rep_gt _ q', det_mul (m := m) (mnr c i) a (fun k => u (k + 1)) (by omega)]
        grind
theorem det_zero_col {m : Nat} (c : Nat → Nat → Int) {l : Nat} (h : l < m) : det m (rep c l fun _ => 0) = 0 := by
  have e : det m (rep c l fun _ => (0 : Int) * 0) = 0 * det m (rep c l fun _ => 0) := det_mul c 0 (fun _ => 0) h
  rw [Int.zero_mul, Int.zero_mul] at e
  exact e
theorem det_sum {m : Nat} (c : Nat → Nat → Int) {l : Nat} (h : l < m) (a : Nat → Int) (w : Nat → Nat → Int) : ∀ n, det m (rep c l fun k => sm (fun i => a i * w i k) n) = sm (fun i => a i * det m (rep c l (w i))) n
  | 0 => det_zero_col c h
  | n + 1 => by
    show det m (rep c l fun k => sm (fun i => a i * w i k) n + a n * w n k) = sm _ n + a n * det m (rep c l (w n))
    rw [det_add c (fun k => sm (fun i => a i * w i k) n) (fun k => a n * w n k) h, det_sum c h a w n, det_mul c (a n) (w n) h]
/-- two columns side by side that are alike -/
theorem det_adj : ∀ {m : Nat} {c : Nat → Nat → Int} {l : Nat}, l + 1 < m → (∀ k, k < m → c l k = c (l + 1) k) → det m c = 0
  | 0, _, _, h, _ => absurd h (Nat.not_lt_zero _)
  | m + 1, c, l, h, e => by
    show sm (fun i => sgn i * c i 0 * det m (mnr c i)) (m + 1) = 0
    have z : ∀ i, i < m + 1 → i ≠ l → i ≠ l + 1 → sgn i * c i 0 * det m (mnr c i) = 0 := fun i hi h1 h2 => by
      have : det m (mnr c i) = 0 := by
        by_cases q : i < l
        · refine det_adj (l := l - 1) (by omega) fun k hk => ?_
          show c _ _ = c _ _
          rw [if_neg (by omega), if_neg (by omega), show l - 1 + 1 = l by omega]
          exact e (k + 1) (by omega)
        · refine det_adj (l := l) (by omega) fun k hk => ?_
          show c _ _ = c _ _
          rw [if_pos (by omega), if_pos (by omega)]
          exact e (k + 1) (by omega)
      rw [this, Int.mul_zero]
    have same : det m (mnr c l) = det m (mnr c (l + 1)) := det_congr fun j hj k hk => by
      show c _ _ = c _ _
      by_cases q : j < l
      · rw [if_pos q, if_pos (by omega)]
      · by_cases q2 : j = l
        · subst q2
          rw [if_neg (by omega), if_pos (by omega)]
          exact (e (k + 1) (by omega)).symm
        · rw [if_neg q, if_neg (by omega)]
    -- the two that are left
    have two : ∀ n, l + 1 < n → n ≤ m + 1 → sm (fun i => sgn i * c i 0 * det m (mnr c i)) n = 0 := by
      intro n
      induction n with
      | zero => intro q; omega
      | succ n ih =>
        intro q1 q2
        show sm (fun i => sgn i * c i 0 * det m (mnr c i)) n + sgn n * c n 0 * det m (mnr c n) = 0
        by_cases q3 : n = l + 1
        · subst q3
          show (sm (fun i => sgn i * c i 0 * det m (mnr c i)) l + sgn l * c l 0 * det m (mnr c l)) + sgn (l + 1) * c (l + 1) 0 * det m (mnr c (l + 1)) = 0
          rw [sm_zero (fun k hk => z k (by omega) (by omega) (by omega)), sgn_succ, ← same, ← e 0 (by omega)]
          grind
        · rw [ih (by omega) (by omega), z n (by omega) (by omega) (by omega)]; rfl
    exact two (m + 1) h (Nat.le_refl _)
/-- two neighbours exchanged -/
def swp (c : Nat → Nat → Int) (l : Nat) : Nat → Nat → Int := rep (rep c l (c (l + 1))) (l + 1) (c l)
theorem rep_rep_comm (c : Nat → Nat → Int) {i j : Nat} (u v : Nat → Int) (h : i ≠ j) : rep (rep c i u) j v = rep (rep c j v) i u := by
  funext x
  by_cases e1 : x = i
  · subst e1; rw [rep_ne _ h, rep_at, rep_at]
  · by_cases e2 : x = j
    · subst e2; rw [rep_at, rep_ne _ e1, rep_at]
    · rw [rep_ne _ e2, rep_ne _ e1, rep_ne _ e1, rep_ne _ e2]
theorem rep_rep_same (c : Nat → Nat → Int) (i : Nat) (u v : Nat → Int) : rep (rep c i u) i v = rep c i v := by
  funext x
  by_cases e1 : x = i
  · subst e1; rw [rep_at, rep_at]
  · rw [rep_ne _ e1, rep_ne _ e1, rep_ne _ e1]
theorem rep_self (c : Nat → Nat → Int) (i : Nat) : rep c i (c i) = c := by
  funext x
  by_cases e1 : x = i
  · subst e1; rw [rep_at]
  · rw [rep_ne _ e1]
/-- a function of two columns that vanishes on equals turns its sign -/
theorem det_anti {m : Nat} (c : Nat → Nat → Int) {i j : Nat} (hi : i < m) (hj : j < m) (hij : i ≠ j) (z : ∀ u, det m (rep (rep c i u) j u) = 0) (u v : Nat → Int) : det m (rep (rep c i u) j v) = - det m (rep (rep c i v) j u) := by
  have h := z (fun k => u k + v k)
  rw [rep_rep_comm _ _ _ hij, det_add _ _ _ hi, rep_rep_comm _ _ _ hij.symm, rep_rep_comm c _ v hij.symm, det_add _ _ _ hj, det_add _ _ _ hj, z u, z v] at h
  omega
theorem det_swp {m : Nat} (c : Nat → Nat → Int) {l : Nat} (h : l + 1 < m) : det m (swp c l) = - det m c := by
  have e := det_anti c (i := l) (j := l + 1) (by omega) h (by omega) (fun u => det_adj (l := l) h fun k _ => by
    rw [rep_ne _ (by omega), rep_at, rep_at]) (c (l + 1)) (c l)
  unfold swp
  rw [e]
  have : rep (rep c l (c l)) (l + 1) (c (l + 1)) = c := by rw [rep_self, rep_self]
  rw [this]
/-- two columns that are alike -/
theorem det_alt : ∀ (g : Nat) {m : Nat} {c : Nat → Nat → Int} {i : Nat}, i + g + 1 < m → (∀ k, k < m → c i k = c (i + g + 1) k) → det m c = 0
  | 0, m, c, i, h, e => det_adj (l := i) h e
  | g + 1, m, c, i, h, e => by
    have q := det_swp c (l := i + g + 1) h
    have z : det m (swp c (i + g + 1)) = 0 := by
      refine det_alt g (i := i) (by omega) fun k hk => ?_
      unfold swp
      rw [rep_ne _ (by omega), rep_ne _ (by omega), rep_ne _ (by omega), rep_at]
      exact e k hk
    omega
theorem det_same {m : Nat} {c : Nat → Nat → Int} {i j : Nat} (hi : i < m) (hj : j < m) (hij : i ≠ j) (e : ∀ k, k < m → c i k = c j k) : det m c = 0 := by
  by_cases q : i < j
  · refine det_alt (j - i - 1) (i := i) (by omega) fun k hk => ?_
    rw [show i + (j - i - 1) + 1 = j by omega]
    exact e k hk
  · refine det_alt (i - j - 1) (i := j) (by omega) fun k hk => ?_
    rw [show j + (i - j - 1) + 1 = i by omega]
    exact (e k hk).symm
theorem det_turn {m : Nat} (c : Nat → Nat → Int) {i j : Nat} (hi : i < m) (hj : j < m) (hij : i ≠ j) (u v : Nat → Int) : det m (rep (rep c i u) j v) = - det m (rep (rep c i v) j u) :=
  det_anti c hi hj hij (fun w => det_same hi hj hij fun k _ => by rw [rep_ne _ hij, rep_at, rep_at]) u v
def one : Nat → Nat → Int := fun j k => if j = k then 1 else 0
theorem det_one : ∀ m, det m one = 1
  | 0 => rfl
  | m + 1 => by
    show sm (fun i => sgn i * one i 0 * det m (mnr one i)) (m + 1) = 1
    rw [sm_one (i := 0) (Nat.succ_pos m) fun k _ hk => by
      show sgn k * (if k = 0 then 1 else 0) * _ = 0
      rw [if_neg hk]; simp]
    have e : mnr one 0 = one := by
      funext j k
      show (if (if j < 0 then j else j + 1) = k + 1 then (1 : Int) else 0) = if j = k then 1 else 0
      rw [if_neg (Nat.not_lt_zero j)]
      by_cases h : j = k
      · rw [if_pos h, if_pos (by omega)]
      · rw [if_neg h, if_neg (by omega)]
    rw [e, det_one m]; rfl
def bd (X : Nat) : Nat → Nat
  | 0 => 1
  | m + 1 => (m + 1) * (X * bd X m)
theorem sgn_abs (i : Nat) : (sgn i).natAbs = 1 := by
  unfold sgn; split <;> rfl
theorem det_bd {X : Nat} : ∀ {m : Nat} {c : Nat → Nat → Int}, (∀ j, j < m → ∀ k, k < m → (c j k).natAbs ≤ X) → (det m c).natAbs ≤ bd X m
  | 0, _, _ => Nat.le_refl 1
  | m + 1, c, h => by
    refine sm_abs fun i hi => ?_
    rw [Int.natAbs_mul, Int.natAbs_mul, sgn_abs, Nat.one_mul]
    refine Nat.mul_le_mul (h i hi 0 (Nat.succ_pos m)) (det_bd fun j hj k hk => ?_)
    exact h _ (by split <;> omega) _ (by omega)
end Sx
namespace Sx
/-! ### tableaus: n columns, m lines; column n + k is the k-th helper, column n + m the right side -/
structure St where
  T : Nat → Nat → Int
  bas : Nat → Nat
  d : Int
/-- the matrix at the beginning: R k j the factors of line k -/
def A0 (R : Nat → Nat → Int) (n m : Nat) (k j : Nat) : Int :=
  if j < n then R k j else if j < n + m then (if j - n = k then 1 else 0) else (if k + 1 = m then 1 else 0)
theorem A0_helper {R : Nat → Nat → Int} {n m k l : Nat} (hl : l < m) : A0 R n m k (n + l) = if l = k then 1 else 0 := by
  unfold A0
  rw [if_neg (by omega), if_pos (by omega), Nat.add_sub_cancel_left]
def hlp (n m j : Nat) : Int := if n ≤ j ∧ j < n + m then 1 else 0
def col (R : Nat → Nat → Int) (n m j : Nat) : Nat → Int := fun k => A0 R n m k j
def cols (R : Nat → Nat → Int) (n m : Nat) (bas : Nat → Nat) : Nat → Nat → Int := fun i => col R n m (bas i)
/-- the helper lines' sum -/
def hsum (n m : Nat) (bas : Nat → Nat) (T : Nat → Nat → Int) (j : Nat) : Int := sm (fun i => if n ≤ bas i then T i j else 0) m
structure Good (R : Nat → Nat → Int) (n m : Nat) (s : St) : Prop where
  pos : 0 < s.d
  dd : s.d = det m (cols R n m s.bas)
  tt : ∀ i, i < m → ∀ j, j ≤ n + m → s.T i j = det m (rep (cols R n m s.bas) i (col R n m j))
  gg : ∀ j, j ≤ n + m → s.T m j = s.d * hlp n m j - hsum n m s.bas s.T j
  bb : ∀ i, i < m → s.bas i < n + m
  ok : ∀ i, i < m → 0 ≤ s.T i (n + m)
  cr : ∀ k, k < m → ∀ j, j ≤ n + m → s.d * A0 R n m k j = sm (fun i => A0 R n m k (s.bas i) * s.T i j) m
section
variable {R : Nat → Nat → Int} {n m : Nat} {s : St}
theorem Good.own (g : Good R n m s) {i : Nat} (hi : i < m) : s.T i (s.bas i) = s.d := by
  rw [g.tt i hi _ (Nat.le_of_lt (g.bb i hi)), g.dd, show col R n m (s.bas i) = cols R n m s.bas i from rfl, rep_self]
theorem Good.other (g : Good R n m s) {i l : Nat} (hi : i < m) (hl : l < m) (h : i ≠ l) : s.T i (s.bas l) = 0 := by
  rw [g.tt i hi _ (Nat.le_of_lt (g.bb l hl))]
  refine det_same hi hl h fun k _ => ?_
  rw [rep_at, rep_ne _ h.symm]; rfl
theorem Good.inj (g : Good R n m s) {i l : Nat} (hi : i < m) (hl : l < m) (h : s.bas i = s.bas l) : i = l := by
  by_cases e : i = l
  · exact e
  · have h1 := g.own hi
    have h2 := g.other hi hl e
    have h3 := g.pos
    rw [h] at h1
    omega
theorem Good.goal_bas (g : Good R n m s) {l : Nat} (hl : l < m) : s.T m (s.bas l) = 0 := by
  rw [g.gg _ (Nat.le_of_lt (g.bb l hl))]
  have e : hsum n m s.bas s.T (s.bas l) = if n ≤ s.bas l then s.d else 0 := by
    unfold hsum
    rw [sm_one hl fun k hk hne => by
      by_cases q : n ≤ s.bas k
      · rw [if_pos q, g.other hk hl hne]
      · rw [if_neg q]]
    rw [g.own hl]
  rw [e]
  unfold hlp
  have b := g.bb l hl
  by_cases q : n ≤ s.bas l
  · rw [if_pos q, if_pos ⟨q, b⟩]; omega
  · rw [if_neg q, if_neg (fun z => q z.1)]; omega
/-- a line is made of the lines at the beginning -/
theorem Good.row (g : Good R n m s) {i : Nat} (hi : i < m) {j : Nat} (hj : j ≤ n + m) : s.T i j = sm (fun k => s.T i (n + k) * A0 R n m k j) m := by
  rw [g.tt i hi j hj]
  have e : ∀ k, k < m → col R n m j k = sm (fun l => A0 R n m l j * col R n m (n + l) k) m := fun k hk => by
    rw [sm_one hk fun l hl hne => by
      show A0 R n m l j * A0 R n m k (n + l) = 0
      rw [A0_helper hl, if_neg hne, Int.mul_zero]]
    show A0 R n m k j = A0 R n m k j * A0 R n m k (n + k)
    rw [A0_helper hk, if_pos rfl, Int.mul_one]
  have e2 : det m (rep (cols R n m s.bas) i (col R n m j)) = det m (rep (cols R n m s.bas) i fun k => sm (fun l => A0 R n m l j * col R n m (n + l) k) m) := det_congr fun x hx k hk => by
    by_cases q : x = i
    · subst q
      rw [rep_at, rep_at]
      exact e k hk
    · rw [rep_ne _ q, rep_ne _ q]
  rw [e2, det_sum _ hi (fun l => A0 R n m l j) (fun l => col R n m (n + l)) m]
  refine sm_congr fun k hk => ?_
  rw [g.tt i hi (n + k) (by omega), Int.mul_comm]
/-! ### the turn -/
def turn (m : Nat) (s : St) (r c : Nat) : St where
  T := fun i j => if i = r then s.T r j else (s.T r c * s.T i j - s.T i c * s.T r j) / s.d
  bas := fun i => if i = r then c else s.bas i
  d := s.T r c
/-- the two columns' law: nothing is left over -/
theorem Good.exact (g : Good R n m s) {r c i j : Nat} (hr : r < m) (hc : c < n) (hi : i < m) (hir : i ≠ r) (hj : j ≤ n + m) :
    s.d * det m (rep (rep (cols R n m s.bas) r (col R n m c)) i (col R n m j)) = s.T r c * s.T i j - s.T i c * s.T r j := by
  have hcc : c ≤ n + m := by omega
  rw [← det_mul _ s.d (col R n m j) hi]
  have e : det m (rep (rep (cols R n m s.bas) r (col R n m c)) i fun k => s.d * col R n m j k) = det m (rep (rep (cols R n m s.bas) r (col R n m c)) i fun k => sm (fun l => s.T l j * cols R n m s.bas l k) m) := det_congr fun x hx k hk => by
    by_cases q : x = i
    · subst q
      rw [rep_at, rep_at]
      show s.d * A0 R n m k j = _
      rw [g.cr k hk j hj]
      exact sm_congr fun l _ => Int.mul_comm _ _
    · rw [rep_ne _ q, rep_ne _ q]
  rw [e, det_sum _ hi (fun l => s.T l j) (cols R n m s.bas) m]
  -- only l = i and l = r count
  have hi_ : det m (rep (rep (cols R n m s.bas) r (col R n m c)) i (cols R n m s.bas i)) = s.T r c := by
    rw [rep_rep_comm _ _ _ hir.symm, rep_self, ← g.tt r hr c hcc]
  have hr_ : det m (rep (rep (cols R n m s.bas) r (col R n m c)) i (cols R n m s.bas r)) = - s.T i c := by
    rw [det_turn _ hr hi hir.symm, rep_self, ← g.tt i hi c hcc]
  have z : ∀ l, l < m → l ≠ i → l ≠ r → s.T l j * det m (rep (rep (cols R n m s.bas) r (col R n m c)) i (cols R n m s.bas l)) = 0 := fun l hl h1 h2 => by
    have : det m (rep (rep (cols R n m s.bas) r (col R n m c)) i (cols R n m s.bas l)) = 0 := det_same hi hl h1.symm fun k _ => by
      rw [rep_at, rep_ne _ h1, rep_ne _ h2]
    rw [this, Int.mul_zero]
  have split : ∀ f : Nat → Int, (∀ l, l < m → l ≠ i → l ≠ r → f l = 0) → sm f m = f i + f r := fun f hf => by
    have e1 : sm f m = sm (fun l => (if l = i then f i else 0) + (if l = r then f r else 0)) m := sm_congr fun l hl => by
      by_cases q1 : l = i
      · subst q1; rw [if_pos rfl, if_neg hir]; omega
      · by_cases q2 : l = r
        · subst q2; rw [if_neg q1, if_pos rfl]; omega
        · rw [if_neg q1, if_neg q2, hf l hl q1 q2]; rfl
    rw [e1, sm_add, sm_one hi (fun k _ hk => if_neg hk), sm_one hr (fun k _ hk => if_neg hk), if_pos rfl, if_pos rfl]
  rw [split _ z, hi_, hr_]
  grind
theorem Good.turn_at (g : Good R n m s) {r c i j : Nat} (hr : r < m) (hc : c < n) (hi : i < m) (hir : i ≠ r) (hj : j ≤ n + m) :
    s.d * (turn m s r c).T i j = s.T r c * s.T i j - s.T i c * s.T r j ∧ (turn m s r c).T i j = det m (rep (rep (cols R n m s.bas) r (col R n m c)) i (col R n m j)) := by
  have e := g.exact hr hc hi hir hj
  have p := g.pos
  have q : (turn m s r c).T i j = det m (rep (rep (cols R n m s.bas) r (col R n m c)) i (col R n m j)) := by
    show (if i = r then s.T r j else (s.T r c * s.T i j - s.T i c * s.T r j) / s.d) = _
    rw [if_neg hir, ← e]
    exact Int.mul_ediv_cancel_left _ (by omega)
  exact ⟨by rw [q, e], q⟩
theorem turn_row {r c j : Nat} : (turn m s r c).T r j = s.T r j := if_pos rfl
theorem cols_turn {r c : Nat} (bas : Nat → Nat) : cols R n m (fun i => if i = r then c else bas i) = rep (cols R n m bas) r (col R n m c) := by
  funext i
  by_cases e : i = r
  · subst e; rw [rep_at]; show col R n m (if i = i then c else bas i) = _; rw [if_pos rfl]
  · rw [rep_ne _ e]; show col R n m (if i = r then c else bas i) = _; rw [if_neg e]; rfl
/-- the goal's line -/
theorem Good.turn_goal (g : Good R n m s) {r c j : Nat} (hr : r < m) (hc : c < n) (hj : j ≤ n + m) :
    s.d * (turn m s r c).T m j = s.T r c * s.T m j - s.T m c * s.T r j ∧ (turn m s r c).T m j = s.T r c * hlp n m j - hsum n m (turn m s r c).bas (turn m s r c).T j := by
  have p := g.pos
  have hm : m ≠ r := by omega
  have e : s.d * (s.T r c * hlp n m j - hsum n m (turn m s r c).bas (turn m s r c).T j) = s.T r c * s.T m j - s.T m c * s.T r j := by
    rw [g.gg j hj, g.gg c (by omega)]
    have h0 : hlp n m c = 0 := if_neg (by omega)
    rw [h0, Int.mul_zero, Int.zero_sub]
    have e1 : s.d * hsum n m (turn m s r c).bas (turn m s r c).T j = s.T r c * hsum n m s.bas s.T j - hsum n m s.bas s.T c * s.T r j := by
      unfold hsum
      rw [← sm_mul, ← sm_mul, Int.mul_comm (sm _ m) (s.T r j), ← sm_mul, ← sm_sub]
      refine sm_congr fun i hi => ?_
      by_cases q : i = r
      · subst q
        show s.d * (if n ≤ (if i = i then c else s.bas i) then _ else 0) = _
        rw [if_pos rfl, if_neg (by omega)]
        by_cases q2 : n ≤ s.bas i
        · rw [if_pos q2, if_pos q2]; grind
        · rw [if_neg q2, if_neg q2]; grind
      · show s.d * (if n ≤ (if i = r then c else s.bas i) then (turn m s r c).T i j else 0) = _
        rw [if_neg q]
        by_cases q2 : n ≤ s.bas i
        · rw [if_pos q2, if_pos q2, if_pos q2, (g.turn_at hr hc hi q hj).1]; grind
        · rw [if_neg q2, if_neg q2, if_neg q2]; grind
    rw [Int.mul_sub, e1]
    grind
  have q : (turn m s r c).T m j = s.T r c * hlp n m j - hsum n m (turn m s r c).bas (turn m s r c).T j := by
    show (if m = r then s.T r j else (s.T r c * s.T m j - s.T m c * s.T r j) / s.d) = _
    rw [if_neg hm, ← e]
    exact Int.mul_ediv_cancel_left _ (by omega)
  exact ⟨by rw [q, e], q⟩
/-- the turn keeps all, where the line that leaves has the least ratio -/
theorem Good.turned (g : Good R n m s) {r c : Nat} (hr : r < m) (hc : c < n) (hp : 0 < s.T r c)
    (least : ∀ i, i < m → 0 < s.T i c → s.T r (n + m) * s.T i c ≤ s.T i (n + m) * s.T r c) : Good R n m (turn m s r c) where
  pos := hp
  dd := by
    show s.T r c = det m (cols R n m fun i => if i = r then c else s.bas i)
    rw [cols_turn, ← g.tt r hr c (by omega)]
  tt := fun i hi j hj => by
    show _ = det m (rep (cols R n m fun i => if i = r then c else s.bas i) i _)
    rw [cols_turn]
    by_cases e : i = r
    · subst e
      rw [turn_row, rep_rep_same, ← g.tt i hi j hj]
    · exact (g.turn_at hr hc hi e hj).2
  gg := fun j hj => (g.turn_goal hr hc hj).2
  bb := fun i hi => by
    show (if i = r then c else s.bas i) < n + m
    by_cases e : i = r
    · rw [if_pos e]; omega
    · rw [if_neg e]; exact g.bb i hi
  ok := fun i hi => by
    by_cases e : i = r
    · subst e; rw [turn_row]; exact g.ok i hi
    · have h := (g.turn_at hr hc hi e (Nat.le_refl (n + m))).1
      have p := g.pos
      have a : 0 ≤ s.T r c * s.T i (n + m) - s.T i c * s.T r (n + m) := by
        by_cases q : 0 < s.T i c
        · have := least i hi q
          rw [Int.mul_comm (s.T r c), Int.mul_comm (s.T i c)]
          omega
        · have h1 : 0 ≤ s.T r c * s.T i (n + m) := Int.mul_nonneg (by omega) (g.ok i hi)
          have h2 : s.T i c * s.T r (n + m) ≤ 0 := Int.mul_nonpos_of_nonpos_of_nonneg (by omega) (g.ok r hr)
          omega
      rw [← h] at a
      by_cases z : 0 ≤ (turn m s r c).T i (n + m)
      · exact z
      · have : s.d * (turn m s r c).T i (n + m) < 0 := Int.mul_neg_of_pos_of_neg p (by omega)
        omega
  cr := fun k hk j hj => by
    have p := g.pos
    have cj := g.cr k hk j hj
    have cc := g.cr k hk c (by omega)
    have e : s.d * (s.T r c * A0 R n m k j) = s.d * sm (fun i => A0 R n m k ((turn m s r c).bas i) * (turn m s r c).T i j) m := by
      rw [← sm_mul]
      have e1 : sm (fun i => s.d * (A0 R n m k ((turn m s r c).bas i) * (turn m s r c).T i j)) m =
          sm (fun i => (s.T r c * (A0 R n m k (s.bas i) * s.T i j) - s.T r j * (A0 R n m k (s.bas i) * s.T i c)) + (if i = r then s.d * A0 R n m k c * s.T r j else 0)) m := sm_congr fun i hi => by
        by_cases q : i = r
        · subst q
          show s.d * (A0 R n m k (if i = i then c else s.bas i) * (turn m s i c).T i j) = _
          rw [if_pos rfl, if_pos rfl, turn_row]
          grind
        · show s.d * (A0 R n m k (if i = r then c else s.bas i) * (turn m s r c).T i j) = _
          rw [if_neg q, if_neg q]
          have h := (g.turn_at hr hc hi q hj).1
          have : s.d * (A0 R n m k (s.bas i) * (turn m s r c).T i j) = A0 R n m k (s.bas i) * (s.d * (turn m s r c).T i j) := by grind
          rw [this, h]
          grind
      rw [e1, sm_add, sm_sub, sm_mul, sm_mul, ← cj, ← cc, sm_one hr (fun k _ hk => if_neg hk), if_pos rfl]
      grind
    exact Int.eq_of_mul_eq_mul_left (by omega) e
end
/-! ### the beginning -/
def first (R : Nat → Nat → Int) (n m : Nat) : St where
  T := fun i j => if i < m then A0 R n m i j else hlp n m j - sm (fun k => A0 R n m k j) m
  bas := fun i => n + i
  d := 1
theorem first_good (R : Nat → Nat → Int) (n m : Nat) : Good R n m (first R n m) where
  pos := by show (0 : Int) < 1; decide
  dd := by
    show (1 : Int) = det m _
    rw [← det_one m]
    refine det_congr fun j hj k hk => ?_
    show (if j = k then (1 : Int) else 0) = A0 R n m k (n + j)
    exact (A0_helper hj).symm
  tt := fun i hi j hj => by
    show (if i < m then _ else _) = _
    rw [if_pos hi]
    have e : det m (rep (cols R n m fun i => n + i) i (col R n m j)) = det m (rep one i fun k => sm (fun l => A0 R n m l j * one l k) m) := det_congr fun x hx k hk => by
      by_cases q : x = i
      · subst q
        rw [rep_at, rep_at]
        rw [sm_one hk fun l _ hne => by show _ * (if l = k then (1 : Int) else 0) = 0; rw [if_neg hne, Int.mul_zero]]
        show A0 R n m k j = A0 R n m k j * (if k = k then 1 else 0)
        rw [if_pos rfl, Int.mul_one]
      · rw [rep_ne _ q, rep_ne _ q]
        show A0 R n m k (n + x) = if x = k then 1 else 0
        exact A0_helper hx
    show A0 R n m i j = det m (rep (cols R n m fun i => n + i) i (col R n m j))
    rw [e, det_sum _ hi, sm_one hi fun l hl hne => by
      have : det m (rep one i (one l)) = 0 := det_same hi hl (fun z => hne z.symm) fun k _ => by rw [rep_at, rep_ne _ hne]
      rw [this, Int.mul_zero]]
    rw [rep_self, det_one, Int.mul_one]
  gg := fun j hj => by
    show (if m < m then _ else _) = (1 : Int) * hlp n m j - hsum n m _ _ j
    rw [if_neg (Nat.lt_irrefl m), Int.one_mul]
    unfold hsum
    have : sm (fun k => A0 R n m k j) m = sm (fun i => if n ≤ n + i then (if i < m then A0 R n m i j else hlp n m j - sm (fun k => A0 R n m k j) m) else 0) m := sm_congr fun i hi => by
      rw [if_pos (Nat.le_add_right n i), if_pos hi]
    rw [this]
    rfl
  bb := fun i hi => by show n + i < n + m; omega
  ok := fun i hi => by
    show 0 ≤ if i < m then _ else _
    rw [if_pos hi]
    unfold A0
    rw [if_neg (by omega), if_neg (by omega)]
    split <;> decide
  cr := fun k hk j hj => by
    show (1 : Int) * A0 R n m k j = sm (fun i => A0 R n m k (n + i) * (if i < m then A0 R n m i j else _)) m
    rw [sm_one hk fun l hl hne => by
      rw [A0_helper hl, if_neg hne, Int.zero_mul]]
    rw [A0_helper hk, if_pos rfl, if_pos hk]
/-! ### sizes -/
section
variable {R : Nat → Nat → Int} {n m : Nat} {s : St} {X : Nat}
theorem A0_abs (h1 : 1 ≤ X) (h : ∀ k, k < m → ∀ j, j < n → (R k j).natAbs ≤ X) {k j : Nat} (hk : k < m) : (A0 R n m k j).natAbs ≤ X := by
  unfold A0
  by_cases q : j < n
  · rw [if_pos q]; exact h k hk j q
  · rw [if_neg q]
    split
    · split <;> simp <;> omega
    · split <;> simp <;> omega
theorem Good.abs (g : Good R n m s) (h1 : 1 ≤ X) (h : ∀ k, k < m → ∀ j, j < n → (R k j).natAbs ≤ X) {i j : Nat} (hi : i < m) (hj : j ≤ n + m) : (s.T i j).natAbs ≤ bd X m := by
  rw [g.tt i hi j hj]
  refine det_bd fun x _ k hk => ?_
  by_cases q : x = i
  · subst q; rw [rep_at]; exact A0_abs h1 h hk
  · rw [rep_ne _ q]; exact A0_abs h1 h hk
theorem Good.abs_d (g : Good R n m s) (h1 : 1 ≤ X) (h : ∀ k, k < m → ∀ j, j < n → (R k j).natAbs ≤ X) : s.d.natAbs ≤ bd X m := by
  rw [g.dd]
  exact det_bd fun x _ k hk => A0_abs h1 h hk
theorem Good.abs_goal (g : Good R n m s) (h1 : 1 ≤ X) (h : ∀ k, k < m → ∀ j, j < n → (R k j).natAbs ≤ X) {j : Nat} (hj : j ≤ n + m) : (s.T m j).natAbs ≤ (m + 1) * bd X m := by
  rw [g.gg j hj, Nat.succ_mul]
  have a : (s.d * hlp n m j).natAbs ≤ bd X m := by
    rw [Int.natAbs_mul]
    unfold hlp
    split
    · simpa using g.abs_d h1 h
    · simp
  have b : (hsum n m s.bas s.T j).natAbs ≤ m * bd X m := sm_abs fun k hk => by
    by_cases q : n ≤ s.bas k
    · rw [if_pos q]; exact g.abs h1 h hk hj
    · rw [if_neg q]; exact Nat.zero_le _
  omega
end
end Sx
namespace Sx
/-! ### which column enters, which line leaves -/
def ent (n m : Nat) (s : St) : Option Nat := (List.range n).find? fun j => decide (s.T m j < 0)
/-- line a is ahead of line b -/
def ahead (w : Nat) (s : St) (c a b : Nat) : Bool :=
  decide (s.T a w * s.T b c < s.T b w * s.T a c) || (decide (s.T a w * s.T b c = s.T b w * s.T a c) && decide (s.bas a < s.bas b))
def lv (w : Nat) (s : St) (c : Nat) : Nat → Option Nat
  | 0 => none
  | a + 1 => if 0 < s.T a c ∧ (∀ b, lv w s c a = some b → ahead w s c a b = true) then some a else lv w s c a
theorem ent_some {n m c : Nat} {s : St} (h : ent n m s = some c) : c < n ∧ s.T m c < 0 ∧ ∀ j, j < c → 0 ≤ s.T m j := by
  unfold ent at h
  rw [List.find?_range_eq_some] at h
  obtain ⟨h1, h2, h3⟩ := h
  refine ⟨by simpa using h2, of_decide_eq_true h1, fun j hj => ?_⟩
  have := h3 j hj
  simp at this
  exact this
theorem ent_none {n m : Nat} {s : St} (h : ent n m s = none) {j : Nat} (hj : j < n) : 0 ≤ s.T m j := by
  unfold ent at h
  rw [List.find?_eq_none] at h
  have := h j (List.mem_range.mpr hj)
  simp at this
  exact this
def Le (w : Nat) (s : St) (c a b : Nat) : Prop := s.T a w * s.T b c < s.T b w * s.T a c ∨ (s.T a w * s.T b c = s.T b w * s.T a c ∧ s.bas a ≤ s.bas b)
theorem Le.weak {w c a b : Nat} {s : St} (h : Le w s c a b) : s.T a w * s.T b c ≤ s.T b w * s.T a c := by
  rcases h with h | h
  · omega
  · omega
theorem ratio_trans {a b i ca cb ci : Int} (hb : 0 < cb) (ha : 0 < ca) (hi : 0 < ci) (h1 : a * cb ≤ b * ca) (h2 : b * ci ≤ i * cb) : a * ci ≤ i * ca ∧ (a * ci = i * ca → a * cb = b * ca ∧ b * ci = i * cb) := by
  have e1 : a * cb * ci ≤ b * ca * ci := Int.mul_le_mul_of_nonneg_right h1 (by omega)
  have e2 : b * ci * ca ≤ i * cb * ca := Int.mul_le_mul_of_nonneg_right h2 (by omega)
  have e3 : cb * (a * ci) ≤ cb * (i * ca) := by
    have z1 : cb * (a * ci) = a * cb * ci := by grind
    have z2 : cb * (i * ca) = i * cb * ca := by grind
    have z3 : b * ca * ci = b * ci * ca := by grind
    omega
  refine ⟨Int.le_of_mul_le_mul_left e3 hb, fun e => ?_⟩
  have f : cb * (a * ci) = cb * (i * ca) := by rw [e]
  have z1 : cb * (a * ci) = a * cb * ci := by grind
  have z2 : cb * (i * ca) = i * cb * ca := by grind
  have z3 : b * ca * ci = b * ci * ca := by grind
  have g1 : a * cb * ci = b * ca * ci := by omega
  have g2 : b * ci * ca = i * cb * ca := by omega
  exact ⟨Int.eq_of_mul_eq_mul_right (by omega) g1, Int.eq_of_mul_eq_mul_right (by omega) g2⟩
theorem Le.trans {w c a b i : Nat} {s : St} (ha : 0 < s.T a c) (hb : 0 < s.T b c) (hi : 0 < s.T i c) (h1 : Le w s c a b) (h2 : Le w s c b i) : Le w s c a i := by
  obtain ⟨q1, q2⟩ := ratio_trans hb ha hi h1.weak h2.weak
  by_cases e : s.T a w * s.T i c = s.T i w * s.T a c
  · obtain ⟨e1, e2⟩ := q2 e
    refine .inr ⟨e, ?_⟩
    rcases h1 with h1 | ⟨_, h1⟩
    · omega
    · rcases h2 with h2 | ⟨_, h2⟩
      · omega
      · omega
  · exact .inl (by omega)
theorem lv_none {w c : Nat} {s : St} : ∀ {a : Nat}, lv w s c a = none → ∀ i, i < a → ¬ 0 < s.T i c
  | 0, _, i, hi, _ => absurd hi (Nat.not_lt_zero _)
  | a + 1, h, i, hi, p => by
    unfold lv at h
    by_cases q : 0 < s.T a c ∧ (∀ b, lv w s c a = some b → ahead w s c a b = true)
    · rw [if_pos q] at h; cases h
    · rw [if_neg q] at h
      have ih := lv_none h
      by_cases e : i = a
      · subst e
        exact q ⟨p, fun b hb => by rw [h] at hb; cases hb⟩
      · exact ih i (by omega) p
theorem lv_some {w c : Nat} {s : St} : ∀ {a r : Nat}, lv w s c a = some r → r < a ∧ 0 < s.T r c ∧ ∀ i, i < a → 0 < s.T i c → Le w s c r i
  | 0, _, h => by cases h
  | a + 1, r, h => by
    unfold lv at h
    by_cases q : 0 < s.T a c ∧ (∀ b, lv w s c a = some b → ahead w s c a b = true)
    · rw [if_pos q] at h
      cases h
      refine ⟨Nat.lt_succ_self _, q.1, fun i hi p => ?_⟩
      by_cases e : i = a
      · subst e; exact .inr ⟨rfl, Nat.le_refl _⟩
      · cases z : lv w s c a with
        | none => exact absurd p (lv_none z i (by omega))
        | some b =>
          obtain ⟨b1, b2, b3⟩ := lv_some z
          have hb : Le w s c a b := by
            have := q.2 b z
            unfold ahead at this
            simp at this
            rcases this with x | ⟨x, y⟩
            · exact .inl x
            · exact .inr ⟨x, Nat.le_of_lt y⟩
          exact hb.trans q.1 b2 p (b3 i (by omega) p)
    · rw [if_neg q] at h
      obtain ⟨b1, b2, b3⟩ := lv_some h
      refine ⟨Nat.lt_succ_of_lt b1, b2, fun i hi p => ?_⟩
      by_cases e : i = a
      · subst e
        -- it is not ahead of r
        have na : ahead w s c i r = false := by
          cases z : ahead w s c i r with
          | false => rfl
          | true => exact absurd ⟨p, fun b hb => by rw [h] at hb; cases hb; exact z⟩ q
        unfold ahead at na
        simp at na
        obtain ⟨n1, n2⟩ := na
        by_cases e2 : s.T r w * s.T i c = s.T i w * s.T r c
        · exact .inr ⟨e2, n2 e2.symm⟩
        · exact .inl (by omega)
      · exact b3 i (by omega) p
/-- some line can leave -/
theorem Good.leaves {R : Nat → Nat → Int} {n m : Nat} {s : St} (g : Good R n m s) {c : Nat} (hc : c < n) (h : s.T m c < 0) : ∃ r, lv (n + m) s c m = some r := by
  cases z : lv (n + m) s c m with
  | some r => exact ⟨r, rfl⟩
  | none =>
    have e := g.gg c (by omega)
    have h0 : hlp n m c = 0 := if_neg (by omega)
    rw [h0, Int.mul_zero] at e
    have p : 0 < hsum n m s.bas s.T c := by omega
    obtain ⟨i, hi, q⟩ := sm_pos_some p
    have := lv_none z i hi
    by_cases q2 : n ≤ s.bas i
    · rw [if_pos q2] at q; exact absurd q this
    · rw [if_neg q2] at q; omega
def nxt (n m : Nat) (s : St) : St := match ent n m s with
  | none => s
  | some c => match lv (n + m) s c m with
    | none => s
    | some r => turn m s r c
theorem nxt_none {n m : Nat} {s : St} (e : ent n m s = none) : nxt n m s = s := by
  unfold nxt
  rw [e]
theorem nxt_some {n m c r : Nat} {s : St} (e : ent n m s = some c) (q : lv (n + m) s c m = some r) : nxt n m s = turn m s r c := by
  unfold nxt
  rw [e]
  dsimp only
  rw [q]
theorem Good.nxt {R : Nat → Nat → Int} {n m : Nat} {s : St} (g : Good R n m s) : Good R n m (nxt n m s) := by
  cases e : ent n m s with
  | none => rw [nxt_none e]; exact g
  | some c =>
    obtain ⟨h1, h2, h3⟩ := ent_some e
    obtain ⟨r, q⟩ := g.leaves h1 h2
    obtain ⟨k1, k2, k3⟩ := lv_some q
    rw [nxt_some e q]
    exact g.turned k1 h1 k2 fun i hi p => (k3 i hi p).weak
/-! ### a run without an end cannot be -/
structure Eqv (n m : Nat) (s s' : St) : Prop where
  d : s.d = s'.d
  bas : ∀ i, i < m → s.bas i = s'.bas i
  T : ∀ i, i ≤ m → ∀ j, j ≤ n + m → s.T i j = s'.T i j
theorem Eqv.of_bas {R : Nat → Nat → Int} {n m : Nat} {s s' : St} (g : Good R n m s) (g' : Good R n m s') (h : ∀ i, i < m → s.bas i = s'.bas i) : Eqv n m s s' := by
  have hc : ∀ i, i < m → cols R n m s.bas i = cols R n m s'.bas i := fun i hi => by
    show col R n m (s.bas i) = col R n m (s'.bas i)
    rw [h i hi]
  have hd : s.d = s'.d := by
    rw [g.dd, g'.dd]
    exact det_congr fun j hj k _ => by rw [hc j hj]
  have hT : ∀ i, i < m → ∀ j, j ≤ n + m → s.T i j = s'.T i j := fun i hi j hj => by
    rw [g.tt i hi j hj, g'.tt i hi j hj]
    refine det_congr fun x hx k _ => ?_
    by_cases q : x = i
    · subst q; rw [rep_at, rep_at]
    · rw [rep_ne _ q, rep_ne _ q, hc x hx]
  refine ⟨hd, h, fun i hi j hj => ?_⟩
  by_cases q : i = m
  · subst q
    rw [g.gg j hj, g'.gg j hj, hd]
    congr 1
    unfold hsum
    exact sm_congr fun k hk => by rw [h k hk, hT k hk j hj]
  · exact hT i (by omega) j hj
theorem find_congr {p q : Nat → Bool} : ∀ {l : List Nat}, (∀ x, x ∈ l → p x = q x) → l.find? p = l.find? q
  | [], _ => rfl
  | a :: l, h => by
    rw [List.find?_cons, List.find?_cons, h a List.mem_cons_self, find_congr (fun x hx => h x (List.mem_cons_of_mem _ hx))]
theorem Eqv.ent {n m : Nat} {s s' : St} (e : Eqv n m s s') : ent n m s = ent n m s' :=
  find_congr fun j hj => by rw [e.T m (Nat.le_refl m) j (by have := List.mem_range.mp hj; omega)]
theorem Eqv.ahead {n m c a b : Nat} {s s' : St} (e : Eqv n m s s') (hc : c < n) (ha : a < m) (hb : b < m) : ahead (n + m) s c a b = ahead (n + m) s' c a b := by
  unfold Sx.ahead
  rw [e.T a (by omega) (n + m) (Nat.le_refl _), e.T b (by omega) c (by omega), e.T b (by omega) (n + m) (Nat.le_refl _), e.T a (by omega) c (by omega), e.bas a ha, e.bas b hb]
theorem Eqv.lv {n m c : Nat} {s s' : St} (e : Eqv n m s s') (hc : c < n) : ∀ a, a ≤ m → lv (n + m) s c a = lv (n + m) s' c a
  | 0, _ => rfl
  | a + 1, ha => by
    have ih := Eqv.lv e hc a (by omega)
    unfold Sx.lv
    rw [ih, e.T a (by omega) c (by omega)]
    have z : (0 < s'.T a c ∧ ∀ b, Sx.lv (n + m) s' c a = some b → Sx.ahead (n + m) s c a b = true) ↔ (0 < s'.T a c ∧ ∀ b, Sx.lv (n + m) s' c a = some b → Sx.ahead (n + m) s' c a b = true) := by
      refine and_congr Iff.rfl (forall_congr' fun b => forall_congr' fun hb => ?_)
      have hb' := (lv_some hb).1
      rw [e.ahead hc (by omega) (by omega)]
    by_cases q : (0 < s'.T a c ∧ ∀ b, Sx.lv (n + m) s' c a = some b → Sx.ahead (n + m) s' c a b = true)
    · rw [if_pos q, if_pos (z.mpr q)]
    · rw [if_neg q, if_neg (fun x => q (z.mp x))]
theorem Eqv.turn {n m r c : Nat} {s s' : St} (e : Eqv n m s s') (hr : r < m) (hc : c < n) : Eqv n m (turn m s r c) (turn m s' r c) := by
  refine ⟨e.T r (by omega) c (by omega), fun i hi => ?_, fun i hi j hj => ?_⟩
  · show (if i = r then c else s.bas i) = if i = r then c else s'.bas i
    rw [e.bas i hi]
  · show (if i = r then s.T r j else (s.T r c * s.T i j - s.T i c * s.T r j) / s.d) = if i = r then s'.T r j else (s'.T r c * s'.T i j - s'.T i c * s'.T r j) / s'.d
    rw [e.T r (by omega) j hj, e.T r (by omega) c (by omega), e.T i hi j hj, e.T i hi c (by omega), e.d]
/-- a run -/
structure Run (R : Nat → Nat → Int) (n m : Nat) (S : Nat → St) (C L : Nat → Nat) : Prop where
  good : ∀ t, Good R n m (S t)
  cn : ∀ t, C t < n
  neg : ∀ t, (S t).T m (C t) < 0
  fst : ∀ t j, j < C t → 0 ≤ (S t).T m j
  lm : ∀ t, L t < m
  pos : ∀ t, 0 < (S t).T (L t) (C t)
  le : ∀ t i, i < m → 0 < (S t).T i (C t) → Le (n + m) (S t) (C t) (L t) i
  st : ∀ t, S (t + 1) = turn m (S t) (L t) (C t)
section
variable {R : Nat → Nat → Int} {n m : Nat} {S : Nat → St} {C L : Nat → Nat}
def Basic (m : Nat) (s : St) (v : Nat) : Prop := ∃ i, i < m ∧ s.bas i = v
theorem Run.bas_next (r : Run R n m S C L) (t i : Nat) : (S (t + 1)).bas i = if i = L t then C t else (S t).bas i := by rw [r.st t]; rfl
theorem Run.not_basic (r : Run R n m S C L) (t : Nat) : ¬ Basic m (S t) (C t) := fun ⟨i, hi, e⟩ => by
  have h1 := (r.good t).goal_bas hi
  have h2 := r.neg t
  rw [e] at h1
  omega
/-- what is basic later and was not has entered -/
theorem Run.entered (r : Run R n m S C L) {v t1 : Nat} (h : ¬ Basic m (S t1) v) : ∀ k, Basic m (S (t1 + k)) v → ∃ t, t1 ≤ t ∧ t < t1 + k ∧ C t = v
  | 0, b => absurd b h
  | k + 1, ⟨i, hi, e⟩ => by
    have e' : (S (t1 + k + 1)).bas i = v := e
    rw [r.bas_next] at e'
    by_cases q : i = L (t1 + k)
    · rw [if_pos q] at e'
      exact ⟨t1 + k, by omega, by omega, e'⟩
    · rw [if_neg q] at e'
      obtain ⟨t, h1, h2, h3⟩ := r.entered h k ⟨i, hi, e'⟩
      exact ⟨t, h1, by omega, h3⟩
/-- what is basic and later is not has left -/
theorem Run.left (r : Run R n m S C L) {v t1 : Nat} (h : Basic m (S t1) v) : ∀ k, ¬ Basic m (S (t1 + k)) v → ∃ t, t1 ≤ t ∧ t < t1 + k ∧ (S t).bas (L t) = v
  | 0, b => absurd h b
  | k + 1, b => by
    by_cases q : Basic m (S (t1 + k)) v
    · obtain ⟨i, hi, e⟩ := q
      by_cases z : i = L (t1 + k)
      · subst z
        exact ⟨t1 + k, by omega, by omega, e⟩
      · refine absurd ⟨i, hi, ?_⟩ b
        show (S (t1 + k + 1)).bas i = v
        rw [r.bas_next, if_neg z]; exact e
    · obtain ⟨t, h1, h2, h3⟩ := r.left h k q
      exact ⟨t, h1, by omega, h3⟩
/-- the goal's value never falls -/
def Gle (w m : Nat) (s s' : St) : Prop := s.T m w * s'.d ≤ s'.T m w * s.d
theorem Gle.trans {w m : Nat} {a b c : St} (ha : 0 < a.d) (hb : 0 < b.d) (hc : 0 < c.d) (h1 : Gle w m a b) (h2 : Gle w m b c) : Gle w m a c := (ratio_trans hb ha hc h1 h2).1
theorem Run.goal_step (r : Run R n m S C L) (t : Nat) : (S t).d * (S (t + 1)).T m (n + m) = (S (t + 1)).d * (S t).T m (n + m) - (S t).T m (C t) * (S t).T (L t) (n + m) := by
  rw [r.st t]
  exact ((r.good t).turn_goal (r.lm t) (r.cn t) (Nat.le_refl _)).1
theorem Run.goal_le (r : Run R n m S C L) (t : Nat) : Gle (n + m) m (S t) (S (t + 1)) := by
  have h := r.goal_step t
  have a : (S t).T m (C t) * (S t).T (L t) (n + m) ≤ 0 := Int.mul_nonpos_of_nonpos_of_nonneg (Int.le_of_lt (r.neg t)) ((r.good t).ok _ (r.lm t))
  unfold Gle
  rw [Int.mul_comm ((S t).T m (n + m)), Int.mul_comm ((S (t + 1)).T m (n + m))]
  omega
theorem Run.goal_mono (r : Run R n m S C L) (t : Nat) : ∀ k, Gle (n + m) m (S t) (S (t + k))
  | 0 => Int.le_refl _
  | k + 1 => (r.goal_mono t k).trans (r.good _).pos (r.good _).pos (r.good _).pos (r.goal_le (t + k))
/-- in a circle nothing moves -/
theorem Run.flat (r : Run R n m S C L) {t P : Nat} (hP : 0 < P) (e : Eqv n m (S t) (S (t + P))) : (S t).T (L t) (n + m) = 0 := by
  have h1 := r.goal_mono (t + 1) (P - 1)
  rw [show t + 1 + (P - 1) = t + P by omega] at h1
  unfold Gle at h1
  rw [← e.T m (Nat.le_refl m) (n + m) (Nat.le_refl _), ← e.d] at h1
  have h2 := r.goal_step t
  have a : (S t).T m (C t) * (S t).T (L t) (n + m) ≤ 0 := Int.mul_nonpos_of_nonpos_of_nonneg (Int.le_of_lt (r.neg t)) ((r.good t).ok _ (r.lm t))
  rw [Int.mul_comm ((S (t + 1)).T m (n + m)), Int.mul_comm ((S t).T m (n + m))] at h1
  have z : (S t).T m (C t) * (S t).T (L t) (n + m) = 0 := by omega
  rcases Int.mul_eq_zero.mp z with q | q
  · have := r.neg t; omega
  · exact q
/-- the value nought stays -/
def Zero (n m : Nat) (s : St) (v : Nat) : Prop := ∀ i, i < m → s.bas i = v → s.T i (n + m) = 0
theorem Run.zero_step (r : Run R n m S C L) {t v : Nat} (f : (S t).T (L t) (n + m) = 0) (z : Zero n m (S t) v) : Zero n m (S (t + 1)) v := fun i hi e => by
  rw [r.bas_next] at e
  rw [r.st t]
  by_cases q : i = L t
  · subst q; rw [turn_row]; exact f
  · rw [if_neg q] at e
    have h := ((r.good t).turn_at (r.lm t) (r.cn t) hi q (Nat.le_refl (n + m))).1
    rw [z i hi e, f, Int.mul_zero, Int.mul_zero] at h
    have p := (r.good t).pos
    rcases Int.mul_eq_zero.mp h with x | x
    · omega
    · exact x
theorem greatest {C : Nat → Nat} {a : Nat} : ∀ {K : Nat}, (∀ t, a ≤ t → C t < K) → ∃ t, a ≤ t ∧ ∀ u, a ≤ u → C u ≤ C t
  | 0, h => absurd (h a (Nat.le_refl a)) (Nat.not_lt_zero _)
  | K + 1, h => by
    by_cases q : ∃ t, a ≤ t ∧ C t = K
    · obtain ⟨t, h1, h2⟩ := q
      exact ⟨t, h1, fun u hu => by have := h u hu; omega⟩
    · refine greatest (K := K) fun t ht => ?_
      have := h t ht
      have : C t ≠ K := fun e => q ⟨t, ht, e⟩
      omega
/-- no run goes in a circle: the rule of the least index -/
theorem Run.no_circle (r : Run R n m S C L) {a P : Nat} (hP : 0 < P) (per : ∀ t, a ≤ t → Eqv n m (S t) (S (t + P))) : False := by
  obtain ⟨t1, h1, hmax⟩ := greatest (C := C) (a := a) (K := n) fun t _ => r.cn t
  have flat : ∀ t, a ≤ t → (S t).T (L t) (n + m) = 0 := fun t ht => r.flat hP (per t ht)
  have b1 : Basic m (S (t1 + 1)) (C t1) := ⟨L t1, r.lm t1, by rw [r.bas_next, if_pos rfl]⟩
  have nb : ¬ Basic m (S (t1 + 1 + (P - 1))) (C t1) := by
    rw [show t1 + 1 + (P - 1) = t1 + P by omega]
    rintro ⟨i, hi, e⟩
    exact r.not_basic t1 ⟨i, hi, ((per t1 h1).bas i hi).trans e⟩
  obtain ⟨t2, k1, k2, k3⟩ := r.left b1 (P - 1) nb
  have g1 := r.good t1
  have g2 := r.good t2
  have sq : C t2 < C t1 := by
    have := hmax t2 (by omega)
    have : C t2 ≠ C t1 := fun e => by
      have x := g2.goal_bas (r.lm t2)
      rw [k3, ← e] at x
      have := r.neg t2
      omega
    omega
  -- the two goals along one way
  have key : (S t1).T m (C t2) * (S t2).d - sm (fun i => (S t1).T m ((S t2).bas i) * (S t2).T i (C t2)) m = (S t1).d * (S t2).T m (C t2) := by
    have row : ∀ j, j ≤ n + m → (S t1).T m j = (S t1).d * hlp n m j - sm (fun k => sm (fun i => if n ≤ (S t1).bas i then (S t1).T i (n + k) else 0) m * A0 R n m k j) m := fun j hj => by
      rw [g1.gg j hj]
      congr 1
      unfold hsum
      have : sm (fun i => if n ≤ (S t1).bas i then (S t1).T i j else 0) m = sm (fun i => sm (fun k => (if n ≤ (S t1).bas i then (S t1).T i (n + k) else 0) * A0 R n m k j) m) m := sm_congr fun i hi => by
        by_cases q : n ≤ (S t1).bas i
        · rw [if_pos q, g1.row hi hj]
          exact sm_congr fun k _ => by rw [if_pos q]
        · rw [if_neg q]
          exact (sm_zero fun k _ => by rw [if_neg q, Int.zero_mul]).symm
      rw [this, sm_comm]
      refine sm_congr fun k _ => ?_
      rw [Int.mul_comm, ← sm_mul]
      exact sm_congr fun i _ => Int.mul_comm _ _
    have hs : hlp n m (C t2) = 0 := if_neg (by have := r.cn t2; omega)
    have cn2 := r.cn t2
    have e2 := g2.gg (C t2) (by omega)
    rw [hs, Int.mul_zero, Int.zero_sub] at e2
    have e3 : sm (fun i => (S t1).T m ((S t2).bas i) * (S t2).T i (C t2)) m =
        (S t1).d * hsum n m (S t2).bas (S t2).T (C t2) - sm (fun k => sm (fun i => if n ≤ (S t1).bas i then (S t1).T i (n + k) else 0) m * ((S t2).d * A0 R n m k (C t2))) m := by
      have x1 : sm (fun i => (S t1).T m ((S t2).bas i) * (S t2).T i (C t2)) m = sm (fun i => (S t1).d * (if n ≤ (S t2).bas i then (S t2).T i (C t2) else 0) - sm (fun k => sm (fun i => if n ≤ (S t1).bas i then (S t1).T i (n + k) else 0) m * (A0 R n m k ((S t2).bas i) * (S t2).T i (C t2))) m) m := sm_congr fun i hi => by
        have b := g2.bb i hi
        rw [row _ (Nat.le_of_lt b), Int.sub_mul]
        congr 1
        · unfold hlp
          by_cases q : n ≤ (S t2).bas i
          · rw [if_pos q, if_pos ⟨q, b⟩, Int.mul_one]
          · rw [if_neg q, if_neg (fun z => q z.1)]; simp
        · rw [Int.mul_comm, ← sm_mul]
          exact sm_congr fun k _ => by grind
      rw [x1, sm_sub, sm_mul, sm_comm]
      congr 1
      refine sm_congr fun k hk => ?_
      rw [g2.cr k hk _ (by omega), ← sm_mul]
    rw [e3, row _ (show C t2 ≤ n + m by omega), hs, e2]
    have x2 : (S t2).d * sm (fun k => sm (fun i => if n ≤ (S t1).bas i then (S t1).T i (n + k) else 0) m * A0 R n m k (C t2)) m = sm (fun k => sm (fun i => if n ≤ (S t1).bas i then (S t1).T i (n + k) else 0) m * ((S t2).d * A0 R n m k (C t2))) m := by
      rw [← sm_mul]
      exact sm_congr fun k _ => by grind
    rw [← x2]
    grind
  have p1 := g1.pos
  have p2 := g2.pos
  have n2 := r.neg t2
  have y1 : (S t1).d * (S t2).T m (C t2) < 0 := Int.mul_neg_of_pos_of_neg p1 n2
  have y2 : 0 ≤ (S t1).T m (C t2) * (S t2).d := Int.mul_nonneg (r.fst t1 _ sq) (by omega)
  obtain ⟨i, hi, pi⟩ := sm_pos_some (f := fun i => (S t1).T m ((S t2).bas i) * (S t2).T i (C t2)) (n := m) (by omega)
  have pi' : 0 < (S t1).T m ((S t2).bas i) * (S t2).T i (C t2) := pi
  have nb1 : ¬ Basic m (S t1) ((S t2).bas i) := fun ⟨l, hl, e⟩ => by
    have x := g1.goal_bas hl
    rw [e] at x
    rw [x, Int.zero_mul] at pi'
    omega
  obtain ⟨t, u1, u2, u3⟩ := r.entered nb1 (t2 - t1) (by rw [show t1 + (t2 - t1) = t2 by omega]; exact ⟨i, hi, rfl⟩)
  have vq : (S t2).bas i ≤ C t1 := by rw [← u3]; exact hmax t (by omega)
  have vne : (S t2).bas i ≠ C t1 := fun e => by
    have il : i = L t2 := g2.inj hi (r.lm t2) (e.trans k3.symm)
    have x1 := r.neg t1
    have x2 := r.pos t2
    rw [e, il] at pi'
    have := Int.mul_neg_of_neg_of_pos x1 x2
    omega
  have v0 : 0 ≤ (S t1).T m ((S t2).bas i) := r.fst t1 _ (by omega)
  have w0 : 0 < (S t2).T i (C t2) := by
    by_cases q : 0 < (S t2).T i (C t2)
    · exact q
    · have := Int.mul_nonpos_of_nonneg_of_nonpos v0 (show (S t2).T i (C t2) ≤ 0 by omega)
      omega
  have z1 : Zero n m (S t1) ((S t2).bas i) := fun l hl e => absurd ⟨l, hl, e⟩ nb1
  have zk : ∀ k, Zero n m (S (t1 + k)) ((S t2).bas i) := fun k => by
    induction k with
    | zero => exact z1
    | succ k ih => exact r.zero_step (flat (t1 + k) (by omega)) ih
  have z2 : (S t2).T i (n + m) = 0 := by
    have := zk (t2 - t1)
    rw [show t1 + (t2 - t1) = t2 by omega] at this
    exact this i hi rfl
  rcases r.le t2 i hi w0 with x | ⟨_, x⟩
  · rw [z2, flat t2 (by omega), Int.zero_mul, Int.zero_mul] at x
    omega
  · rw [k3] at x
    omega
end
/-! ### so many rows of so many letters -/
def enc (K : Nat) (g : Nat → Nat) : Nat → Nat
  | 0 => 0
  | m + 1 => enc K g m * K + g m
theorem enc_lt {K : Nat} {g : Nat → Nat} : ∀ {m : Nat}, (∀ i, i < m → g i < K) → enc K g m < K ^ m
  | 0, _ => by show 0 < 1; decide
  | m + 1, h => by
    have ih := enc_lt (m := m) fun i hi => h i (by omega)
    have hm := h m (Nat.lt_succ_self m)
    show enc K g m * K + g m < K ^ m * K
    have : (enc K g m + 1) * K ≤ K ^ m * K := Nat.mul_le_mul_right K ih
    rw [Nat.succ_mul] at this
    omega
theorem enc_inj {K : Nat} {g g' : Nat → Nat} : ∀ {m : Nat}, (∀ i, i < m → g i < K) → (∀ i, i < m → g' i < K) → enc K g m = enc K g' m → ∀ i, i < m → g i = g' i
  | 0, _, _, _, i, hi => absurd hi (Nat.not_lt_zero _)
  | m + 1, h, h', e, i, hi => by
    have e' : enc K g m * K + g m = enc K g' m * K + g' m := e
    have hm := h m (Nat.lt_succ_self m)
    have hm' := h' m (Nat.lt_succ_self m)
    have e1 : g m = g' m := by
      have a := congrArg (· % K) e'
      simp only [Nat.mul_comm _ K, Nat.mul_add_mod, Nat.mod_eq_of_lt hm, Nat.mod_eq_of_lt hm'] at a
      exact a
    have e2 : enc K g m = enc K g' m := by
      rw [e1] at e'
      exact Nat.eq_of_mul_eq_mul_right (show 0 < K by omega) (by omega)
    by_cases q : i = m
    · subst q; exact e1
    · exact enc_inj (fun j hj => h j (by omega)) (fun j hj => h' j (by omega)) e2 i (by omega)
theorem pigeon : ∀ (N : Nat) (f : Nat → Nat), (∀ t, t ≤ N → f t < N) → ∃ i j, i < j ∧ j ≤ N ∧ f i = f j
  | 0, f, h => absurd (h 0 (Nat.le_refl 0)) (Nat.not_lt_zero _)
  | N + 1, f, h => by
    by_cases q : ∃ i, i ≤ N ∧ f i = f (N + 1)
    · obtain ⟨i, h1, h2⟩ := q
      exact ⟨i, N + 1, by omega, Nat.le_refl _, h2⟩
    · obtain ⟨i, j, h1, h2, h3⟩ := pigeon N (fun t => if f t < f (N + 1) then f t else f t - 1) fun t ht => by
        have a := h t (by omega)
        have b := h (N + 1) (Nat.le_refl _)
        have c : f t ≠ f (N + 1) := fun e => q ⟨t, ht, e⟩
        show (if f t < f (N + 1) then f t else f t - 1) < N
        split <;> omega
      refine ⟨i, j, h1, by omega, ?_⟩
      have ci : f i ≠ f (N + 1) := fun e => q ⟨i, by omega, e⟩
      have cj : f j ≠ f (N + 1) := fun e => q ⟨j, by omega, e⟩
      have h3' : (if f i < f (N + 1) then f i else f i - 1) = if f j < f (N + 1) then f j else f j - 1 := h3
      split at h3' <;> split at h3' <;> omega
def it (n m : Nat) (s : St) : Nat → St
  | 0 => s
  | t + 1 => nxt n m (it n m s t)
theorem it_good {R : Nat → Nat → Int} {n m : Nat} {s : St} (g : Good R n m s) : ∀ t, Good R n m (it n m s t)
  | 0 => g
  | t + 1 => (it_good g t).nxt
/-- THE END COMES -/
theorem ends {R : Nat → Nat → Int} {n m : Nat} {s : St} (g : Good R n m s) : ∃ t, ent n m (it n m s t) = none := by
  apply Classical.byContradiction
  intro no
  have ex : ∀ t, ∃ c r, ent n m (it n m s t) = some c ∧ lv (n + m) (it n m s t) c m = some r := fun t => by
    cases e : ent n m (it n m s t) with
    | none => exact absurd ⟨t, e⟩ no
    | some c =>
      obtain ⟨h1, h2, _⟩ := ent_some e
      obtain ⟨r, hr⟩ := (it_good g t).leaves h1 h2
      exact ⟨c, r, rfl, hr⟩
  obtain ⟨C, exC⟩ := Classical.axiomOfChoice ex
  obtain ⟨L, exL⟩ := Classical.axiomOfChoice exC
  have run : Run R n m (it n m s) C L := {
    good := it_good g
    cn := fun t => (ent_some (exL t).1).1
    neg := fun t => (ent_some (exL t).1).2.1
    fst := fun t => (ent_some (exL t).1).2.2
    lm := fun t => (lv_some (exL t).2).1
    pos := fun t => (lv_some (exL t).2).2.1
    le := fun t => (lv_some (exL t).2).2.2
    st := fun t => by
      show nxt n m (it n m s t) = _
      unfold nxt
      rw [(exL t).1]
      show (match lv (n + m) (it n m s t) (C t) m with | none => _ | some r => _) = _
      rw [(exL t).2] }
  obtain ⟨a, b, hab, _, e⟩ := pigeon ((n + m) ^ m) (fun t => enc (n + m) (it n m s t).bas m) fun t _ => enc_lt fun i hi => (it_good g t).bb i hi
  have eb := enc_inj (fun i hi => (it_good g a).bb i hi) (fun i hi => (it_good g b).bb i hi) e
  have e0 := Eqv.of_bas (it_good g a) (it_good g b) eb
  have all : ∀ k, Eqv n m (it n m s (a + k)) (it n m s (b + k)) := fun k => by
    induction k with
    | zero => exact e0
    | succ k ih =>
      have c1 := (exL (a + k)).1
      have c2 := (exL (b + k)).1
      rw [ih.ent, c2] at c1
      have ec : C (b + k) = C (a + k) := Option.some.inj c1
      have l1 := (exL (a + k)).2
      have l2 := (exL (b + k)).2
      rw [ih.lv (run.cn (a + k)) m (Nat.le_refl m), ← ec, l2] at l1
      have el : L (b + k) = L (a + k) := Option.some.inj l1
      show Eqv n m (it n m s (a + k + 1)) (it n m s (b + k + 1))
      rw [run.st, run.st, ec, el]
      exact ih.turn (run.lm _) (run.cn _)
  refine run.no_circle (a := a) (P := b - a) (by omega) fun t ht => ?_
  have := all (t - a)
  rw [show a + (t - a) = t by omega, show b + (t - a) = t + (b - a) by omega] at this
  exact this
end Sx
namespace Sx
section
variable {R : Nat → Nat → Int} {n m : Nat} {s : St}
/-- a column's value: the line in which it stands -/
def wt (n m : Nat) (s : St) (j : Nat) : Int := sm (fun i => if s.bas i = j then s.T i (n + m) else 0) m
/-- the same, line by line -/
def fnd (n m : Nat) (s : St) : Nat → Nat → Int
  | 0, _ => 0
  | a + 1, j => if s.bas a = j then s.T a (n + m) else fnd n m s a j
theorem fnd_sm (g : Good R n m s) (j : Nat) : ∀ a, a ≤ m → fnd n m s a j = sm (fun i => if s.bas i = j then s.T i (n + m) else 0) a
  | 0, _ => rfl
  | a + 1, ha => by
    show (if s.bas a = j then s.T a (n + m) else fnd n m s a j) = sm _ a + (if s.bas a = j then s.T a (n + m) else 0)
    by_cases q : s.bas a = j
    · rw [if_pos q, if_pos q, sm_zero fun k hk => if_neg fun e => by
        have := g.inj (show k < m by omega) (show a < m by omega) (e.trans q.symm)
        omega]
      omega
    · rw [if_neg q, if_neg q, fnd_sm g j a (by omega)]
      omega
theorem fnd_wt (g : Good R n m s) (j : Nat) : fnd n m s m j = wt n m s j := fnd_sm g j m (Nat.le_refl m)
theorem wt_nonneg (g : Good R n m s) (j : Nat) : 0 ≤ wt n m s j := sm_nonneg fun i hi => by
  split
  · exact g.ok i hi
  · exact Int.le_refl 0
theorem helpers_nought (g : Good R n m s) (z : s.T m (n + m) = 0) {i : Nat} (hi : i < m) (h : n ≤ s.bas i) : s.T i (n + m) = 0 := by
  have e := g.gg (n + m) (Nat.le_refl _)
  have h0 : hlp n m (n + m) = 0 := if_neg (by omega)
  rw [h0, Int.mul_zero, z] at e
  have e2 : hsum n m s.bas s.T (n + m) = 0 := by omega
  have := sm_all_zero (fun k hk => by
    show 0 ≤ if n ≤ s.bas k then s.T k (n + m) else 0
    split
    · exact g.ok k hk
    · exact Int.le_refl 0) e2 i hi
  rw [if_pos h] at this
  exact this
/-- THE WEIGHTS: they add the columns up to the right side -/
theorem wt_sum (g : Good R n m s) (z : s.T m (n + m) = 0) {k : Nat} (hk : k < m) : sm (fun j => R k j * wt n m s j) n = if k + 1 = m then s.d else 0 := by
  have c := g.cr k hk (n + m) (Nat.le_refl _)
  have a : A0 R n m k (n + m) = if k + 1 = m then 1 else 0 := by
    unfold A0
    rw [if_neg (by omega), if_neg (by omega)]
  rw [a] at c
  have e : sm (fun j => R k j * wt n m s j) n = sm (fun i => A0 R n m k (s.bas i) * s.T i (n + m)) m := by
    have e1 : sm (fun j => R k j * wt n m s j) n = sm (fun j => sm (fun i => R k j * if s.bas i = j then s.T i (n + m) else 0) m) n := sm_congr fun j _ => by
      show R k j * sm _ m = _
      rw [← sm_mul]
    rw [e1, sm_comm]
    refine sm_congr fun i hi => ?_
    by_cases q : s.bas i < n
    · rw [sm_one q fun j _ hne => by rw [if_neg fun e => hne e.symm, Int.mul_zero]]
      rw [if_pos rfl]
      unfold A0
      rw [if_pos q]
    · rw [helpers_nought g z hi (by omega), Int.mul_zero]
      exact sm_zero fun j _ => by split <;> exact Int.mul_zero _
  rw [e, ← c]
  by_cases q : k + 1 = m
  · rw [if_pos q, if_pos q, Int.mul_one]
  · rw [if_neg q, if_neg q, Int.mul_zero]
/-- the goal's line by its helpers -/
theorem goal_made (g : Good R n m s) {j : Nat} (hj : j ≤ n + m) : s.T m j = s.d * hlp n m j - sm (fun k => (s.d - s.T m (n + k)) * A0 R n m k j) m := by
  rw [g.gg j hj]
  congr 1
  have y : ∀ k, k < m → s.d - s.T m (n + k) = hsum n m s.bas s.T (n + k) := fun k hk => by
    rw [g.gg (n + k) (by omega)]
    have : hlp n m (n + k) = 1 := if_pos (by omega)
    rw [this]; omega
  have e1 : hsum n m s.bas s.T j = sm (fun i => sm (fun k => (if n ≤ s.bas i then s.T i (n + k) else 0) * A0 R n m k j) m) m := sm_congr fun i hi => by
    by_cases q : n ≤ s.bas i
    · rw [if_pos q, g.row hi hj]
      exact sm_congr fun k _ => by rw [if_pos q]
    · rw [if_neg q]
      exact (sm_zero fun k _ => by rw [if_neg q, Int.zero_mul]).symm
  rw [e1, sm_comm]
  refine sm_congr fun k hk => ?_
  rw [y k hk]
  unfold hsum
  rw [Int.mul_comm, ← sm_mul]
  exact sm_congr fun i _ => Int.mul_comm _ _
theorem goal_right (g : Good R n m s) (hm : 0 < m) : s.T m (n + m) = s.T m (n + (m - 1)) - s.d := by
  rw [goal_made g (Nat.le_refl _)]
  have h0 : hlp n m (n + m) = 0 := if_neg (by omega)
  rw [h0, sm_one (i := m - 1) (by omega) fun k hk hne => by
    have : A0 R n m k (n + m) = 0 := by
      unfold A0
      rw [if_neg (by omega), if_neg (by omega), if_neg (by omega)]
    rw [this, Int.mul_zero]]
  have : A0 R n m (m - 1) (n + m) = 1 := by
    unfold A0
    rw [if_neg (by omega), if_neg (by omega), if_pos (by omega)]
  rw [this]; omega
theorem goal_neg (g : Good R n m s) (z : s.T m (n + m) ≠ 0) : s.T m (n + m) < 0 := by
  have e := g.gg (n + m) (Nat.le_refl _)
  have h0 : hlp n m (n + m) = 0 := if_neg (by omega)
  rw [h0, Int.mul_zero] at e
  have : 0 ≤ hsum n m s.bas s.T (n + m) := sm_nonneg fun k hk => by
    split
    · exact g.ok k hk
    · exact Int.le_refl 0
  omega
/-- THE POINT: a column's value at it -/
theorem point_value (g : Good R n m s) (hm : 0 < m) {j : Nat} (hj : j < n) : sm (fun k => R k j * (s.T m (n + k) - s.d)) (m - 1) = s.T m j - R (m - 1) j * s.T m (n + m) := by
  have e := goal_made g (show j ≤ n + m by omega)
  have h0 : hlp n m j = 0 := if_neg (by omega)
  rw [h0, Int.mul_zero, Int.zero_sub] at e
  have r := goal_right g hm
  obtain ⟨k', rfl⟩ : ∃ k', m = k' + 1 := ⟨m - 1, by omega⟩
  have e2 : sm (fun k => (s.d - s.T (k' + 1) (n + k)) * A0 R n (k' + 1) k j) (k' + 1) = sm (fun k => (s.d - s.T (k' + 1) (n + k)) * A0 R n (k' + 1) k j) k' + (s.d - s.T (k' + 1) (n + k')) * A0 R n (k' + 1) k' j := rfl
  rw [e2] at e
  have a : ∀ k, A0 R n (k' + 1) k j = R k j := fun k => by unfold A0; rw [if_pos hj]
  have e3 : sm (fun k => (s.d - s.T (k' + 1) (n + k)) * A0 R n (k' + 1) k j) k' = - sm (fun k => R k j * (s.T (k' + 1) (n + k) - s.d)) k' := by
    have : - sm (fun k => R k j * (s.T (k' + 1) (n + k) - s.d)) k' = (-1) * sm (fun k => R k j * (s.T (k' + 1) (n + k) - s.d)) k' := by omega
    rw [this, ← sm_mul]
    exact sm_congr fun k _ => by rw [a]; grind
  rw [e3, a] at e
  rw [show k' + 1 - 1 = k' from rfl] at r ⊢
  rw [r]
  grind
end
/-- a point at which all bounds hold and weights that clash never come together -/
theorem never_both {n q : Nat} {F : Nat → Nat → Int} {str : Nat → Bool} {p wts : Nat → Int}
    (hp : ∀ j, j < n → 0 ≤ sm (fun k => F j k * p k) q ∧ (str j = true → 0 < sm (fun k => F j k * p k) q))
    (hw : ∀ j, j < n → 0 ≤ wts j) (hs : ∀ k, k < q → sm (fun j => wts j * F j k) n = 0) (hx : ∃ j, j < n ∧ str j = true ∧ 0 < wts j) : False := by
  have z : sm (fun j => wts j * sm (fun k => F j k * p k) q) n = 0 := by
    have : sm (fun j => wts j * sm (fun k => F j k * p k) q) n = sm (fun j => sm (fun k => p k * (wts j * F j k)) q) n := sm_congr fun j _ => by
      rw [← sm_mul]
      exact sm_congr fun k _ => by grind
    rw [this, sm_comm]
    exact sm_zero fun k hk => by rw [sm_mul, hs k hk, Int.mul_zero]
  obtain ⟨j, hj, sj, wj⟩ := hx
  have := sm_all_zero (fun j hj => Int.mul_nonneg (hw j hj) (hp j hj).1) z j hj
  have v := (hp j hj).2 sj
  have := Int.mul_pos wj v
  omega
end Sx
namespace RC
open PySem PySem.Spec PyProof.Rows L2
/-! ### zip over a list and a tuple in any mix -/
def SqB (K : PySem.W.Frag) (H : Hp) (a : Addr) (xs : List V) : Bool → Prop
  | true => SqT K H a xs
  | false => SqL K H a xs
def IterB (h : Heap) (it a : Addr) (i : Nat) : Bool → Prop
  | true => h.IsTupleIter it a i
  | false => h.IsListIter it a i
def SeqB (h : Heap) (a : Addr) (its : Array Value) : Bool → Prop
  | true => h.IsTuple a its
  | false => h.IsList a its
theorem drawsB {prog : Program} {w : World} {A : Around} (hh : A.handled = none) (t : Bool) (it a : Addr) (hne : a ≠ it) (its : Array Value) :
    Draws prog w A it [it, a] its.size (fun i v => its[i]? = some v) (fun i h => IterB h it a i t ∧ SeqB h a its t) := by
  cases t with
  | true => exact Draws.tuple hh it a hne its
  | false => exact Draws.list hh it a hne its
section
variable {X : Cx} {pins : List (Addr × Obj)} {σ : L2.St} {H : Hp} {s : Shared} {a : Addr} {xs ys : List V}
theorem inv_seqB (I : Inv X pins σ H s) {t : Bool} (h : SqB X.K H a xs t) : ∃ its : List Value, Vals xs its ∧ SeqB s.heap a its.toArray t ∧ xs.length ≤ sizeLine ∧ a < s.heap.objs.size := by
  cases t with
  | true =>
    obtain ⟨its, r, p, z⟩ := I.tuple h
    exact ⟨its, r, p, z, p.lt⟩
  | false =>
    obtain ⟨its, r, p, z⟩ := I.list h
    exact ⟨its, r, p.isList, z, p.lt⟩
theorem inv_injB (I : Inv X pins σ H s) {t : Bool} (h : SqB X.K H a xs t) (h' : SqB X.K H a ys t) : xs = ys := by
  cases t with
  | true => exact I.tuple_inj h h'
  | false => exact I.list_inj h h'
end
theorem iterB_obj {h : Heap} {it a : Addr} {i : Nat} {t : Bool} (st : IterB h it a i t) : ∃ o, h.get? it = some o ∧ ∀ v, o.data ≠ .cell v := by
  cases t with
  | true =>
    obtain ⟨o, e, _, d⟩ := st
    exact ⟨o, e, fun v z => by rw [d] at z; cases z⟩
  | false =>
    obtain ⟨o, e, _, d⟩ := st
    exact ⟨o, e, fun v z => by rw [d] at z; cases z⟩
theorem iterB_at {h h' : Heap} {it a : Addr} {i : Nat} {t : Bool} (st : IterB h it a i t) (k : ∀ o, h.get? it = some o → h'.get? it = some o) : IterB h' it a i t := by
  cases t with
  | true => exact Heap.IsTupleIter.at st k
  | false => exact Heap.IsListIter.at st k
/-- both as they stand at each turn, the items in new pairs -/
def ItzM (K : PySem.W.Frag) (a b : Addr) (ta tb : Bool) : It :=
  ⟨fun i H => ∃ (xs ys : List V) (x y : V), SqB K H a xs ta ∧ SqB K H b ys tb ∧ xs[i]? = some x ∧ ys[i]? = some y,
    fun i H v H' => ∃ T x y, v = .ref T ∧ H T = none ∧ H' = upd H T (.tup [x, y]) ∧ (∀ xs, SqB K H a xs ta → xs[i]? = some x) ∧ ∀ ys, SqB K H b ys tb → ys[i]? = some y,
    fun i H => ∃ xs ys : List V, SqB K H a xs ta ∧ SqB K H b ys tb ∧ i ≤ xs.length ∧ i ≤ ys.length ∧ (i = xs.length ∨ i = ys.length)⟩
theorem turn_zipM {P : Program} {w : World} {K : PySem.W.Frag} {elts : List Expr} {kk : Nat} {tpos : Pos} {a b z TI TO i1 i2 : Addr} {ta tb : Bool} (D : ZipSep2 z TI TO i1 i2 [i1, a] [i2, b]) (na : a ≠ i1) (nb : b ≠ i2) :
    Turn P w K (.Tuple elts kk tpos) (ItzM K a b ta tb) [z, TI, TO, i1, i2] z (fun i h => IsZip h z TI TO .none ∧ IsTupOf2 h TI (.ref i1) (.ref i2) ∧ (∃ x y, IsTupOf2 h TO x y) ∧ IterB h i1 a i ta ∧ IterB h i2 b i tb) where
  mem := by simp
  obj := fun i h st c hc => by
    obtain ⟨hz, hTI, ⟨x, y, hTO⟩, h1, h2⟩ := st
    have e' : c = z ∨ c = TI ∨ c = TO ∨ c = i1 ∨ c = i2 := by simpa using hc
    rcases e' with q | q | q | q | q
    · rw [q]; exact ⟨_, hz, fun v q => nomatch q⟩
    · rw [q]; exact ⟨_, hTI, fun v q => nomatch q⟩
    · rw [q]; exact ⟨_, hTO, fun v q => nomatch q⟩
    · rw [q]; exact iterB_obj h1
    · rw [q]; exact iterB_obj h2
  keep := fun i h h' st k => by
    obtain ⟨hz, hTI, ⟨x, y, hTO⟩, h1, h2⟩ := st
    exact ⟨k z (by simp) _ hz, k TI (by simp) _ hTI, ⟨x, y, k TO (by simp) _ hTO⟩, iterB_at h1 fun o q => k i1 (by simp) o q, iterB_at h2 fun o q => k i2 (by simp) o q⟩
  item := by
    intro X hP hw hK hc i pins s σ H E I hf st hg
    subst hP hw hK
    obtain ⟨hz, hTI, ⟨x0, y0, hTO⟩, h1, h2⟩ := st
    obtain ⟨xs, ys, x, y, hqx, hqy, hx, hy⟩ := hg
    obtain ⟨its, rv, p, _, la⟩ := inv_seqB I hqx
    obtain ⟨its2, rv2, p2, _, lb⟩ := inv_seqB I hqy
    have hh : X.A.in1.handled = none := I.ok.hd hc
    obtain ⟨u, hu, ru⟩ := rv.get hx
    obtain ⟨u2, hu2, ru2⟩ := rv2.get hy
    have l1 := (List.getElem?_eq_some_iff.mp hu).1
    have l2 := (List.getElem?_eq_some_iff.mp hu2).1
    have hzl : z < s.heap.objs.size := Heap.lt_size hz
    refine wpAny_pyNext_zipD2_item D (drawsB hh ta i1 a na its.toArray) (drawsB hh tb i2 b nb its2.toArray) hz hTI hTO ⟨h1, p⟩ ⟨h2, p2⟩ (by simpa using l1) (by simpa using l2) fun x1 x2 h' tk e1 e2 z' TO' d1 d2 hT hsz hk => ?_
    obtain rfl : u = x1 := by simpa [hu] using e1
    obtain rfl : u2 = x2 := by simpa [hu2] using e2
    refine ⟨_, rfl, wpAny_letOwnedTupleGo_zip (s := { s with heap := h', toks := tk }) z' fun h'' z'' sb => ?_⟩
    have hT2 : h''.get? s.heap.objs.size = some { cls := .type "tuple", data := .seq #[u, u2] } := (sb.2 _ (Nat.ne_of_gt hzl)).trans hT
    have new : ObjOk X.prog X.w (upd H s.heap.objs.size (.tup [x, y])) h'' s.heap.objs.size (.tup [x, y]) :=
      ⟨by show 2 ≤ sizeLine; decide, [u, u2], .cons ru (.cons ru2 .nil), ⟨_, hT2, rfl, _, rfl⟩⟩
    have I1 : L2.Inv X pins σ (upd H s.heap.objs.size (.tup [x, y])) { s with heap := h'', toks := tk } :=
      I.turnedNew (t' := tk) (ch := [z, TI, TO, i1, i2]) (fun c o hb q => (sb.2 c (fun q' => hb (by simp [q']))).trans (hk c o (fun q' => hb (by simp [q'])) (fun q' => hb (by simp [q'])) (fun q' => hb (by simp [q'])) (fun q' => hb (by simp [q'])) q)) hf (Nat.le_refl _) new
    refine ⟨.ref s.heap.objs.size, _, I1, rfl, ⟨_, x, y, rfl, I.hok.fresh (Nat.le_refl _), rfl, fun l hl => by rw [inv_injB I hl hqx]; exact hx, fun l hl => by rw [inv_injB I hl hqy]; exact hy⟩, ⟨z'', ?_, ⟨u, u2, ?_⟩, ?_, ?_⟩, fun c hcm => ?_⟩
    · exact (sb.2 _ D.TIz).trans (hk _ _ D.TIz D.TITO D.TIi1 D.TIi2 hTI)
    · exact (sb.2 _ D.TOz).trans TO'
    · exact iterB_at d1.1 fun o q => (sb.2 _ D.zi1.symm).trans q
    · exact iterB_at d2.1 fun o q => (sb.2 _ D.zi2.symm).trans q
    · have hlt : c < s.heap.objs.size := by
        have e' : c = z ∨ c = TI ∨ c = TO ∨ c = i1 ∨ c = i2 := by simpa using hcm
        rcases e' with q | q | q | q | q
        · rw [q]; exact hzl
        · rw [q]; exact Heap.lt_size hTI
        · rw [q]; exact Heap.lt_size hTO
        · rw [q]; obtain ⟨_, e1, _⟩ := iterB_obj h1; exact Heap.lt_size e1
        · rw [q]; obtain ⟨_, e2, _⟩ := iterB_obj h2; exact Heap.lt_size e2
      rw [upd_ne (Nat.ne_of_lt hlt)]
      exact (hf c hcm).1
  done := by
    intro X hP hw hK hc i pins s σ H E I hf st hg
    subst hP hw hK
    obtain ⟨hz, hTI, ⟨x0, y0, hTO⟩, h1, h2⟩ := st
    obtain ⟨xs, ys, hqx, hqy, le1, le2, hend⟩ := hg
    obtain ⟨its, rv, p, _, la⟩ := inv_seqB I hqx
    obtain ⟨its2, rv2, p2, _, lb⟩ := inv_seqB I hqy
    have hh : X.A.in1.handled = none := I.ok.hd hc
    have l1 := rv.length
    have l2 := rv2.length
    exact wpAny_pyNext_zipD2_end D (drawsB hh ta i1 a na its.toArray) (drawsB hh tb i2 b nb its2.toArray) hz hTI hTO ⟨h1, p⟩ ⟨h2, p2⟩ (by simp; omega) (by simp; omega) (by simp; omega) fun h' tk hk => ⟨rfl, I.turnedL (t' := tk) (ch := [z, TI, TO, i1, i2]) (fun c o hb q =>
      hk c o (fun q' => hb (by simp [q'])) (fun q' => hb (by simp [q'])) (fun q' => hb (by simp [q'])) (fun q' => hb (by simp [q'])) q) hf⟩
  self := fun A i s Q E st h => wpAny_pyIter_zip st.1 h
def SeqO : Bool → Addr → Obj
  | true, a => { cls := .type "tuple_iterator", data := .fields #[.ref a, .int 0 0] }
  | false, a => { cls := .type "list_iterator", data := .fields #[.ref a, .int 0 0] }
theorem beginsB (t : Bool) (a : Addr) (its : Array Value) : Begins (.ref a) (SeqO t a) fun h => SeqB h a its t := by
  cases t with
  | true => exact begins_tuple a its
  | false => exact begins_list a its
theorem iterB_new {h : Heap} {it a : Addr} {t : Bool} (e : h.get? it = some (SeqO t a)) : IterB h it a 0 t := by
  cases t with
  | true => exact ⟨_, e, rfl, rfl⟩
  | false => exact ⟨_, e, rfl, rfl⟩
def iZipM (K : PySem.W.Frag) (ta tb : Bool) (tA : TA) : TI := fun σ H R => tA σ H fun vs H1 => ∃ a b xs ys, vs = [.ref a, .ref b] ∧ SqB K H1 a xs ta ∧ SqB K H1 b ys tb ∧ R (ItzM K a b ta tb) H1
theorem pi_zipM {X : Cx} (ta tb : Bool) {e e2 : Expr} {tA : TA} {p pos tpos : Pos} {elts : List Expr} {kk : Nat} (hg : Gl X "zip") (hm : X.mg "zip" = none) (ha : PA X [e, e2] tA)
    (hs : starEach [e, e2] X.env = (false, eval e X.env) :: starEach [e2] X.env := by rfl) (hpl : (backTo pos (starEach [e2] X.env)).any (·.1) = false := by rfl) :
    PI X (.Tuple elts kk tpos) (.Call (.Name "zip" p) [e, e2] [] pos) (iZipM X.K ta tb tA) := by
  refine ⟨fun pins s σ H R I h => ?_⟩
  refine Call_ (ld_blt I hg hm PyProof.Rows.boot_zip (PyProof.Rows.callWith_type1 (thn (ha.run pos pins s σ H _ I h) fun us s1 ⟨vs, H1, I1, r1, q1⟩ => ?_) hs hpl))
  obtain ⟨a, b, xs, ys, ex, hqx, hqy, q⟩ := q1
  subst ex
  obtain ⟨u1, u2, rfl, r1, r2⟩ := vals2 r1
  cases r1
  cases r2
  obtain ⟨its, rv, p1, _, la⟩ := inv_seqB I1 hqx
  obtain ⟨its2, rv2, p2, _, lb⟩ := inv_seqB I1 hqy
  refine zip_begins2 (beginsB ta a its.toArray) (beginsB tb b its2.toArray) p1 p2 fun h' hz hTI hTO h1 h2 hsz hk => wpAny_pyIter_zip hz ?_
  have I2 : L2.Inv X pins σ H1 { s1 with heap := h' } := I1.kept (t' := s1.toks) hk
  have D : ZipSep2 (s1.heap.objs.size + 4) (s1.heap.objs.size + 2) (s1.heap.objs.size + 3) s1.heap.objs.size (s1.heap.objs.size + 1) [s1.heap.objs.size, a] [s1.heap.objs.size + 1, b] :=
    zip_sep2 (fp1 := [a]) (fp2 := [b]) (fun c hc => by simp at hc; rw [hc]; exact la) (fun c hc => by simp at hc; rw [hc]; exact lb)
  refine ⟨s1.heap.objs.size + 4, [s1.heap.objs.size + 4, s1.heap.objs.size + 2, s1.heap.objs.size + 3, s1.heap.objs.size, s1.heap.objs.size + 1], _, _, H1, rfl, I2, turn_zipM D (Nat.ne_of_lt la) (Nat.ne_of_lt (Nat.lt_succ_of_lt lb)), ⟨hz, hTI, ⟨_, _, hTO⟩, iterB_new h1, iterB_new h2⟩, fun c hcm => ?_, q⟩
  have hle : s1.heap.objs.size ≤ c := by
    have e' : c = s1.heap.objs.size + 4 ∨ c = s1.heap.objs.size + 2 ∨ c = s1.heap.objs.size + 3 ∨ c = s1.heap.objs.size ∨ c = s1.heap.objs.size + 1 := by simpa using hcm
    rcases e' with z | z | z | z | z
    · rw [z]; exact Nat.le_add_right _ _
    · rw [z]; exact Nat.le_add_right _ _
    · rw [z]; exact Nat.le_add_right _ _
    · rw [z]; exact Nat.le_refl _
    · rw [z]; exact Nat.le_add_right _ _
  exact I1.fpOk hle (I1.hok.fresh hle)
/-- a comprehension over such a zip: as many turns as the shorter has -/
theorem lc_zipM {K : PySem.W.Frag} {a b : Addr} {ta tb : Bool} {xs ys : List V} {g : TG} {tt : TT} {te : TE} {vs : List Nat} {σ : L2.St} {H1 : Hp} {D : Addr} {Qd : Hp → Prop} (n : Nat) (hn : n = min xs.length ys.length) (Pv : Nat → Hp → Prop) (h0 : Pv 0 (upd H1 D (.lst [])))
    (hq : ∀ i H, i ≤ n → Pv i H → SqB K H a xs ta ∧ SqB K H b ys tb)
    (hs : ∀ i x y T H, xs[i]? = some x → ys[i]? = some y → Pv i H → H T = none → g (.ref T) (wipe σ vs) (upd H T (.tup [x, y])) fun σ2 H2 => wipe σ2 vs = wipe σ vs ∧ tt σ2 H2 fun b H3 =>
      if b = true then te σ2 H3 fun y H4 => ∃ acc, H4 D = some (.lst acc) ∧ acc.length < sizeLine ∧ Pv (i + 1) (upd H4 D (.lst (acc ++ [y]))) else Pv (i + 1) H3) (hd : ∀ H, Pv n H → Qd H) :
    ∃ W : Nat → Nat → Hp → Prop, (∃ m, W 0 m (upd H1 D (.lst []))) ∧ ∀ i m H, W i m H →
      ((ItzM K a b ta tb).stop i H ∧ Qd H) ∨ ((ItzM K a b ta tb).go i H ∧ ∃ Nx : Hp → Prop, (∀ H', Nx H' → ∃ m', m' < m ∧ W (i + 1) m' H') ∧ ∀ x H', (ItzM K a b ta tb).yld i H x H' → g x (wipe σ vs) H' fun σ2 H2 => wipe σ2 vs = wipe σ vs ∧ tt σ2 H2 fun b H3 =>
        if b = true then te σ2 H3 fun y H4 => ∃ acc, H4 D = some (.lst acc) ∧ acc.length < sizeLine ∧ Nx (upd H4 D (.lst (acc ++ [y]))) else Nx H3) := by
  refine ⟨fun i m H => m = n - i ∧ i ≤ n ∧ Pv i H, ⟨n, by simp, Nat.zero_le _, h0⟩, ?_⟩
  rintro i m H ⟨rfl, hi, p⟩
  obtain ⟨q1, q2⟩ := hq i H hi p
  by_cases hlt : i < n
  · have l1 : i < xs.length := by omega
    have l2 : i < ys.length := by omega
    refine .inr ⟨⟨xs, ys, xs[i], ys[i], q1, q2, by simp [l1], by simp [l2]⟩, Pv (i + 1), fun H' p' => ⟨n - (i + 1), by omega, rfl, hlt, p'⟩, fun x H' yy => ?_⟩
    obtain ⟨T, x, y, rfl, hT, rfl, hx, hy⟩ := yy
    exact hs i x y T H (hx xs q1) (hy ys q2) p hT
  · have e : i = n := by omega
    subst e
    exact .inl ⟨⟨xs, ys, q1, q2, by omega, by omega, by omega⟩, hd H p⟩
end RC
namespace RC
open PySem PySem.Spec PyProof.Rows L2
/-! ### len of an instance by its own __len__ -/
section
variable {X : Cx} {CX : CXT} {k : Nat} {f C : Addr} {fd : FuncData} {ps : List Str} {sp : Sp} {E : XK}
def rLenO (C : Addr) (sp : Sp) (E : XK) : List V → Hp → VK → Prop := fun xs H Q => ∃ (a dx : Addr) (fs : List (Str × V)), xs = [.ref a] ∧ H a = some (.ins C dx fs) ∧ sp [.ref a] H (fun v H' => ∃ n : Nat, v = .int n ∧ n < 1000000 ∧ Q (.int n) H') E
theorem call_lenO (F : FnOk X.prog X.w X.K X.mg X.base CX k f fd ps sp) (hr : Room (k + 1) X.A) (m : Meth X.K C "__len__" f) (hb : Binds X.K fd ps []) (hx : Passes CX X E) : CallR X (.builtin "len") (rLenO C sp E) := by
  intro pins s σ H xs us Q I r h
  obtain ⟨a, dx, fs, rfl, ha, h⟩ := h
  obtain ⟨u, rfl, ru⟩ := vals1 r
  obtain rfl : u = Value.ref a := ru
  obtain ⟨mA, O, _⟩ := ins_get I.hok ha
  obtain ⟨od, J, _⟩ := O.look
  obtain ⟨mm, Ff⟩ := I.fr
  refine PySem.W.len_K Ff I.mod.kin J m.at_ m.fn ?_
  have hl : ([Value.ref a] ++ ([] : List Value)).length = ps.length := F.len _ _ _ _ h
  refine wpAny_call (codeAny_mono (F.run X.A.in1 X.stack s H ⟨[Value.ref a], []⟩ [Value.ref a] [V.ref a] _ E hr.in1 I.env0.in1 (by simpa using hb s [Value.ref a] I.kIn hl) (.cons rfl .nil) h) fun r s' hq => ?_)
  cases r with
  | error e => exact hx pins σ H s e s' I hq
  | ok fl =>
    cases fl with
    | ret v =>
      obtain ⟨w, H', I', rw', n, e, hn, q⟩ := I.after hq
      subst e
      obtain ⟨t, rfl⟩ := rw'
      show (0 ≤ (n : Int) ∧ (n : Int) < 2 ^ 63) ∧ _
      exact ⟨⟨by omega, by omega⟩, .int n, H', I'.tok _, ⟨_, rfl⟩, q⟩
    | next => exact False.elim hq
    | brk => exact False.elim hq
    | cont => exact False.elim hq
end
/-! ### a tuple times one is the tuple itself -/
section
variable {X : Cx}
theorem tuple_mul1 (l : Addr) (items : Array Value) (n : Nat) (dd : Option Addr) (sl : Array (Option Value)) (u : Tok) :
    Meets (Builtin.«tuple.__mul__» ⟨[.ref l, .int 1 u], []⟩) (fun _ R s => s.heap.get? l = some { cls := .type "tuple", dict := dd, data := .seq items n, slots := sl } ∧ R (.ok (.ret (Value.ref l))) s) :=
  .of_wp fun prog w A R s h => by
    obtain ⟨hp, g, d, tk, os⟩ := s
    obtain ⟨hl, h⟩ := h
    have f1 := AutoSeq1.idx_int
    wp_walk using wpAny_loadPart' hl
    repeat (first
      | (refine wpAny_ite_false (decide_eq_false (by decide)) ?_; wp_walk using wpAny_loadPart' hl)
      | (refine wpAny_ite_true (decide_eq_true (by simp)) ?_; wp_walk using wpAny_loadPart' hl))
    exact ⟨_, rfl, h⟩
def rRepT1 (K : PySem.W.Frag) : R2 := fun x y H Q => ∃ l xs, x = .ref l ∧ y = .int 1 ∧ SqT K H l xs ∧ Q (.ref l) H
theorem op_repT1 : OpR X (binaryOp .Mult) (rRepT1 X.K) := by
  intro pins s σ H x y v u Q I rx ry h
  obtain ⟨l, xs, rfl, rfl, hT, q⟩ := h
  cases rx
  obtain ⟨t, rfl⟩ := ry
  obtain ⟨its, r, ⟨⟨cls, dd, data, sl⟩, ho, hc, n, hd⟩, hs⟩ := I.tuple hT
  simp only at hc hd
  subst hc hd
  refine wpAny_binaryOp_repeat_ref (T := "tuple") (U := "int") (by decide) ⟨_, ho, rfl⟩ (fun s' => typeIs_int s' 1 t) noFill_tuple_mul F.fills_int_mul F.slot_int_rmul repeat_tuple F.slot_int_index.lookup
    (call_meets F.slot_int_rmul (typeIs_int s 1 t) F.entry_int_rmul (F.args_int_rmul_2 _ _) (int_rmul_tuple 1 t l its.toArray n dd sl)
      ⟨ho, rfl, ⟨_, ho, rfl⟩, call_meets F.slot_tuple_mul ⟨_, ho, rfl⟩ F.entry_tuple_mul (F.args_tuple_mul_2 _ _) (tuple_mul1 l its.toArray n dd sl t) ⟨ho, ?_⟩⟩)
  exact ⟨.ref l, H, I, rfl, q⟩
end
end RC
namespace RC
open PySem PySem.Spec PyProof.Rows L2
/-! ### heaps -/
theorem Same.upd {H H' : Hp} {p : Addr} {o : HO} (e : Same H H') (h : H p = none) : Same H (upd H' p o) := fun b u hb => by
  rw [upd_ne (ne_of_none hb h)]
  exact e b u hb
theorem Same.new {H : Hp} {p : Addr} {o : HO} (h : H p = none) : Same H (L2.upd H p o) := Same.upd (Same.refl H) h
theorem Same.seqT {K : PySem.W.Frag} {H H' : Hp} {a : Addr} {xs : List V} (e : Same H H') (h : SqT K H a xs) : SqT K H' a xs :=
  h.elim (fun h => .inl (h.elim (fun h => .inl (e _ _ h)) fun ⟨o, h⟩ => .inr ⟨o, e _ _ h⟩)) fun h => .inr h
theorem Same.seqL {K : PySem.W.Frag} {H H' : Hp} {a : Addr} {xs : List V} (e : Same H H') (h : SqL K H a xs) : SqL K H' a xs :=
  h.elim (fun h => .inl (h.elim (fun h => .inl (e _ _ h)) fun ⟨o, h⟩ => .inr ⟨o, e _ _ h⟩)) fun h => .inr h
theorem Same.seqB {K : PySem.W.Frag} {H H' : Hp} {a : Addr} {xs : List V} {t : Bool} (e : Same H H') (h : SqB K H a xs t) : SqB K H' a xs t := by
  cases t with
  | true => exact Same.seqT e h
  | false => exact Same.seqL e h
/-- all that was tracked is as it was, but for p -/
def SameBut (p : Addr) (H H' : Hp) : Prop := ∀ b o, b ≠ p → H b = some o → H' b = some o
theorem SameBut.refl (p : Addr) (H : Hp) : SameBut p H H := fun _ _ _ h => h
theorem SameBut.trans {p : Addr} {H H1 H2 : Hp} (a : SameBut p H H1) (b : SameBut p H1 H2) : SameBut p H H2 := fun c o n h => b c o n (a c o n h)
theorem SameBut.of {p : Addr} {H H' : Hp} (e : Same H H') : SameBut p H H' := fun b o _ h => e b o h
theorem SameBut.put {p : Addr} {H H' : Hp} {o : HO} (e : SameBut p H H') : SameBut p H (L2.upd H' p o) := fun b u n h => by
  rw [upd_ne n]
  exact e b u n h
theorem SameBut.upd {p q : Addr} {H H' : Hp} {o : HO} (e : SameBut p H H') (h : H q = none) : SameBut p H (L2.upd H' q o) := fun b u n hb => by
  rw [upd_ne (ne_of_none hb h)]
  exact e b u n hb
theorem lookup_hit (f : Str) (v : V) (r : List (Str × V)) : List.lookup f ((f, v) :: r) = some v := by
  have hb : (f == f) = true := beq_iff_eq.mpr rfl
  simp only [List.lookup, hb]
theorem lookup_miss {f g : Str} (h : ¬ g = f) (v : V) (r : List (Str × V)) : List.lookup g ((f, v) :: r) = List.lookup g r := by
  have hb : (g == f) = false := beq_eq_false_iff_ne.mpr h
  simp only [List.lookup, hb]
theorem putF_hit (f : Str) (u v : V) (r : List (Str × V)) : putF f v ((f, u) :: r) = (f, v) :: r := by
  show (if f = f then _ else _) = _
  rw [if_pos rfl]
theorem putF_miss {f g : Str} (h : ¬ g = f) (u v : V) (r : List (Str × V)) : putF f v ((g, u) :: r) = (g, u) :: putF f v r := by
  show (if g = f then _ else _) = _
  rw [if_neg h]
theorem putF_nil (f : Str) (v : V) : putF f v [] = [(f, v)] := rfl
/-! ### comprehensions that change nothing that was there -/
section
variable {α : Type} {K : PySem.W.Frag} {g : TG} {tt : TT} {te : TE} {vs : List Nat} {σ : L2.St} {H1 : Hp} {D : Addr} {Qd : Hp → Prop}
/-- one turn: the item x leads to fa x, or to nothing where p x is false -/
def TurnP (g : TG) (tt : TT) (te : TE) (vs : List Nat) (σ : L2.St) (H1 : Hp) (v : V) (y : V) (k : Bool) : Prop :=
  ∀ (H : Hp) (Nx : Hp → Prop) (Qe : VK), Same H1 H → (k = true → ∀ H', Same H H' → Qe y H') → (k = false → ∀ H', Same H H' → Nx H') →
    g v (wipe σ vs) H fun σ2 H2 => wipe σ2 vs = wipe σ vs ∧ tt σ2 H2 fun b H3 => if b = true then te σ2 H3 Qe else Nx H3
def PvP (H1 : Hp) (D : Addr) (as : List α) (p : α → Bool) (fa : α → V) (i : Nat) (H : Hp) : Prop := Same H1 H ∧ H D = some (.lst (((as.take i).filter p).map fa))
theorem PvP.zero {as : List α} {p : α → Bool} {fa : α → V} (hD : H1 D = none) : PvP H1 D as p fa 0 (upd H1 D (.lst [])) := ⟨Same.new hD, by rw [upd_same]; rfl⟩
theorem take_succ {as : List α} {i : Nat} {x : α} (h : as[i]? = some x) : as.take (i + 1) = as.take i ++ [x] := by
  rw [List.take_add_one, h]
  rfl
theorem PvP.keep {as : List α} {p : α → Bool} {fa : α → V} {i : Nat} {x : α} {H H' : Hp} (hD : H1 D = none) (hz : as.length ≤ sizeLine) (hx : as[i]? = some x) (P : PvP H1 D as p fa i H) (k : p x = true) (e : Same H H') :
    ∃ acc, H' D = some (.lst acc) ∧ acc.length < sizeLine ∧ PvP H1 D as p fa (i + 1) (upd H' D (.lst (acc ++ [fa x]))) := by
  refine ⟨_, e _ _ P.2, ?_, Same.upd (P.1.trans e) hD, ?_⟩
  · have hi := (List.getElem?_eq_some_iff.mp hx).1
    have h1 : ((as.take i).filter p).length ≤ (as.take i).length := List.length_filter_le _ _
    have h2 : (as.take i).length ≤ i := List.length_take_le _ _
    rw [List.length_map]
    omega
  · rw [upd_same, take_succ hx, List.filter_append, List.map_append]
    congr 2
    rw [List.filter_cons, if_pos k]
    rfl
theorem PvP.drop {as : List α} {p : α → Bool} {fa : α → V} {i : Nat} {x : α} {H H' : Hp} (hx : as[i]? = some x) (P : PvP H1 D as p fa i H) (k : p x = false) (e : Same H H') : PvP H1 D as p fa (i + 1) H' := by
  refine ⟨P.1.trans e, ?_⟩
  rw [e _ _ P.2, take_succ hx, List.filter_append]
  congr 2
  rw [List.filter_cons, k]
  simp
theorem PvP.done {as : List α} {p : α → Bool} {fa : α → V} {H : Hp} (P : PvP H1 D as p fa as.length H) : Same H1 H ∧ H D = some (.lst ((as.filter p).map fa)) := by
  have h := P.2
  rw [List.take_length] at h
  exact ⟨P.1, h⟩
theorem mem_of {as : List α} {i : Nat} {x : α} (h : as[i]? = some x) : x ∈ as := List.mem_of_getElem? h
theorem lcp_list {a : Addr} (as : List α) (va : α → V) (p : α → Bool) (fa : α → V) (hD : H1 D = none) (hz : as.length ≤ sizeLine) (hS : SqL K H1 a (as.map va))
    (hs : ∀ x, x ∈ as → TurnP g tt te vs σ H1 (va x) (fa x) (p x)) (hd : ∀ H, Same H1 H → H D = some (.lst ((as.filter p).map fa)) → Qd H) :
    ∃ W : Nat → Nat → Hp → Prop, (∃ m, W 0 m (upd H1 D (.lst []))) ∧ ∀ i m H, W i m H →
      ((Itl K a).stop i H ∧ Qd H) ∨ ((Itl K a).go i H ∧ ∃ Nx : Hp → Prop, (∀ H', Nx H' → ∃ m', m' < m ∧ W (i + 1) m' H') ∧ ∀ x H', (Itl K a).yld i H x H' → g x (wipe σ vs) H' fun σ2 H2 => wipe σ2 vs = wipe σ vs ∧ tt σ2 H2 fun b H3 =>
        if b = true then te σ2 H3 fun y H4 => ∃ acc, H4 D = some (.lst acc) ∧ acc.length < sizeLine ∧ Nx (upd H4 D (.lst (acc ++ [y]))) else Nx H3) := by
  refine lc_list (xs := as.map va) (PvP H1 D as p fa) (PvP.zero hD) (fun i H _ P => Same.seqL P.1 hS) (fun i v H hv P => ?_) fun H P => ?_
  · rw [List.getElem?_map] at hv
    cases hx : as[i]? with
    | none => rw [hx] at hv; cases hv
    | some x =>
      rw [hx] at hv
      cases hv
      exact hs x (mem_of hx) H _ _ P.1 (fun k H' e => PvP.keep hD hz hx P k e) fun k H' e => PvP.drop hx P k e
  · rw [List.length_map] at P
    exact hd H P.done.1 P.done.2
theorem lcp_tup {a : Addr} (as : List α) (va : α → V) (p : α → Bool) (fa : α → V) (hD : H1 D = none) (hz : as.length ≤ sizeLine) (hS : SqT K H1 a (as.map va))
    (hs : ∀ x, x ∈ as → TurnP g tt te vs σ H1 (va x) (fa x) (p x)) (hd : ∀ H, Same H1 H → H D = some (.lst ((as.filter p).map fa)) → Qd H) :
    ∃ W : Nat → Nat → Hp → Prop, (∃ m, W 0 m (upd H1 D (.lst []))) ∧ ∀ i m H, W i m H →
      ((Itt K a).stop i H ∧ Qd H) ∨ ((Itt K a).go i H ∧ ∃ Nx : Hp → Prop, (∀ H', Nx H' → ∃ m', m' < m ∧ W (i + 1) m' H') ∧ ∀ x H', (Itt K a).yld i H x H' → g x (wipe σ vs) H' fun σ2 H2 => wipe σ2 vs = wipe σ vs ∧ tt σ2 H2 fun b H3 =>
        if b = true then te σ2 H3 fun y H4 => ∃ acc, H4 D = some (.lst acc) ∧ acc.length < sizeLine ∧ Nx (upd H4 D (.lst (acc ++ [y]))) else Nx H3) := by
  refine lc_tup (xs := as.map va) (PvP H1 D as p fa) (PvP.zero hD) (fun i H _ P => Same.seqT P.1 hS) (fun i v H hv P => ?_) fun H P => ?_
  · rw [List.getElem?_map] at hv
    cases hx : as[i]? with
    | none => rw [hx] at hv; cases hv
    | some x =>
      rw [hx] at hv
      cases hv
      exact hs x (mem_of hx) H _ _ P.1 (fun k H' e => PvP.keep hD hz hx P k e) fun k H' e => PvP.drop hx P k e
  · rw [List.length_map] at P
    exact hd H P.done.1 P.done.2
theorem range_get {n i : Nat} (h : i < n) : (List.range n)[i]? = some i := by
  rw [List.getElem?_eq_getElem (by simpa using h)]
  simp
theorem lcp_range {n : Nat} (p : Nat → Bool) (fa : Nat → V) (hD : H1 D = none) (hz : n ≤ sizeLine)
    (hs : ∀ x, x < n → TurnP g tt te vs σ H1 (.int (0 + (x : Nat))) (fa x) (p x)) (hd : ∀ H, Same H1 H → H D = some (.lst (((List.range n).filter p).map fa)) → Qd H) :
    ∃ W : Nat → Nat → Hp → Prop, (∃ m, W 0 m (upd H1 D (.lst []))) ∧ ∀ i m H, W i m H →
      ((Itr 0 n).stop i H ∧ Qd H) ∨ ((Itr 0 n).go i H ∧ ∃ Nx : Hp → Prop, (∀ H', Nx H' → ∃ m', m' < m ∧ W (i + 1) m' H') ∧ ∀ x H', (Itr 0 n).yld i H x H' → g x (wipe σ vs) H' fun σ2 H2 => wipe σ2 vs = wipe σ vs ∧ tt σ2 H2 fun b H3 =>
        if b = true then te σ2 H3 fun y H4 => ∃ acc, H4 D = some (.lst acc) ∧ acc.length < sizeLine ∧ Nx (upd H4 D (.lst (acc ++ [y]))) else Nx H3) := by
  refine lc_range (PvP H1 D (List.range n) p fa) (PvP.zero hD) (fun i H hi P => ?_) fun H P => ?_
  · exact hs i hi H _ _ P.1 (fun k H' e => PvP.keep hD (by simpa using hz) (range_get hi) P k e) fun k H' e => PvP.drop (range_get hi) P k e
  · have q : PvP H1 D (List.range n) p fa (List.range n).length H := by
      rw [List.length_range]
      exact P
    exact hd H q.done.1 q.done.2
theorem lcp_zip {a b : Addr} {ta tb : Bool} (as : List α) (va vb : α → V) (p : α → Bool) (fa : α → V) (hD : H1 D = none) (hz : as.length ≤ sizeLine) (hA : SqB K H1 a (as.map va) ta) (hB : SqB K H1 b (as.map vb) tb)
    (hs : ∀ x, x ∈ as → ∀ T H0, Same H1 H0 → H0 T = none → TurnP g tt te vs σ (upd H0 T (.tup [va x, vb x])) (.ref T) (fa x) (p x)) (hd : ∀ H, Same H1 H → H D = some (.lst ((as.filter p).map fa)) → Qd H) :
    ∃ W : Nat → Nat → Hp → Prop, (∃ m, W 0 m (upd H1 D (.lst []))) ∧ ∀ i m H, W i m H →
      ((ItzM K a b ta tb).stop i H ∧ Qd H) ∨ ((ItzM K a b ta tb).go i H ∧ ∃ Nx : Hp → Prop, (∀ H', Nx H' → ∃ m', m' < m ∧ W (i + 1) m' H') ∧ ∀ x H', (ItzM K a b ta tb).yld i H x H' → g x (wipe σ vs) H' fun σ2 H2 => wipe σ2 vs = wipe σ vs ∧ tt σ2 H2 fun b H3 =>
        if b = true then te σ2 H3 fun y H4 => ∃ acc, H4 D = some (.lst acc) ∧ acc.length < sizeLine ∧ Nx (upd H4 D (.lst (acc ++ [y]))) else Nx H3) := by
  refine lc_zipM as.length (by simp) (PvP H1 D as p fa) (PvP.zero hD) (fun i H _ P => ⟨Same.seqB P.1 hA, Same.seqB P.1 hB⟩) (fun i u v T H hu hv P hT => ?_) fun H P => hd H P.done.1 P.done.2
  rw [List.getElem?_map] at hu hv
  cases hx : as[i]? with
  | none => rw [hx] at hv; cases hv
  | some x =>
    rw [hx] at hu hv
    cases hu
    cases hv
    have n : Same H (upd H T (.tup [va x, vb x])) := Same.new hT
    exact hs x (mem_of hx) T H P.1 hT _ _ _ (Same.refl _) (fun k H' e => PvP.keep hD hz hx P k (n.trans e)) fun k H' e => PvP.drop hx P k (n.trans e)
end
/-! ### readings that do not open by themselves -/
inductive RIsi (K : PySem.W.Frag) (xs : List V) (H : Hp) (Q : VK) : Prop where
  | mk (h : rIsi K xs H Q)
inductive RIsiT (K : PySem.W.Frag) (xs : List V) (H : Hp) (Q : VK) : Prop where
  | mk (h : rIsiT K xs H Q)
inductive REqD (K : PySem.W.Frag) (x y : V) (H : Hp) (Q : VK) : Prop where
  | mk (h : rEqD K x y H Q)
inductive RNeD (K : PySem.W.Frag) (x y : V) (H : Hp) (Q : VK) : Prop where
  | mk (h : rNeD K x y H Q)
section
variable {X : Cx}
theorem call_isiZ : CallR X (.builtin "isinstance") (RIsi X.K) := fun pins s σ H xs us Q I r h => call_isi pins s σ H xs us Q I r h.1
theorem call_isiTZ : CallR X (.builtin "isinstance") (RIsiT X.K) := fun pins s σ H xs us Q I r h => call_isiT pins s σ H xs us Q I r h.1
theorem op_eqDZ (hu : X.A.units + 64 < cLine) : OpR X (compareOp .Eq) (REqD X.K) := fun pins s σ H x y v u Q I rx ry h => op_eqD hu pins s σ H x y v u Q I rx ry h.1
theorem op_neDZ (hu : X.A.units + 64 < cLine) : OpR X (compareOp .NotEq) (RNeD X.K) := fun pins s σ H x y v u Q I rx ry h => op_neD hu pins s σ H x y v u Q I rx ry h.1
end
/-! ### types, isinstance, the empty list -/
section
variable {K : PySem.W.Frag} {H : Hp}
theorem tyInt (i : Int) : TyX K H (.int i) (.type "int") := .base (.int i)
theorem tyBl (b : Bool) : TyX K H (.bl b) (.type "bool") := .base (.bl b)
theorem tyNon : TyX K H .non (.type "NoneType") := .base .non
theorem tyStr (x : Str) : TyX K H (.str x) (.type "str") := .base (.str x)
theorem tyT {a : Addr} {xs : List V} (h : SqT K H a xs) : TyX K H (.ref a) (.type "tuple") := by
  rcases h with (h | ⟨o, h⟩) | ⟨o, its, n, hk, hc, _⟩
  · exact .base (.tup h)
  · exact .fTuple h
  · exact .kTuple hk hc
theorem tyL {a : Addr} {xs : List V} (h : SqL K H a xs) : TyX K H (.ref a) (.type "list") := by
  rcases h with (h | ⟨o, h⟩) | ⟨o, its, n, hk, hc, _⟩
  · exact .base (.lst h)
  · exact .base (.frz h)
  · exact .kList hk hc
theorem isi {x : V} {a b : String} {r : Bool} {Q : VK} (h : TyX K H x (.type a)) (e : kitB a b = some r) (q : Q (.bl r) H) : RIsi K [x, .ty b] H Q := ⟨⟨x, .ty b, _, _, r, rfl, .ty b, h, kit_ty e, q⟩⟩
theorem isiT {x : V} {tp : Addr} {cs : List V} {us : List Value} {t : Value} {r : Bool} {Q : VK} (h : TyX K H x t) (ht : H tp = some (.tup cs)) (hc : Paired ClsV cs us) (e : PySem.W.kitAny K t us = some r) (q : Q (.bl r) H) : RIsiT K [x, .ref tp] H Q := ⟨⟨x, tp, cs, _, us, r, rfl, ht, hc, h, e, q⟩⟩
theorem isiO {x : V} {C : Addr} {t : Value} {r : Bool} {Q : VK} (h : TyX K H x t) (e : PySem.W.kitOne K t (.ref C) = some r) (q : Q (.bl r) H) : RIsi K [x, .ref C] H Q := ⟨⟨x, .ref C, _, _, r, rfl, .own C, h, e, q⟩⟩
theorem isiY {x : V} {a b : String} {Q : VK} (h : TyX K H x (.type a)) (e : kitB a b = some true) (q : Q (.bl true) H) : RIsi K [x, .ty b] H Q := isi h e q
theorem isiN {x : V} {a b : String} {Q : VK} (h : TyX K H x (.type a)) (e : kitB a b = some false) (q : Q (.bl false) H) : RIsi K [x, .ty b] H Q := isi h e q
theorem kitSelf {C : Addr} : PySem.W.kitOne K (.ref C) (.ref C) = some true := by
  unfold PySem.W.kitOne
  rw [if_pos (by simp)]
theorem isiC {x : V} {C : Addr} {Q : VK} (h : TyX K H x (.ref C)) (q : Q (.bl true) H) : RIsi K [x, .ref C] H Q := isiO h kitSelf q
/-- a list, or a tuple, is one of both -/
theorem isiLT {x : V} {tp : Addr} {Q : VK} {t : Bool} (h : TyX K H x (if t then .type "tuple" else .type "list")) (ht : H tp = some (.tup [.ty "list", .ty "tuple"])) (q : Q (.bl true) H) : RIsiT K [x, .ref tp] H Q := by
  refine isiT h ht (.cons (.ty "list") (.cons (.ty "tuple") .nil)) ?_ q
  cases t with
  | true => exact kitAny_cons (b := false) (kit_ty (by decide +kernel)) (fun _ => kitAny_cons (b := true) (kit_ty (by decide +kernel)) (fun z => by cases z) fun z => z) fun z => by cases z
  | false => exact kitAny_cons (b := true) (kit_ty (by decide +kernel)) (fun z => by cases z) fun z => z
/-- two lists that are compared, the first as its items are, the second empty -/
theorem eqNil {p q : Addr} {xs : List V} {ds : List PyData} {Q : VK} (h1 : SqL K H p xs) (h2 : SqL K H q []) (hd : DpAll K H xs ds) (hs : SeqAt.shaped (.list ds) = true) (k : Q (.bl xs.isEmpty) H) : REqD K (.ref p) (.ref q) H Q := by
  refine ⟨⟨.list ds, .list [], .lst h1 hd, .lst h2 .nil, hs, rfl, ?_⟩⟩
  cases hd with
  | nil => exact k
  | cons _ _ => exact k
theorem neNil {p q : Addr} {xs : List V} {ds : List PyData} {Q : VK} (h1 : SqL K H p xs) (h2 : SqL K H q []) (hd : DpAll K H xs ds) (hs : SeqAt.shaped (.list ds) = true) (k : Q (.bl (!xs.isEmpty)) H) : RNeD K (.ref p) (.ref q) H Q := by
  refine ⟨⟨.list ds, .list [], .lst h1 hd, .lst h2 .nil, hs, rfl, ?_⟩⟩
  cases hd with
  | nil => exact k
  | cons _ _ => exact k
end
theorem filter_all {α : Type} {as : List α} : as.filter (fun _ => true) = as := by
  induction as with
  | nil => rfl
  | cons x r ih => rw [List.filter_cons, if_pos rfl, ih]
theorem filter_none {α : Type} {as : List α} {p : α → Bool} (h : ∀ x, x ∈ as → p x = false) : as.filter p = [] := by
  induction as with
  | nil => rfl
  | cons x r ih =>
    rw [List.filter_cons, h x (List.mem_cons_self ..), if_neg Bool.false_ne_true]
    exact ih fun y hy => h y (List.mem_cons_of_mem _ hy)
end RC
namespace RC
open PySem PySem.Spec PyProof.Rows L2
/-! ### lists by the place -/
/-- the list f 0, f 1, .. of n items -/
def tab (n : Nat) (f : Nat → V) : List V := (List.range n).map f
theorem tab_length {n : Nat} {f : Nat → V} : (tab n f).length = n := by
  unfold tab
  rw [List.length_map, List.length_range]
theorem tab_get {n i : Nat} {f : Nat → V} (h : i < n) : (tab n f)[i]? = some (f i) := by
  unfold tab
  rw [List.getElem?_map, range_get h]
  rfl
theorem tab_at {n i : Nat} {f : Nat → V} (h : i < n) : atI (tab n f) ((i : Nat) : Int) = some (f i) := atI_nat (tab_get h)
theorem tab_last {n : Nat} {f : Nat → V} : atI (tab (n + 1) f) (-1) = some (f n) := by
  unfold tab
  rw [List.range_succ, List.map_append]
  exact atI_last _ _
theorem tab_inv {n i : Nat} {f : Nat → V} {v : V} (h : (tab n f)[i]? = some v) : i < n ∧ v = f i := by
  have hi : i < n := by
    have q := (List.getElem?_eq_some_iff.mp h).1
    rw [tab_length] at q
    exact q
  rw [tab_get hi] at h
  exact ⟨hi, (Option.some.inj h).symm⟩
theorem tab_ext {n : Nat} {xs : List V} {f : Nat → V} (hl : xs.length = n) (h : ∀ i, i < n → xs[i]? = some (f i)) : xs = tab n f := by
  refine List.ext_getElem? fun i => ?_
  by_cases hi : i < n
  · rw [h i hi, tab_get hi]
  · rw [List.getElem?_eq_none (by omega), List.getElem?_eq_none (by rw [tab_length]; omega)]
theorem tab_congr {n : Nat} {f g : Nat → V} (h : ∀ i, i < n → f i = g i) : tab n f = tab n g := tab_ext tab_length fun i hi => by rw [tab_get hi, h i hi]
theorem tab_set {n j : Nat} {f : Nat → V} {v : V} : (tab n f).set j v = tab n fun i => if i = j then v else f i := by
  refine tab_ext (by rw [List.length_set, tab_length]) fun i hi => ?_
  by_cases e : i = j
  · subst e
    rw [List.getElem?_set_self (by rw [tab_length]; exact hi), if_pos rfl]
  · rw [List.getElem?_set_ne (Ne.symm e), tab_get hi, if_neg e]
theorem tab_map {α : Type} {n : Nat} {g : Nat → α} {f : α → V} : ((List.range n).map g).map f = tab n fun i => f (g i) := by
  unfold tab
  rw [List.map_map]
  rfl
theorem tab_app {n m : Nat} {f g : Nat → V} : tab n f ++ tab m g = tab (n + m) fun i => if i < n then f i else g (i - n) := by
  refine tab_ext (by rw [List.length_append, tab_length, tab_length]) fun i hi => ?_
  by_cases c : i < n
  · rw [List.getElem?_append_left (by rw [tab_length]; exact c), tab_get c, if_pos c]
  · rw [List.getElem?_append_right (by rw [tab_length]; omega), tab_length, tab_get (by omega), if_neg c]
theorem tab_one {v : V} : [v] = tab 1 fun _ => v := rfl
theorem tab_ne {n m : Nat} {f g : Nat → V} (hn : 0 < n) (hm : 0 < m) (h : f 0 ≠ g 0) : HO.lst (tab n f) ≠ HO.lst (tab m g) := fun e => by
  have q : tab n f = tab m g := by
    injection e
  have r := congrArg (fun l => l[0]?) q
  simp only [tab_get hn, tab_get hm] at r
  exact h (Option.some.inj r)
theorem tab_nel {n m : Nat} {f g : Nat → V} (h : n ≠ m) : HO.lst (tab n f) ≠ HO.lst (tab m g) := fun e => by
  have q : tab n f = tab m g := by
    injection e
  have r := congrArg List.length q
  rw [tab_length, tab_length] at r
  exact h r
theorem iteNT {c A B : Prop} [Decidable c] (hc : ¬ c) (h : A) : if (!decide c) = true then A else B := by
  rw [decide_eq_false hc]
  exact h
theorem ix_of {α : Type} {xs : List α} {i n : Nat} (h : i < n) (hl : xs.length = n) : ixN xs.length ((i : Nat) : Int) = some i := by
  unfold ixN
  rw [if_pos (by omega), if_pos (by omega)]
  rfl
/-- a given list by its places -/
theorem tab_of {xs : List Int} : xs.map V.int = tab xs.length fun i => .int (xs.getD i 0) := by
  refine tab_ext (by rw [List.length_map]) fun i hi => ?_
  rw [List.getElem?_map, List.getElem?_eq_getElem hi, List.getD_eq_getElem?_getD, List.getElem?_eq_getElem hi]
  rfl
/-! ### walks -/
section
variable {K : PySem.W.Frag}
theorem walk_zipM {a b : Addr} {ta tb : Bool} {xs ys : List V} {n : Nat} (hn : n = min xs.length ys.length) : Walk (ItzM K a b ta tb) n (fun H => SqB K H a xs ta ∧ SqB K H b ys tb) (YPair (fun i => xs[i]?) (fun i => ys[i]?)) := by
  subst hn
  refine ⟨fun i _ hi q => ?_, fun _ q => ⟨xs, ys, q.1, q.2, by omega⟩, fun i H v H' _ q y => ?_⟩
  · have h1 : i < xs.length := by omega
    have h2 : i < ys.length := by omega
    exact ⟨xs, ys, xs[i], ys[i], q.1, q.2, by simp [h1], by simp [h2]⟩
  · obtain ⟨T, x, z, h1, h2, h3, h4, h5⟩ := y
    exact ⟨T, x, z, h1, h2, h3, h4 xs q.1, h5 ys q.2⟩
theorem walk_r {n : Nat} : Walk (Itr 0 n) n (fun _ => True) (YFn fun i => .int (i : Nat)) :=
  walk_range.mono (fun _ h => h) fun i H x H' _ _ y => ⟨y.1, y.2.trans (congrArg V.int (Int.zero_add _))⟩
/-- a for over range(n) -/
theorem for_r {n : Nat} {g : TG} {tb : TS} {D : Ends} {σ : L2.St} {H : Hp} (Pv : Nat → L2.St → Hp → Prop) (h0 : Pv 0 σ H)
    (hs : ∀ i σ H, i < n → Pv i σ H → g (.int (i : Nat)) σ H fun σ2 H2 => tb { D with nx := Pv (i + 1), ct := Pv (i + 1), bk := D.nx } σ2 H2) (hd : ∀ σ H, Pv n σ H → D.nx σ H) :
    ∃ W : Nat → Nat → L2.St → Hp → Prop, (∃ m, W 0 m σ H) ∧ ∀ i m σ H, W i m σ H →
      ((Itr 0 n).stop i H ∧ D.nx σ H) ∨ ((Itr 0 n).go i H ∧ ∃ N : L2.St → Hp → Prop, (∀ σ' H', N σ' H' → ∃ m', m' < m ∧ W (i + 1) m' σ' H') ∧ ∀ x H', (Itr 0 n).yld i H x H' → g x σ H' fun σ2 H2 => tb { D with nx := N, ct := N, bk := D.nx } σ2 H2) :=
  for_range Pv h0 (fun i σ H hi p => by rw [Int.zero_add]; exact hs i σ H hi p) hd
end
/-! ### comprehensions whose turns make new objects -/
section
variable {g : TG} {tt : TT} {te : TE} {vs : List Nat} {σ : L2.St} {H1 : Hp} {D : Addr} {Qd : Hp → Prop} {J : It} {n : Nat} {G : Hp → Prop} {Y : Nat → Hp → V → Hp → Prop}
theorem lcx (wk : Walk J n G Y) (Inv : Nat → Hp → Prop) (Post : Nat → V → Hp → Prop) (hD : H1 D = none) (hz : n ≤ sizeLine)
    (invD : ∀ i H o, Inv i H → Inv i (upd H D o)) (postD : ∀ i v H o, Post i v H → Post i v (upd H D o)) (h0 : Inv 0 H1) (hG : ∀ i H, i ≤ n → Inv i H → G H)
    (hs : ∀ i x H H' acc (Qe : VK), i < n → Inv i H → H D = some (.lst acc) → acc.length = i → Y i H x H' →
      (∀ v H4, Inv (i + 1) H4 → H4 D = some (.lst acc) → Post i v H4 → (∀ j u, j < i → Post j u H → Post j u H4) → Qe v H4) →
      g x (wipe σ vs) H' fun σ2 H2 => wipe σ2 vs = wipe σ vs ∧ tt σ2 H2 fun b H3 => if b = true then te σ2 H3 Qe else False)
    (htt : ∀ σ2 H2 (Q1 Q2 : Bool → Hp → Prop), (∀ b H, Q1 b H → Q2 b H) → tt σ2 H2 Q1 → tt σ2 H2 Q2)
    (hgg : ∀ x σ H (Q1 Q2 : L2.St → Hp → Prop), (∀ s H, Q1 s H → Q2 s H) → g x σ H Q1 → g x σ H Q2)
    (hd : ∀ H acc, Inv n H → H D = some (.lst acc) → acc.length = n → (∀ i v, acc[i]? = some v → Post i v H) → Qd H) :
    ∃ W : Nat → Nat → Hp → Prop, (∃ m, W 0 m (upd H1 D (.lst []))) ∧ ∀ i m H, W i m H →
      (J.stop i H ∧ Qd H) ∨ (J.go i H ∧ ∃ Nx : Hp → Prop, (∀ H', Nx H' → ∃ m', m' < m ∧ W (i + 1) m' H') ∧ ∀ x H', J.yld i H x H' → g x (wipe σ vs) H' fun σ2 H2 => wipe σ2 vs = wipe σ vs ∧ tt σ2 H2 fun b H3 =>
        if b = true then te σ2 H3 fun y H4 => ∃ acc, H4 D = some (.lst acc) ∧ acc.length < sizeLine ∧ Nx (upd H4 D (.lst (acc ++ [y]))) else Nx H3) := by
  refine lc_it wk (fun i H => Inv i H ∧ ∃ acc, H D = some (.lst acc) ∧ acc.length = i ∧ ∀ j v, acc[j]? = some v → Post j v H) ⟨invD _ _ _ h0, [], upd_same, rfl, fun j v h => by cases h⟩ (fun i H hi P => hG i H hi P.1) (fun i x H H' hi P hy => ?_) fun H P => ?_
  · obtain ⟨I, acc, hacc, hlen, hp⟩ := P
    refine hgg _ _ _ _ _ (fun s2 H2 q => ⟨q.1, htt _ _ _ _ (fun b H3 q => ?_) q.2⟩) (hs i x H H' acc (fun y H4 => ∃ acc, H4 D = some (.lst acc) ∧ acc.length < sizeLine ∧ (Inv (i + 1) (upd H4 D (.lst (acc ++ [y]))) ∧
      ∃ acc', upd H4 D (.lst (acc ++ [y])) D = some (.lst acc') ∧ acc'.length = i + 1 ∧ ∀ j v, acc'[j]? = some v → Post j v (upd H4 D (.lst (acc ++ [y]))))) hi I hacc hlen hy fun v H4 I4 d4 p4 k4 => ?_)
    · cases b with
      | true => exact q
      | false => exact False.elim q
    · refine ⟨acc, d4, by omega, invD _ _ _ I4, _, upd_same, by rw [List.length_append, hlen]; rfl, fun j u hj => postD _ _ _ _ ?_⟩
      by_cases c : j < acc.length
      · rw [List.getElem?_append_left c] at hj
        exact k4 j u (by omega) (hp j u hj)
      · rw [List.getElem?_append_right (by omega)] at hj
        have e : j - acc.length = 0 := by
          have q := (List.getElem?_eq_some_iff.mp hj).1
          simpa using q
        rw [e] at hj
        have e2 : j = i := by omega
        subst e2
        cases hj
        exact p4
  · obtain ⟨I, acc, hacc, hlen, hp⟩ := P
    exact hd H acc I hacc hlen hp
theorem mono_yes : ∀ (σ2 : L2.St) (H2 : Hp) (Q1 Q2 : Bool → Hp → Prop), (∀ b H, Q1 b H → Q2 b H) → tYes σ2 H2 Q1 → tYes σ2 H2 Q2 := fun _ _ _ _ k h => k _ _ h
theorem mono_name {i : Nat} : ∀ (x : V) (σ : L2.St) (H : Hp) (Q1 Q2 : L2.St → Hp → Prop), (∀ s H, Q1 s H → Q2 s H) → gName i x σ H Q1 → gName i x σ H Q2 := fun _ _ _ _ _ k h => k _ _ h
theorem mono_nil {vs : List V} {σ : L2.St} {H : Hp} {Q1 Q2 : L2.St → Hp → Prop} (k : ∀ s H, Q1 s H → Q2 s H) (h : gNil vs σ H Q1) : gNil vs σ H Q2 := ⟨h.1, k _ _ h.2⟩
theorem mono_pair {K : PySem.W.Frag} {n i j : Nat} : ∀ (x : V) (σ : L2.St) (H : Hp) (Q1 Q2 : L2.St → Hp → Prop), (∀ s H, Q1 s H → Q2 s H) → gTup K n (gCons (gName i) (gCons (gName j) gNil)) x σ H Q1 → gTup K n (gCons (gName i) (gCons (gName j) gNil)) x σ H Q2 := fun _ _ _ _ _ k h => by
  obtain ⟨a, xs, h1, h2, h3, v, r, h4, v2, r2, h5, h6⟩ := h
  exact ⟨a, xs, h1, h2, h3, v, r, h4, v2, r2, h5, mono_nil k h6⟩
end
/-! ### comprehensions without a test, by places -/
section
variable {K : PySem.W.Frag} {g : TG} {te : TE} {vs : List Nat} {σ : L2.St} {H1 : Hp} {D : Addr} {Qd : Hp → Prop} {n : Nat}
def TurnQ (g : TG) (te : TE) (vs : List Nat) (σ : L2.St) (H1 : Hp) (v : V) (y : V) : Prop :=
  ∀ (H : Hp) (Nx : Hp → Prop) (Qe : VK), Same H1 H → (∀ H', Same H H' → Qe y H') →
    g v (wipe σ vs) H fun σ2 H2 => wipe σ2 vs = wipe σ vs ∧ tYes σ2 H2 fun b H3 => if b = true then te σ2 H3 Qe else Nx H3
theorem TurnQ.p {v y : V} (h : TurnQ g te vs σ H1 v y) : TurnP g tYes te vs σ H1 v y true := fun H Nx Qe e k _ => h H Nx Qe e (k rfl)
theorem lcq_r (fa : Nat → V) (hD : H1 D = none) (hz : n ≤ sizeLine) (hs : ∀ x, x < n → TurnQ g te vs σ H1 (.int (x : Nat)) (fa x)) (hd : ∀ H, Same H1 H → H D = some (.lst (tab n fa)) → Qd H) :
    ∃ W : Nat → Nat → Hp → Prop, (∃ m, W 0 m (upd H1 D (.lst []))) ∧ ∀ i m H, W i m H →
      ((Itr 0 n).stop i H ∧ Qd H) ∨ ((Itr 0 n).go i H ∧ ∃ Nx : Hp → Prop, (∀ H', Nx H' → ∃ m', m' < m ∧ W (i + 1) m' H') ∧ ∀ x H', (Itr 0 n).yld i H x H' → g x (wipe σ vs) H' fun σ2 H2 => wipe σ2 vs = wipe σ vs ∧ tYes σ2 H2 fun b H3 =>
        if b = true then te σ2 H3 fun y H4 => ∃ acc, H4 D = some (.lst acc) ∧ acc.length < sizeLine ∧ Nx (upd H4 D (.lst (acc ++ [y]))) else Nx H3) :=
  lcp_range (fun _ => true) fa hD hz (fun x hx => by rw [Int.zero_add]; exact (hs x hx).p) fun H e h => hd H e (by rw [RC.filter_all] at h; exact h)
theorem lcq_list {a : Addr} (va fa : Nat → V) (hD : H1 D = none) (hz : n ≤ sizeLine) (hS : SqL K H1 a (tab n va)) (hs : ∀ x, x < n → TurnQ g te vs σ H1 (va x) (fa x)) (hd : ∀ H, Same H1 H → H D = some (.lst (tab n fa)) → Qd H) :
    ∃ W : Nat → Nat → Hp → Prop, (∃ m, W 0 m (upd H1 D (.lst []))) ∧ ∀ i m H, W i m H →
      ((Itl K a).stop i H ∧ Qd H) ∨ ((Itl K a).go i H ∧ ∃ Nx : Hp → Prop, (∀ H', Nx H' → ∃ m', m' < m ∧ W (i + 1) m' H') ∧ ∀ x H', (Itl K a).yld i H x H' → g x (wipe σ vs) H' fun σ2 H2 => wipe σ2 vs = wipe σ vs ∧ tYes σ2 H2 fun b H3 =>
        if b = true then te σ2 H3 fun y H4 => ∃ acc, H4 D = some (.lst acc) ∧ acc.length < sizeLine ∧ Nx (upd H4 D (.lst (acc ++ [y]))) else Nx H3) :=
  lcp_list (List.range n) va (fun _ => true) fa hD (by rw [List.length_range]; exact hz) hS (fun x hx => (hs x (List.mem_range.mp hx)).p) fun H e h => hd H e (by rw [RC.filter_all] at h; exact h)
theorem lcq_tup {a : Addr} (va fa : Nat → V) (hD : H1 D = none) (hz : n ≤ sizeLine) (hS : SqT K H1 a (tab n va)) (hs : ∀ x, x < n → TurnQ g te vs σ H1 (va x) (fa x)) (hd : ∀ H, Same H1 H → H D = some (.lst (tab n fa)) → Qd H) :
    ∃ W : Nat → Nat → Hp → Prop, (∃ m, W 0 m (upd H1 D (.lst []))) ∧ ∀ i m H, W i m H →
      ((Itt K a).stop i H ∧ Qd H) ∨ ((Itt K a).go i H ∧ ∃ Nx : Hp → Prop, (∀ H', Nx H' → ∃ m', m' < m ∧ W (i + 1) m' H') ∧ ∀ x H', (Itt K a).yld i H x H' → g x (wipe σ vs) H' fun σ2 H2 => wipe σ2 vs = wipe σ vs ∧ tYes σ2 H2 fun b H3 =>
        if b = true then te σ2 H3 fun y H4 => ∃ acc, H4 D = some (.lst acc) ∧ acc.length < sizeLine ∧ Nx (upd H4 D (.lst (acc ++ [y]))) else Nx H3) :=
  lcp_tup (List.range n) va (fun _ => true) fa hD (by rw [List.length_range]; exact hz) hS (fun x hx => (hs x (List.mem_range.mp hx)).p) fun H e h => hd H e (by rw [RC.filter_all] at h; exact h)
/-- one turn of a zip: the pair is new -/
theorem lcq_zip {a b : Addr} {ta tb : Bool} (va vb fa : Nat → V) (hD : H1 D = none) (hz : n ≤ sizeLine) (hA : SqB K H1 a (tab n va) ta) (hB : SqB K H1 b (tab n vb) tb)
    (hs : ∀ x, x < n → ∀ T H0, Same H1 H0 → H0 T = none → TurnQ g te vs σ (upd H0 T (.tup [va x, vb x])) (.ref T) (fa x)) (hd : ∀ H, Same H1 H → H D = some (.lst (tab n fa)) → Qd H) :
    ∃ W : Nat → Nat → Hp → Prop, (∃ m, W 0 m (upd H1 D (.lst []))) ∧ ∀ i m H, W i m H →
      ((ItzM K a b ta tb).stop i H ∧ Qd H) ∨ ((ItzM K a b ta tb).go i H ∧ ∃ Nx : Hp → Prop, (∀ H', Nx H' → ∃ m', m' < m ∧ W (i + 1) m' H') ∧ ∀ x H', (ItzM K a b ta tb).yld i H x H' → g x (wipe σ vs) H' fun σ2 H2 => wipe σ2 vs = wipe σ vs ∧ tYes σ2 H2 fun b H3 =>
        if b = true then te σ2 H3 fun y H4 => ∃ acc, H4 D = some (.lst acc) ∧ acc.length < sizeLine ∧ Nx (upd H4 D (.lst (acc ++ [y]))) else Nx H3) :=
  lcp_zip (List.range n) va vb (fun _ => true) fa hD (by rw [List.length_range]; exact hz) hA hB (fun x hx T H0 e0 hT => (hs x (List.mem_range.mp hx) T H0 e0 hT).p) fun H e h => hd H e (by rw [RC.filter_all] at h; exact h)
end
/-! ### the rules whose readings name the written part, with that part's name put in (within a comprehension the place where one stands is not free) -/
section
variable {X : Cx} {K : PySem.W.Frag} {e a b : Expr} {f : Str} {pos : Pos} {ta : TE} {es : List Expr}
theorem pe_fldC (hK : X.K = K) (he : PE X e ta) (hb : attributeBase e f X.env (eval e X.env) = eval e X.env) : PE X (.Attribute e f pos) (tFld K ta f) := hK ▸ pe_fld he hb
theorem ix_listC (hK : X.K = K) : IxR X (rIxL K) := hK ▸ ix_list
theorem ix_tupC (hK : X.K = K) : IxR X (rIxT K) := hK ▸ ix_tup
theorem sl_listC (hK : X.K = K) : SlR X (rSlL K) := hK ▸ sl_list
theorem cr_sumC (hK : X.K = K) (hc : X.calm = true) : CallR X (.builtin "sum") (rSum K) := hK ▸ cr_sum hc
theorem call_isiZC (hK : X.K = K) : CallR X (.builtin "isinstance") (RIsi K) := hK ▸ call_isiZ
theorem call_len_seqC (hK : X.K = K) : CallR X (.builtin "len") (fun xs H Q => ∃ p ys, xs = [.ref p] ∧ (SqL K H p ys ∨ SqT K H p ys) ∧ Q (.int ys.length) H) := by
  subst hK
  exact call_len_seq
theorem call_list_ofC (hK : X.K = K) : CallR X (.type "list") (fun xs H Q => ∃ p ys, xs = [.ref p] ∧ (SqL K H p ys ∨ SqT K H p ys) ∧ ∀ l, H l = none → Q (.ref l) (upd H l (.lst ys))) := by
  subst hK
  exact call_list_of
theorem call_tuple_ofC (hK : X.K = K) : CallR X (.type "tuple") (fun xs H Q => ∃ p ys, xs = [.ref p] ∧ ((SqL K H p ys ∧ ∀ l, H l = none → Q (.ref l) (upd H l (.tup ys))) ∨ (SqT K H p ys ∧ Q (.ref p) H))) := by
  subst hK
  exact call_tuple_of
theorem pi_listC {tg l : Expr} {tl : TE} (hK : X.K = K) (hl : PE X l tl) : PI X tg l (iList K tl) := hK ▸ pi_list hl
theorem pi_tupC {tg l : Expr} {tl : TE} (hK : X.K = K) (hl : PE X l tl) : PI X tg l (iTup K tl) := hK ▸ pi_tup hl
theorem pg_tupC {es : List Expr} {k n : Nat} {t : TGs} (hK : X.K = K) (hc : X.calm = true) (h : PGs X es t)
    (hn : (assignEach es X.env).length = n := by rfl) (hst : (assignEach es X.env).findIdx? (·.1) = none := by rfl) : PG X (.Tuple es k pos) (gTup K n t) := hK ▸ pg_tup hc h hn hst
theorem pa_starC {p : Pos} {te : TE} {t : TA} (hK : X.K = K) (he : PE X e te) (hr : PA X es t) (hs : starEach (.Starred e p :: es) X.env = (true, eval e X.env) :: starEach es X.env := by rfl) : PA X (.Starred e p :: es) (StX.tStar K te t) := hK ▸ StX.pa_star he hr hs
theorem pe_bmC {o : Expr} {name : Str} {T id : String} {apos cpos : Pos} {r : V → List V → Hp → VK → Prop} {to : TE} {t : TA} (hK : X.K = K) (pa : PlainAttrs T) (slot : Slot T name id) (hty : typeOf (.builtin id) = pure (.type "method_descriptor")) (hm : MtR X id r) (ho : PE X o to) (ha : PA X (e :: es) t)
    (hbase : attributeBase o name X.env (eval o X.env) = eval o X.env := by rfl)
    (hfew : ((backTo cpos (starEach (e :: es) X.env)).all (fun x => !x.1) && (backToKw cpos (keywordEach [] X.env)).all (fun x => x.1.isSome)
      && decide ((e :: es).length + ([] : List Keyword).length + (if ([] : List Keyword).isEmpty then 0 else 1) < 30)) = true := by rfl)
    (hline : (apos.endLine == cpos.line) = true := by rfl) (hs : starEach (e :: es) X.env = (false, eval e X.env) :: starEach es X.env := by rfl) (hplain : (backTo cpos (starEach es X.env)).any (·.1) = false := by rfl) :
    PE X (.Call (.Attribute o name apos) (e :: es) [] cpos) (tBM K T r to t) := hK ▸ pe_bm pa slot hty hm ho ha hbase hfew hline hs hplain
end
/-! ### the scope of a comprehension, for one within it -/
def stAt : List Stmt → List Nat → Stmt
  | _, [] => .Pass ⟨0, 0, 0, 0⟩
  | b, [i] => b.getD i (.Pass ⟨0, 0, 0, 0⟩)
  | b, i :: r => match b.getD i (.Pass ⟨0, 0, 0, 0⟩) with
    | .For _ _ c _ _ => stAt c r
    | .While _ c _ _ => stAt c r
    | .If _ c _ _ => stAt c r
    | _ => .Pass ⟨0, 0, 0, 0⟩
def exOf : Stmt → Expr
  | .Assign _ v _ => v
  | .Return (some v) _ => v
  | .Expr v _ => v
  | _ => .Constant .none 0 ⟨0, 0, 0, 0⟩
def scOf (d : Scope) : Expr → Scope
  | .ListComp _ _ sc _ => relabel sc (envOfC "" d 0 0 .none)
  | .Call _ (e :: _) _ _ => scOf d e
  | _ => d
/-- places given by a choice -/
theorem acc_refs {n : Nat} {acc : List V} {R : Nat → Addr → Prop} (hl : acc.length = n) (h : ∀ i v, acc[i]? = some v → ∃ r, v = .ref r ∧ R i r) : ∃ rr : Nat → Addr, acc = tab n (fun i => .ref (rr i)) ∧ ∀ i, i < n → R i (rr i) := by
  have ex : ∀ i, ∃ r : Addr, i < n → acc[i]? = some (.ref r) ∧ R i r := fun i => by
    by_cases hi : i < n
    · have e : acc[i]? = some (acc[i]'(by omega)) := List.getElem?_eq_getElem (by omega)
      obtain ⟨r, h1, h2⟩ := h i _ e
      exact ⟨r, fun _ => ⟨by rw [e, h1], h2⟩⟩
    · exact ⟨0, fun q => absurd q hi⟩
  refine ⟨fun i => Classical.choose (ex i), tab_ext hl fun i hi => (Classical.choose_spec (ex i) hi).1, fun i hi => (Classical.choose_spec (ex i) hi).2⟩
theorem seqL_but {K : PySem.W.Frag} {H H' : Hp} {a p : Addr} {o : HO} {xs : List V} (e : SameBut p H H') (hp : H p = some o) (h1 : ∀ xs, o ≠ .lst xs) (h2 : ∀ ob u, o ≠ .frz ob u) (h : SqL K H a xs) : SqL K H' a xs :=
  h.elim (fun h => .inl (h.elim (fun h => .inl (e _ _ (ne_of h hp (h1 _).symm) h)) fun ⟨ob, h⟩ => .inr ⟨ob, e _ _ (ne_of h hp (h2 _ _).symm) h⟩)) fun h => .inr h
theorem seqT_but {K : PySem.W.Frag} {H H' : Hp} {a p : Addr} {o : HO} {xs : List V} (e : SameBut p H H') (hp : H p = some o) (h1 : ∀ xs, o ≠ .tup xs) (h2 : ∀ ob u, o ≠ .frz ob u) (h : SqT K H a xs) : SqT K H' a xs :=
  h.elim (fun h => .inl (h.elim (fun h => .inl (e _ _ (ne_of h hp (h1 _).symm) h)) fun ⟨ob, h⟩ => .inr ⟨ob, e _ _ (ne_of h hp (h2 _ _).symm) h⟩)) fun h => .inr h
end RC
namespace RC
open PySem PySem.Spec PyProof.Rows L2
/-! ### data that are compared -/
theorem lay_all : ∀ {ds : List PyData}, (∀ d, d ∈ ds → d.canLay0 = true) → PyData.canLayAll0 ds = true
  | [], _ => by simp only [PyData.canLayAll0]
  | d :: ds, h => by
    simp only [PyData.canLayAll0, Bool.and_eq_true]
    exact ⟨h d (List.mem_cons_self ..), lay_all fun x hx => h x (List.mem_cons_of_mem _ hx)⟩
theorem depth_all {k : Nat} : ∀ {ds : List PyData}, (∀ d, d ∈ ds → d.depth ≤ k) → PyData.depthAll ds ≤ k
  | [], _ => by simp only [PyData.depthAll]; omega
  | d :: ds, h => by
    simp only [PyData.depthAll]
    have h1 := h d (List.mem_cons_self ..)
    have h2 := depth_all (ds := ds) fun x hx => h x (List.mem_cons_of_mem _ hx)
    omega
theorem shaped_seq {ds : List PyData} {k : Nat} (h : ∀ d, d ∈ ds → d.canLay0 = true ∧ d.depth ≤ k) (hk : k + 1 ≤ 64) : SeqAt.shaped (.list ds) = true ∧ SeqAt.shaped (.tuple ds) = true := by
  have h1 := lay_all fun d hd => (h d hd).1
  have h2 := depth_all fun d hd => (h d hd).2
  refine ⟨?_, ?_⟩
  · unfold SeqAt.shaped
    rw [Bool.and_eq_true, decide_eq_true_iff]
    refine ⟨by simp only [PyData.canLay0]; exact h1, ?_⟩
    simp only [PyData.depth]
    omega
  · unfold SeqAt.shaped
    rw [Bool.and_eq_true, decide_eq_true_iff]
    refine ⟨by simp only [PyData.canLay0]; exact h1, ?_⟩
    simp only [PyData.depth]
    omega
theorem dp_ints {K : PySem.W.Frag} {H : Hp} : ∀ ns : List Int, DpAll K H (ns.map V.int) (ns.map PyData.int)
  | [] => .nil
  | n :: r => .cons (.int n) (dp_ints r)
theorem shaped_ints (ns : List Int) : SeqAt.shaped (.list (ns.map PyData.int)) = true := (shaped_seq (k := 0) (fun d hd => by
  obtain ⟨n, _, rfl⟩ := List.mem_map.mp hd
  exact ⟨by simp only [PyData.canLay0], by simp only [PyData.depth]; omega⟩) (by decide)).1
theorem emod_nat (x : Int) {m : Nat} (h : 0 < m) : ∃ d : Nat, x % (m : Int) = (d : Nat) ∧ d < m := by
  have h1 := Int.emod_nonneg x (show (m : Int) ≠ 0 by omega)
  have h2 := Int.emod_lt_of_pos x (show (0 : Int) < m by omega)
  exact ⟨(x % (m : Int)).toNat, by omega, by omega⟩
/-! ### a tuple times any positive number -/
section
variable {X : Cx}
inductive RRepC (K : PySem.W.Frag) (x y : V) (H : Hp) (Q : VK) : Prop where
  | mk (h : rRepT1 K x y H Q ∨ rRepT K x y H Q)
theorem op_repC : OpR X (binaryOp .Mult) (RRepC X.K) := by
  intro pins s σ H x y v u Q I rx ry h
  rcases h with ⟨h | h⟩
  · exact op_repT1 pins s σ H x y v u Q I rx ry h
  · exact op_repT pins s σ H x y v u Q I rx ry h
end
theorem iteD {c A B : Prop} [Decidable c] (hc : c) (h : A) : if decide c = true then A else B := by
  rw [decide_eq_true hc]
  exact h
theorem iteDF {c A B : Prop} [Decidable c] (hc : ¬ c) (h : B) : if decide c = true then A else B := by
  rw [decide_eq_false hc]
  exact h
theorem log_of {n b k : Nat} (h : n < 2 ^ b) (h0 : 0 < b) (hk : b ≤ k) : n.log2 < k := Nat.lt_of_lt_of_le (PySem.Flt.log2_lt_of h0 h) hk
theorem getX_get {α : Type} {xs : List α} {d : α} {j : Nat} (h : j < xs.length) : xs[j]? = some (xs.getD j d) := by
  rw [List.getD_eq_getElem?_getD, List.getElem?_eq_getElem h]
  rfl
theorem getX_mem {α : Type} {xs : List α} {d : α} {j : Nat} (h : j < xs.length) : xs.getD j d ∈ xs := List.mem_of_getElem? (getX_get h)
theorem tab_list {α : Type} {xs : List α} (d : α) (f : α → V) : xs.map f = tab xs.length fun j => f (xs.getD j d) := tab_ext (by rw [List.length_map]) fun i hi => by
  rw [List.getElem?_map, getX_get (d := d) hi]
  rfl
theorem acc_ints {n : Nat} {acc : List V} {R : Int → Prop} (hl : acc.length = n) (h : ∀ (i : Nat) (v : V), acc[i]? = some v → ∃ x : Int, v = V.int x ∧ R x) : ∃ xs : List Int, acc = xs.map V.int ∧ xs.length = n ∧ ∀ x, x ∈ xs → R x := by
  induction acc generalizing n with
  | nil => exact ⟨[], rfl, hl, fun x hx => by cases hx⟩
  | cons v r ih =>
    obtain ⟨x, e, hx⟩ := h 0 v rfl
    obtain ⟨xs, e2, e3, h2⟩ := ih (n := r.length) rfl fun i u hu => h (i + 1) u hu
    refine ⟨x :: xs, by rw [e, e2]; rfl, by rw [← hl, List.length_cons, List.length_cons, e3], fun y hy => ?_⟩
    rcases List.mem_cons.mp hy with q | q
    · rw [q]
      exact hx
    · exact h2 y q
theorem repC_of {K : PySem.W.Frag} {H : Hp} {t0 : Addr} {m : Nat} {v : V} {Q : VK} (h : H t0 = some (.tup [v])) (h1 : 1 ≤ m) (h2 : m ≤ 1000) (k : ∀ H' t, Same H H' → H' t = some (.tup (List.replicate m v)) → Q (.ref t) H') : RRepC K (.ref t0) (.int (m : Nat)) H Q := by
  rcases Nat.lt_or_eq_of_le h1 with e | e
  · refine ⟨.inr ⟨t0, (m : Nat), [v], rfl, rfl, SqT.of h, by simp, by omega, by omega, by simp, fun p hp => k _ p (Same.new hp) ?_⟩⟩
    rw [upd_same]
    refine congrArg some (congrArg HO.tup ?_)
    have : ((m : Nat) : Int).toNat = m := by omega
    rw [this]
    clear this h1 h2 k e
    induction m with
    | zero => rfl
    | succ n ih =>
      rw [List.replicate_succ, List.flatten_cons, ih, List.replicate_succ]
      rfl
  · subst e
    exact ⟨.inl ⟨t0, [v], rfl, rfl, SqT.of h, k H t0 (Same.refl _) h⟩⟩
end RC
/-! ### x != y of instances with an own == and no own != -/
namespace RK
open PySem PySem.Spec PySem.W PySem.Calls PyProof.Rows
section
variable {prog : Program} {w : World} {A : Around} {E : Value → Shared → Prop} {s : Shared} {K : Frag} {x y C f L : Addr} {h₀ : Heap} {m : Str → Option Value} {ox : Obj} {od : Option Obj} {tb : Value}
/-- what the == answers: true or false -/
def BoolB (Q : Bool → Shared → Prop) (v : Value) (s' : Shared) : Prop := ∃ b, v = .bool b ∧ Q b s'
theorem ne_entry (hu : A.units < cLine) (X : K.In s.heap) (I : InstAt s.heap x ox C od) (he : findIn K (.ref C) "__eq__" = some (some (.ref f))) (hf : isFn K (.ref f) = true) {Q : Fin → Shared → Prop}
    (h : wpAny (model prog w) A (call (.ref f) [.ref x, .ref y]) (BoolB fun b s' => Q (.done (.ret (.bool (!b)))) s') E s) :
    wpAny (model prog w) A (Builtin.«object.__ne__» ⟨[.ref x, .ref y], []⟩) Q E s := by
  obtain ⟨hp, g, d, tk, os⟩ := s
  unfold Builtin.«object.__ne__»
  repeat (first
    | with_reducible refine wpAny_cRoomFor hu ?_
    | (refine wpAny_bind (m := callSpecialIfBound? (.ref x) (Str.ofString "__eq__") [.ref y])
        (ifBound_K X I he hf (wpAny_mono h (fun r s' hr => by
          obtain ⟨b, rfl, hq⟩ := hr
          repeat (first | exact hq | exact wpAny_pure hq | exact wpAny_truthy_bool hq | (refine wpAny_bind (m := truthy (.bool _)) (wpAny_truthy_bool ?_)) | wp_step)) fun _ _ e => e)))
    | wp_step)
theorem ne_K {Q : Value → Shared → Prop} (hu : A.units + 1 < cLine) (F : Fr h₀ L s.heap m) (X₀ : K.In h₀) (I : InstAt s.heap x ox C od) (hb : Looks (model prog w) s.heap (typeOf (.ref y)) tb) (hn : notFirst K C tb = true)
    (hs : findIn K (.ref C) "__ne__" = some (some (.builtin "object.__ne__"))) (he : findIn K (.ref C) "__eq__" = some (some (.ref f))) (hf : isFn K (.ref f) = true) (hm : mroIn K C (.type "object") = some true)
    (h : wpAny (model prog w) A.in1 (call (.ref f) [.ref x, .ref y]) (BoolB fun b s' => Q (.bool (!b)) s') E s) : wpAny (model prog w) A (richCompare .NotEq (.ref x) (.ref y)) Q E s := by
  have X := X₀.keeps F.keep
  have one : wpAny (model prog w) A (tryCompare (.ref x) "__ne__" (.ref y)) (fun r s' => ∃ v, r = some v ∧ Q v s') E s := by
    unfold tryCompare
    refine wpAny_bind (m := callSpecialIfBound? (.ref x) (Str.ofString "__ne__") [.ref y]) ?_
    simp only [callSpecialIfBound?, bindSpecialIfBound?]
    refine wpAny_holding (wpAny_bind (wpAny_bind (wpAny_bind (I.type.here ((looks_findIn X hs).here ?_)))))
    simp only [PySem.F.cmp_object.ne.bind]
    refine wpAny_bind (wpAny_askSetting (wpAny_ite ?_))
    have fin : ∀ Q' : Option Value → Shared → Prop, (∀ b s', Q (.bool b) s' → Q' (some (.bool b)) s') → wpAny (model prog w) A (call (.builtin "object.__ne__") ([.ref x] ++ [.ref y]) >>= fun v => pure (some v)) Q' E s := fun Q' k => by
      refine wpAny_bind (wpAny_call (codeAny_call_builtin PySem.F.cmp_object.ne.plain PySem.F.cmpEntry_ne ?_))
      refine check_slot PySem.F.cmpKind_ne PySem.F.cmpSplit_ne (I.type.andThen (looks_mroIn X hm)) (PySem.F.cmpArgs_ne _ _) ?_
      refine ne_entry (A := A.in1) hu X I he hf (wpAny_mono h (fun v s' hv => ?_) fun _ _ e => e)
      obtain ⟨b, rfl, q⟩ := hv
      exact ⟨b, rfl, wpAny_pure (k _ _ q)⟩
    split
    · exact wpAny_bind (wpAny_pure (wpAny_pure (fin _ fun b s' q => wpAny_pure ⟨_, rfl, q⟩)))
    · exact wpAny_tryCatch (wpAny_bind (wpAny_pure (wpAny_pure (fin _ fun b s' q => wpAny_pure ⟨_, rfl, q⟩))))
  unfold richCompare
  simp only [oneThing_ref]
  refine wpAny_holding (wpAny_bind (wpAny_cRoomFor (Nat.lt_of_succ_lt hu) ?_))
  refine wpAny_bind (I.type.here (wpAny_bind (hb.here ?_)))
  split
  · rename_i q
    have e : subIn K tb (.ref C) = some false := by
      rcases Bool.or_eq_true_iff.mp hn with e | e
      · rw [beq_iff_eq.mp e] at q; simp at q
      · exact beq_iff_eq.mp e
    refine wpAny_bind ((looks_subIn X e).here ?_)
    simp only [Bool.false_eq_true, if_false]
    refine wpAny_bind (wpAny_mono one (fun r s' z => ?_) fun _ _ e => e)
    obtain ⟨v, rfl, hq⟩ := z
    exact wpAny_pure hq
  · refine wpAny_bind (wpAny_pure ?_)
    simp only [Bool.false_eq_true, if_false]
    refine wpAny_bind (wpAny_mono one (fun r s' z => ?_) fun _ _ e => e)
    obtain ⟨v, rfl, hq⟩ := z
    exact wpAny_pure hq
end
end RK
/-! ### xs != ys of lists that are equal, item by item, by ==  -/
namespace RK
open PySem PySem.SeqAt GQ
open AutoSeq1 (wpAny_loadPart')
open MeetsSeq MeetsSeq2 MeetsSeq3 SeqRoads2
section
variable {prog : Program} {w : World} {A : Around} {R : Result → Shared → Prop} {E : Value → Shared → Prop} {s : Shared}
theorem ne_loopG (l b : Addr) (N : Nat) (I : Nat → Shared → Prop) (hl : ListI prog w A (fun e s' => R (.error e) s') l b N I)
    (fin : ∀ s, I N s → R (.ok (.ret (.bool false))) s) : ∀ k i : Nat, N - i = k → i ≤ N → ∀ s, I i s →
      wpAny (model prog w) A.in1 (Builtin.«list.__eq__.loop» ⟨[.ref l, .ref b, rawInt i, rawInt 3], []⟩) (FinOf prog w A R) (fun e s' => R (.error e) s') s
  | 0, i, hk, hi, s, h => by
    obtain ⟨xs, ys, n, m, h1, h2, z1, z2, _⟩ := hl _ _ h
    have hR : R (.ok (.ret (.bool false))) s := fin s ((show i = N by omega) ▸ h)
    obtain ⟨hp, g, d, tk, os⟩ := s
    wp_walk using wpAny_loadPart' h1, wpAny_loadPart' h2
    have a1 : xs[((i : Nat) : Int).toNat]? = none := by simp; omega
    have a2 : ys[((i : Nat) : Int).toNat]? = none := by simp; omega
    rw [a1, a2]
    wp_walk using wpAny_loadPart' h1, wpAny_loadPart' h2
    show R (.ok (.ret (.bool (xs.size != ys.size)))) _
    rw [z1, z2]
    simpa using hR
  | k + 1, i, hk, hi, s, h => by
    obtain ⟨xs, ys, n, m, h1, h2, z1, z2, turn⟩ := hl _ _ h
    have b1 : i < xs.size := by omega
    have b2 : i < ys.size := by omega
    have ht := turn b1 b2
    obtain ⟨hp, g, d, tk, os⟩ := s
    wp_walk using wpAny_loadPart' h1, wpAny_loadPart' h2
    have a1 : xs[((i : Nat) : Int).toNat]? = some xs[i] := by simp [b1]
    have a2 : ys[((i : Nat) : Int).toNat]? = some ys[i] := by simp [b2]
    have hc : ((i : Int) + 1) = ((i + 1 : Nat) : Int) := by omega
    rw [a1, a2]
    refine wpAny_bind (wpAny_mono ht (fun r s2 q => ?_) fun _ _ x => x)
    obtain ⟨hr, q⟩ := q
    subst hr
    have again := ne_loopG l b N I hl fin k (i + 1) (by omega) (by omega) s2 q
    obtain ⟨hp2, g2, d2, tk2, os2⟩ := s2
    wp_walk
    rw [hc]
    exact ⟨plainId_quiet plain_eq_loop _, codeAny_builtin entry_eq_loop (by
      rw [Around.under_plainId plain_eq_loop _]
      exact again)⟩
theorem list_neG (l b : Addr) (N : Nat) (I : Nat → Shared → Prop) (hl : ListI prog w A (fun e s' => R (.error e) s') l b N I)
    (fin : ∀ s, I N s → R (.ok (.ret (.bool false))) s) (h : I 0 s) :
    wpAny (model prog w) A.in1 (Builtin.«list.__ne__» ⟨[.ref l, .ref b], []⟩) (FinOf prog w A R) (fun e s' => R (.error e) s') s := by
  obtain ⟨xs, ys, n, m, h1, h2, z1, z2, _⟩ := hl _ _ h
  have again := ne_loopG (A := A) (R := R) l b N I hl fin _ 0 rfl (Nat.zero_le _) s h
  obtain ⟨hp, g, d, tk, os⟩ := s
  have f3 := AutoSeq1.sub_list_list
  have hne : ¬ (xs.size != ys.size) = true := by simp [z1, z2]
  wp_walk using wpAny_loadPart' h1, wpAny_loadPart' h2
  exact ⟨plainId_quiet plain_eq_loop _, codeAny_builtin entry_eq_loop (by
    rw [Around.under_plainId plain_eq_loop _]
    exact again)⟩
theorem rc_listNe {l b : Addr} {N : Nat} {Q : Value → Shared → Prop} (hu : A.units < cLine) (I : Nat → Shared → Prop) (hl : ListI prog w A E l b N I)
    (fin : ∀ s, I N s → Q (.bool false) s) (h : I 0 s) : wpAny (model prog w) A (richCompare .NotEq (.ref l) (.ref b)) Q E s := by
  obtain ⟨xs, ys, n, m, h1, h2, _, _, _⟩ := hl _ _ h
  refine wpAny_richCompare_same_room (op := .NotEq) ⟨_, h1, rfl⟩ ⟨_, h2, rfl⟩ PySem.F.slot_list_ne (call_here PySem.F.slot_list_ne ⟨_, h1, rfl⟩ PySem.F.entry_list_ne (PySem.F.args_list_ne_2 _ _) ?_) hu
  exact list_neG (R := wants (fun v s' => v ≠ .notImplemented ∧ Q v s') E) l b N I hl (fun s' q => ⟨(fun x => nomatch x), fin s' q⟩) h
end
end RK
namespace RC
open PySem PySem.Spec PyProof.Rows L2
/-! ### rules by either of two readings -/
inductive ROr (r1 r2 : R2) (x y : V) (H : Hp) (Q : VK) : Prop where
  | one (h : r1 x y H Q)
  | two (h : r2 x y H Q)
inductive TOr (r1 r2 : V → Hp → (Bool → Hp → Prop) → Prop) (x : V) (H : Hp) (Q : Bool → Hp → Prop) : Prop where
  | one (h : r1 x H Q)
  | two (h : r2 x H Q)
section
variable {X : Cx}
theorem opr_or {f : Value → Value → Sem Value} {r1 r2 : R2} (h1 : OpR X f r1) (h2 : OpR X f r2) : OpR X f (ROr r1 r2) := fun pins s σ H x y v u Q I rx ry h => by
  rcases h with h | h
  · exact h1 pins s σ H x y v u Q I rx ry h
  · exact h2 pins s σ H x y v u Q I rx ry h
theorem tru_or {r1 r2 : V → Hp → (Bool → Hp → Prop) → Prop} (h1 : TruR X r1) (h2 : TruR X r2) : TruR X (TOr r1 r2) := fun pins s σ H x v Q I rx h => by
  rcases h with h | h
  · exact h1 pins s σ H x v Q I rx h
  · exact h2 pins s σ H x v Q I rx h
end
/-! ### what a class with an own ==, an own truth has -/
structure EqO (K : PySem.W.Frag) (C f : Addr) : Prop where
  eq : PySem.W.findIn K (.ref C) "__eq__" = some (some (.ref f))
  ne : PySem.W.findIn K (.ref C) "__ne__" = some (some (.builtin "object.__ne__"))
  fn : PySem.W.isFn K (.ref f) = true
  mr : PySem.W.mroIn K C (.type "object") = some true
structure TruO (K : PySem.W.Frag) (C f : Addr) : Prop where
  at_ : PySem.W.findIn K (.ref C) "__bool__" = some (some (.ref f))
  fn : PySem.W.isFn K (.ref f) = true
section
variable {X : Cx} {CX : CXT} {n : Nat} {C f : Addr} {fd : FuncData} {ps : List Str} {sp : Sp} {E : XK}
/-- a call of an own special method, by values -/
theorem run_own (F : FnOk X.prog X.w X.K X.mg X.base CX n f fd ps sp) {A : Around} (hr : Room n A) (hfr : A.frames = X.A.frames) (hb : Binds X.K fd ps []) (hx : Passes CX X E) {pins : List (Addr × Obj)} {σ : L2.St} {H : Hp} {s : Shared} {Q : VK} {us : List Value} {vs : List V}
    (I : Inv X pins σ H s) (r : Vals vs us) (h : sp vs H Q E) : wpAny (model X.prog X.w) A (call (.ref f) us) (EP X pins σ Q) X.xe s := by
  have hl := F.len _ _ _ _ h
  have e0 : Env0 X.prog X.w X.K X.mg X.base A X.stack s H := by
    have e := I.env0
    exact ⟨by rw [hfr]; exact e.frames, e.mod, e.bs, e.bsz, e.funs, e.frf, e.hok, e.bare⟩
  refine wpAny_call (codeAny_mono (F.run A X.stack s H ⟨us, []⟩ us vs _ E hr e0 (by
    have q := hb s us I.kIn (by rw [List.append_nil, ← r.length]; exact hl)
    simpa using q) r h) fun r s' hq => ?_)
  cases r with
  | error e => exact hx pins σ H s e s' I hq
  | ok fl =>
    cases fl with
    | ret w =>
      obtain ⟨z, H', I', rz, q⟩ := I.after hq
      exact ⟨z, H', I', rz, q⟩
    | next => exact False.elim hq
    | brk => exact False.elim hq
    | cont => exact False.elim hq
inductive RNeO (C : Addr) (sp : Sp) (E : XK) (x y : V) (H : Hp) (Q : VK) : Prop where
  | mk (a b dx dy : Addr) (fs gs : List (Str × V)) (hx : x = .ref a) (hy : y = .ref b) (ha : H a = some (.ins C dx fs)) (hb : H b = some (.ins C dy gs)) (h : sp [.ref a, .ref b] H (fun v H' => ∃ k, v = .bl k ∧ Q (.bl (!k)) H') E)
theorem op_neO (F : FnOk X.prog X.w X.K X.mg X.base CX n f fd ps sp) (hr : Room (n + 1) X.A) (c : EqO X.K C f) (hb : Binds X.K fd ps []) (hx : Passes CX X E) : OpR X (compareOp .NotEq) (RNeO C sp E) := by
  intro pins s σ H x y v u Q I rx ry h
  obtain ⟨a, b, dx, dy, fs, gs, rfl, rfl, ha, hb', h⟩ := h
  cases rx
  cases ry
  obtain ⟨mA, J, _⟩ := ins_get I.hok ha
  obtain ⟨mB, J', _⟩ := ins_get I.hok hb'
  obtain ⟨od, J, _⟩ := J.look
  obtain ⟨od', J', _⟩ := J'.look
  obtain ⟨m, hF⟩ := I.fr
  show wpAny (model X.prog X.w) X.A (richCompare .NotEq (.ref a) (.ref b)) _ _ _
  refine RK.ne_K (tb := .ref C) (by have := hr.in1.units0; exact this) hF I.ok.mod.kin J J'.type (by simp [PySem.W.notFirst]) c.ne c.eq c.fn c.mr ?_
  refine wpAny_mono (run_own F hr.in1 rfl hb hx I (vs := [.ref a, .ref b]) (.cons rfl (.cons rfl .nil)) h) (fun v s' q => ?_) fun _ _ e => e
  obtain ⟨z, H', I', rz, k, rfl, q⟩ := q
  cases rz
  exact ⟨k, rfl, .bl (!k), H', I', rfl, q⟩
inductive RTruO (C : Addr) (sp : Sp) (E : XK) (x : V) (H : Hp) (Q : Bool → Hp → Prop) : Prop where
  | mk (a dx : Addr) (fs : List (Str × V)) (hx : x = .ref a) (ha : H a = some (.ins C dx fs)) (h : sp [.ref a] H (fun v H' => ∃ k, v = .bl k ∧ Q k H') E)
theorem tru_own (F : FnOk X.prog X.w X.K X.mg X.base CX n f fd ps sp) (hr : Room n X.A) (c : TruO X.K C f) (hb : Binds X.K fd ps []) (hx : Passes CX X E) : TruR X (RTruO C sp E) := by
  intro pins s σ H x v Q I rx h
  obtain ⟨a, dx, fs, rfl, ha, h⟩ := h
  cases rx
  obtain ⟨mA, J, _⟩ := ins_get I.hok ha
  obtain ⟨od, J, _⟩ := J.look
  obtain ⟨m, hF⟩ := I.fr
  refine PySem.W.truthy_K hF I.ok.mod.kin J c.at_ c.fn ?_
  refine wpAny_mono (run_own F hr rfl hb hx I (vs := [.ref a]) (.cons rfl .nil) h) (fun v s' q => ?_) fun _ _ e => e
  obtain ⟨z, H', I', rz, k, rfl, q⟩ := q
  cases rz
  exact ⟨H', I', q⟩
/-! ### not x, bool(x) by a value's truth -/
variable {a : Expr} {ta : TE} {pos : Pos} {r : V → Hp → (Bool → Hp → Prop) → Prop}
theorem pe_notR (ha : PE X a ta) (hr : TruR X r) : PE X (.UnaryOp .Not a pos) (fun σ H Q => ta σ H fun x H1 => r x H1 fun c H2 => Q (.bl (!c)) H2) := by
  refine ⟨fun pins s σ H Q I h => ?_⟩
  refine UnaryOp_ (thn (ha.run pins s σ H _ I h) fun v s1 ⟨x, H1, I1, r1, q1⟩ => ?_)
  exact not_of (thn (hr pins s1 σ H1 x v (fun c H2 => Q (.bl (!c)) H2) I1 r1 q1) fun c s2 ⟨H2, I2, q2⟩ => ⟨.bl (!c), H2, I2, rfl, q2⟩)
/-! ### xs != ys of lists of such -/
def RnG (X : Cx) (n : Nat) (D : Eqv) : Prop :=
  ∀ (A : Around) (pins : List (Addr × Obj)) (s : Shared) (σ : L2.St) (H : Hp) (x y : V) (u v : Value), Sub X n A → Inv X pins σ H s → RelV x u → RelV y v → D x y H →
    wpAny (model X.prog X.w) A (richCompare .NotEq u v) (fun r s' => r = .bool false ∧ ∃ H', Inv X pins σ H' s' ∧ Ext H H') X.xe s
theorem rnG_list {D : Eqv} (hD : Mon D) (h : EqG X n D) : RnG X (n + 1) (DList D) := by
  intro A pins s σ H x y u v sb I rx ry d
  obtain ⟨a, b, xs, ys, rfl, rfl, ha, hb, p⟩ := d
  cases rx
  cases ry
  refine RK.rc_listNe (N := xs.length) sb.room.units0 (fun _ s' => LoopI X pins σ H s') (fun i s' q => ?_) (fun s' q => ⟨rfl, q⟩) ⟨H, I, Ext.rfl'⟩
  obtain ⟨H1, I1, e1⟩ := id q
  obtain ⟨z, its, k, r1, e⟩ := I1.hok a _ (e1 _ _ ha)
  obtain ⟨z2, its2, k2, r2, e2⟩ := I1.hok b _ (e1 _ _ hb)
  refine ⟨its.toArray, its2.toArray, k, k2, e, e2, by rw [List.size_toArray, ← r1.length], by rw [List.size_toArray, ← r2.length, ← p.1], fun h1 h2 => ?_⟩
  exact turnG hD h sb p r1 r2 i h1 h2 s' q
inductive RNeG (D : Eqv) (x y : V) (H : Hp) (Q : VK) : Prop where
  | mk (d : D x y H) (k : ∀ H', Same H H' → Q (.bl false) H')
theorem op_neG {D : Eqv} (h : RnG X n D) (hr : Room n X.A) : OpR X (compareOp .NotEq) (RNeG D) := by
  intro pins s σ H x y v u Q I rx ry hq
  obtain ⟨d, q⟩ := hq
  show wpAny (model X.prog X.w) X.A (richCompare .NotEq v u) (EP X pins σ Q) X.xe s
  refine wpAny_mono (h X.A pins s σ H x y v u ⟨hr, rfl⟩ I rx ry d) (fun r s' z => ?_) fun _ _ x => x
  obtain ⟨hr', H', I', e⟩ := z
  subst hr'
  exact ⟨.bl false, H', I', rfl, q H' e⟩
end
end RC
/-! ### bool(x) of an instance -/
namespace RK
open PySem PySem.Spec PySem.W PySem.Calls PyProof.Rows
section
variable {prog : Program} {w : World} {A : Around} {E : Value → Shared → Prop} {s : Shared}
theorem bool_new {R : Fin → Shared → Prop} {x : Value} (h : wpAny (model prog w) A (truthy x) (fun b s' => R (.done (.ret (.bool b))) s') E s) :
    wpAny (model prog w) A (Builtin.«bool.__new__» ⟨[.type "bool", x], []⟩) R E s := by
  obtain ⟨hp, g, d, tk, os⟩ := s
  have f1 := PySem.F.conv_sub_bool
  unfold Builtin.«bool.__new__»
  repeat (any_goals (first | assumption | (refine wpAny_bind (m := truthy x) (wpAny_mono h (fun b s' q => ?_) fun _ _ e => e)) | wp_step))
  all_goals first | exact wpAny_pure q | exact q | skip
theorem call_boolO {x : Value} {Q : Value → Shared → Prop} (h : wpAny (model prog w) A.in1.in1 (truthy x) (fun b s' => Q (.bool b) s') E s) : wpAny (model prog w) A (call (.type "bool") [x]) Q E s := by
  refine callType_codes (Q₁ := fun r s₁ => ∃ b, r = .bool b ∧ Q r s₁) PySem.F.called_bool (PySem.F.typeCall_bool_1 _) PySem.F.entry_object_init ?_ ?_
  · refine codeAny_of_tree ?_
    show wpAny _ A.in1.in1 (do checkBuiltinCall "bool.__new__" ⟨[.type "bool", x], []⟩; again (.builtin "bool.__new__" ⟨[.type "bool", x], []⟩)) _ _ s
    refine wpAny_bind (wpAny_of_eq (PySem.F.newCall_bool_1 x) (wpAny_pure ⟨plainId_quiet (by decide +kernel) _, codeAny_builtin PySem.F.entry_bool_new ?_⟩))
    rw [Around.under_plainId (by decide +kernel) _]
    exact bool_new (wpAny_mono h (fun b s' q => ⟨b, rfl, q⟩) fun _ _ e => e)
  · rintro obj s₁ ⟨b, rfl, q⟩
    exact ⟨PySem.typeIs_bool _ _, PySem.F.args_object_init_2 _ _, object_init_meets PySem.F.called_bool.init.lookup PySem.F.called_bool.made (by decide) prog w A.in1 _ s₁ ⟨PySem.typeIs_bool _ _, rfl, q⟩⟩
end
end RK
namespace RC
open PySem PySem.Spec PyProof.Rows L2
section
variable {X : Cx} {CX : CXT} {n : Nat} {C f : Addr} {fd : FuncData} {ps : List Str} {sp : Sp} {E : XK}
inductive RBoolO (C : Addr) (sp : Sp) (E : XK) (xs : List V) (H : Hp) (Q : VK) : Prop where
  | mk (a dx : Addr) (fs : List (Str × V)) (hx : xs = [.ref a]) (ha : H a = some (.ins C dx fs)) (h : sp [.ref a] H (fun v H' => ∃ k, v = .bl k ∧ Q (.bl k) H') E)
theorem call_boolO (F : FnOk X.prog X.w X.K X.mg X.base CX n f fd ps sp) (hr : Room (n + 2) X.A) (c : TruO X.K C f) (hb : Binds X.K fd ps []) (hx : Passes CX X E) : CallR X (.type "bool") (RBoolO C sp E) := by
  intro pins s σ H xs us Q I r h
  obtain ⟨a, dx, fs, rfl, ha, h⟩ := h
  obtain ⟨u, rfl, ru⟩ := vals1 r
  obtain rfl : u = Value.ref a := ru
  obtain ⟨mA, J, _⟩ := ins_get I.hok ha
  obtain ⟨od, J, _⟩ := J.look
  obtain ⟨m, hF⟩ := I.fr
  refine RK.call_boolO (PySem.W.truthy_K hF I.ok.mod.kin J c.at_ c.fn ?_)
  refine wpAny_mono (run_own F hr.in1.in1 rfl hb hx I (vs := [.ref a]) (.cons rfl .nil) h) (fun v s' q => ?_) fun _ _ e => e
  obtain ⟨z, H', I', rz, k, rfl, q⟩ := q
  cases rz
  exact ⟨.bl k, H', I', rfl, q⟩
end
end RC
/-! ### enumerate of anything that begins -/
namespace RK
open PySem PySem.Spec PyProof.Rows
theorem meets_enum1 {v : Value} {o : Obj} {H : Heap → Prop} (B : Begins v o H) :
    Meets (Builtin.«enumerate.__new__» ⟨[.type "enumerate", v], []⟩) (fun _ R s => H s.heap ∧
      R (.ok (.ret (.ref (s.heap.push o).objs.size))) { s with heap := (s.heap.push o).push { cls := .type "enumerate", data := .fields #[.none, .bool false, .ref s.heap.objs.size, rawInt 0, .none, .none] } }) :=
  .of_wp fun prog w A R s h => by
    obtain ⟨hp, g, d, tk, os⟩ := s
    obtain ⟨h1, h⟩ := h
    have hsub := sub_enumerate
    have q1 : ∀ {A' : Around} {E : Value → Shared → Prop} {Q : Value → Shared → Prop}, Q (.ref hp.objs.size) ⟨hp.push o, g, d, tk, os⟩ → wpAny (model prog w) A' (pyIter v) Q E ⟨hp, g, d, tk, os⟩ :=
      fun q => B.iter prog w _ _ ⟨hp, g, d, tk, os⟩ _ h1 q
    wp_walk using q1
    refine wpAny_stack_any fun st => wpAny_pure ?_
    split
    · rename_i c _ _ _ _ _
      cases (c == Value.type "enumerate") <;> (wp_walk using q1; exact ⟨_, rfl, h⟩)
    · wp_walk using q1
      exact ⟨_, rfl, h⟩
theorem enum_begins1 {prog : Program} {w : World} {A : Around} {E : Value → Shared → Prop} {s : Shared} {v : Value} {o : Obj} {H : Heap → Prop} {Q : Value → Shared → Prop} (B : Begins v o H) (h1 : H s.heap)
    (h : ∀ h', IsEnum h' (s.heap.objs.size + 1) s.heap.objs.size 0 .none → h'.get? s.heap.objs.size = some o → h'.objs.size = s.heap.objs.size + 2 →
      (∀ b o, s.heap.get? b = some o → h'.get? b = some o) → Q (.ref (s.heap.objs.size + 1)) { s with heap := h' }) : wpAny (model prog w) A (call (.type "enumerate") [v]) Q E s := by
  refine callType_new PySem.F.called_enumerate (by decide) (PySem.F.typeCall_enumerate_1 _) (PySem.F.newCall_enumerate_1 _) (fun obj => PySem.F.args_object_init_2 obj _) PySem.F.entry_enumerate_new (meets_enum1 B) ⟨h1, ?_⟩
  have hz : (s.heap.push o).objs.size = s.heap.objs.size + 1 := Heap.size_push ..
  show _ ∧ _
  rw [hz]
  have he : IsEnum ((s.heap.push o).push { cls := .type "enumerate", data := .fields #[.none, .bool false, .ref s.heap.objs.size, rawInt 0, .none, .none] }) (s.heap.objs.size + 1) s.heap.objs.size 0 .none := by
    have e := Heap.get?_push_size (s.heap.push o) (o := { cls := .type "enumerate", data := .fields #[.none, .bool false, .ref s.heap.objs.size, rawInt 0, .none, .none] }) rfl
    rw [hz] at e
    exact e
  exact ⟨⟨_, he, rfl⟩, h _ he (Heap.get?_push_of_some _ (Heap.get?_push_size _ B.free)) (by rw [Heap.size_push, hz]) fun b o x => Heap.get?_push_of_some _ (Heap.get?_push_of_some _ x)⟩
end RK
namespace RC
open PySem PySem.Spec PyProof.Rows L2
/-! ### a list or a tuple, as t tells: its walk, its enumerate -/
def ItB (K : PySem.W.Frag) (a : Addr) (t : Bool) : It := match t with
  | true => Itt K a
  | false => Itl K a
def iSeqB (K : PySem.W.Frag) (t : Bool) (tl : TE) : TI := fun σ H R => tl σ H fun x H1 => ∃ a, x = .ref a ∧ (∃ xs, SqB K H1 a xs t) ∧ R (ItB K a t) H1
theorem pi_seqB {X : Cx} {tg l : Expr} {tl : TE} (t : Bool) (hl : PE X l tl) : PI X tg l (iSeqB X.K t tl) := by
  cases t with
  | true => exact pi_tup hl
  | false => exact pi_list hl
theorem pi_seqBC {X : Cx} {K : PySem.W.Frag} {tg l : Expr} {tl : TE} (hK : X.K = K) (t : Bool) (hl : PE X l tl) : PI X tg l (iSeqB K t tl) := hK ▸ pi_seqB t hl
theorem walk_seqB {K : PySem.W.Frag} {a : Addr} {xs : List V} {t : Bool} : Walk (ItB K a t) xs.length (fun H => SqB K H a xs t) (YAt xs) := by
  cases t with
  | true => exact walk_tup
  | false => exact walk_list
def IteB (K : PySem.W.Frag) (a : Addr) (t : Bool) : It :=
  ⟨fun i H => ∃ (xs : List V) (x : V), SqB K H a xs t ∧ xs[i]? = some x, fun i H v H' => ∃ T x, v = .ref T ∧ H T = none ∧ H' = upd H T (.tup [.int (i : Nat), x]) ∧ ∀ xs, SqB K H a xs t → xs[i]? = some x, fun i H => ∃ xs : List V, SqB K H a xs t ∧ xs.length = i⟩
theorem turn_enumB {P : Program} {w : World} {K : PySem.W.Frag} {elts : List Expr} {kk : Nat} {tpos : Pos} {a e it : Addr} {t : Bool} (hne : e ≠ it) (hae : e ≠ a) (hai : a ≠ it) :
    Turn P w K (.Tuple elts kk tpos) (IteB K a t) [e, it] e (fun i h => (∃ old, IsEnum h e it ((i : Nat) : Int) old) ∧ IterB h it a i t) where
  mem := by simp
  obj := fun i h st b hb => by
    obtain ⟨⟨old, he⟩, hi⟩ := st
    have e' : b = e ∨ b = it := by simpa using hb
    rcases e' with z | z
    · rw [z]; exact ⟨_, he, fun v q => nomatch q⟩
    · rw [z]; exact iterB_obj hi
  keep := fun i h h' st k => let ⟨⟨old, he⟩, hi⟩ := st; ⟨⟨old, k e (by simp) _ he⟩, iterB_at hi fun o q => k it (by simp) o q⟩
  item := by
    intro X hP hw hK hc i pins s σ H E I hf st hg
    subst hP hw hK
    obtain ⟨⟨old, he⟩, hit⟩ := st
    obtain ⟨xs, x, hq, hx⟩ := hg
    obtain ⟨its, rv, p, _, la⟩ := inv_seqB I hq
    obtain ⟨u, hu, ru⟩ := rv.get hx
    have hh : X.A.in1.handled = none := I.ok.hd hc
    have hel : e < s.heap.objs.size := Heap.lt_size he
    have hil : it < s.heap.objs.size := by obtain ⟨_, q, _⟩ := iterB_obj hit; exact Heap.lt_size q
    have l1 := (List.getElem?_eq_some_iff.mp hu).1
    refine wpAny_pyNext_enum_itemC (drawsB hh t it a hai its.toArray) he ⟨hit, p⟩ (by simpa using l1) hne (by simp [hne, hae]) fun x1 h' tk e1 ho hit' hT hsz hk => ?_
    obtain rfl : u = x1 := by simpa [hu] using e1
    refine ⟨_, rfl, wpAny_letOwnedTupleGo_enum (s := { s with heap := h', toks := tk + 1 }) ho fun h'' he' sb => ?_⟩
    have hT2 : h''.get? s.heap.objs.size = some { cls := .type "tuple", data := .seq #[.int i tk, u] } := (sb.2 _ (Nat.ne_of_gt hel)).trans hT
    have new : ObjOk X.prog X.w (upd H s.heap.objs.size (.tup [.int (i : Nat), x])) h'' s.heap.objs.size (.tup [.int (i : Nat), x]) :=
      ⟨by show 2 ≤ sizeLine; decide, [.int i tk, u], .cons ⟨_, rfl⟩ (.cons ru .nil), ⟨_, hT2, rfl, _, rfl⟩⟩
    have I1 : L2.Inv X pins σ (upd H s.heap.objs.size (.tup [.int (i : Nat), x])) { s with heap := h'', toks := tk + 1 } :=
      I.turnedNew (ch := [e, it]) (fun b ob hb q => (sb.2 b (fun z => hb (by simp [z]))).trans (hk b ob (fun z => hb (by simp [z])) (fun z => hb (by simp [z])) q)) hf (Nat.le_refl _) new
    refine ⟨.ref s.heap.objs.size, _, I1, rfl, ⟨_, x, rfl, I.hok.fresh (Nat.le_refl _), rfl, fun ys hy => by rw [inv_injB I hy hq]; exact hx⟩, ⟨⟨u, ?_⟩, iterB_at hit'.1 fun o q => (sb.2 it (Ne.symm hne)).trans q⟩, fun b hb => ?_⟩
    · have e1 : ((i + 1 : Nat) : Int) = (i : Int) + 1 := by omega
      rw [e1]; exact he'
    · have hb' : b < s.heap.objs.size := by
        have e' : b = e ∨ b = it := by simpa using hb
        rcases e' with z | z
        · rw [z]; exact hel
        · rw [z]; exact hil
      rw [upd_ne (Nat.ne_of_lt hb')]
      exact (hf b hb).1
  done := by
    intro X hP hw hK hc i pins s σ H E I hf st hg
    subst hP hw hK
    obtain ⟨⟨old, he⟩, hit⟩ := st
    obtain ⟨xs, hq, hx⟩ := hg
    obtain ⟨its, rv, p, _, la⟩ := inv_seqB I hq
    have hh : X.A.in1.handled = none := I.ok.hd hc
    have hl := rv.length
    have hn : its.toArray.size = i := by simp; omega
    refine wpAny_pyNext_enum_endD (drawsB hh t it a hai its.toArray) he (by rw [hn]; exact ⟨hit, p⟩) fun h' hk => ⟨rfl, I.turnedL (t' := s.toks) (ch := [e, it]) (fun b o hb q => hk b o (fun z => hb (by simp [z])) q) hf⟩
  self := fun A i s Q E st h => let ⟨⟨_, he⟩, _⟩ := st; wpAny_pyIter_enum he h
def iEnumB (K : PySem.W.Frag) (t : Bool) (ta : TA) : TI := fun σ H R => ta σ H fun vs H1 => ∃ a xs, vs = [.ref a] ∧ SqB K H1 a xs t ∧ R (IteB K a t) H1
theorem pi_enumB {X : Cx} (t : Bool) {e : Expr} {ta : TA} {p pos tpos : Pos} {elts : List Expr} {kk : Nat} (hg : Gl X "enumerate") (hm : X.mg "enumerate" = none) (ha : PA X [e] ta) (hs : starEach [e] X.env = [(false, eval e X.env)] := by rfl) :
    PI X (.Tuple elts kk tpos) (.Call (.Name "enumerate" p) [e] [] pos) (iEnumB X.K t ta) := by
  refine ⟨fun pins s σ H R I h => ?_⟩
  refine Call_ (ld_blt I hg hm boot_enumerate (PyProof.Rows.callWith_type1 (thn (ha.run pos pins s σ H _ I h) fun us s1 ⟨vs, H1, I1, r1, q1⟩ => ?_) hs rfl))
  obtain ⟨a, xs, ex, hq, q⟩ := q1
  subst ex
  obtain ⟨u, rfl, ru⟩ := vals1 r1
  obtain rfl : u = Value.ref a := ru
  obtain ⟨its, rv, p', _, la⟩ := inv_seqB I1 hq
  refine RK.enum_begins1 (beginsB t a its.toArray) p' fun h' he hit hsz hk => wpAny_pyIter_enum he ?_
  have I2 : L2.Inv X pins σ H1 { s1 with heap := h' } := I1.kept (t' := s1.toks) hk
  refine ⟨s1.heap.objs.size + 1, [s1.heap.objs.size + 1, s1.heap.objs.size], _, _, H1, rfl, I2, turn_enumB (Nat.succ_ne_self _) (Nat.ne_of_gt (Nat.lt_succ_of_lt la)) (Nat.ne_of_lt la), ⟨⟨.none, he⟩, iterB_new hit⟩, fun b hb => ?_, q⟩
  have e' : b = s1.heap.objs.size + 1 ∨ b = s1.heap.objs.size := by simpa using hb
  have hle : s1.heap.objs.size ≤ b := by
    rcases e' with z | z
    · rw [z]; exact Nat.le_add_right _ _
    · rw [z]; exact Nat.le_refl _
  exact I1.fpOk hle (I1.hok.fresh hle)
theorem walk_enumB {K : PySem.W.Frag} {a : Addr} {xs : List V} {t : Bool} : Walk (IteB K a t) xs.length (fun H => SqB K H a xs t) (YPair (fun i => some (.int (i : Nat))) (fun i => xs[i]?)) := by
  refine ⟨fun i _ hi q => ⟨xs, xs[i], q, by simp [hi]⟩, fun _ q => ⟨xs, q, rfl⟩, fun i H v H' _ q y => ?_⟩
  obtain ⟨T, x, h1, h2, h3, h4⟩ := y
  exact ⟨T, .int (i : Nat), x, h1, h2, h3, rfl, h4 xs q⟩
end RC
namespace RC
open PySem PySem.Spec PyProof.Rows L2
/-! ### facts of a class's own special methods, by the head -/
section
variable {K : PySem.W.Frag} {x y : Str}
def eqoB (K : PySem.W.Frag) (x : Str) : Bool := decide (PySem.W.findIn K (.ref (He.ga K x)) "__eq__" = some (some (.ref (He.ma K (He.ga K x) "__eq__")))) && (decide (PySem.W.findIn K (.ref (He.ga K x)) "__ne__" = some (some (.builtin "object.__ne__"))) &&
  (PySem.W.isFn K (.ref (He.ma K (He.ga K x) "__eq__")) && decide (PySem.W.mroIn K (He.ga K x) (.type "object") = some true)))
theorem eqoB_ok (h : eqoB K x = true) : EqO K (He.ga K x) (He.ma K (He.ga K x) "__eq__") := by
  obtain ⟨h1, h⟩ := He.ba h
  obtain ⟨h2, h⟩ := He.ba h
  obtain ⟨h3, h4⟩ := He.ba h
  exact ⟨of_decide_eq_true h1, of_decide_eq_true h2, h3, of_decide_eq_true h4⟩
def truB (K : PySem.W.Frag) (x : Str) : Bool := decide (PySem.W.findIn K (.ref (He.ga K x)) "__bool__" = some (some (.ref (He.ma K (He.ga K x) "__bool__")))) && PySem.W.isFn K (.ref (He.ma K (He.ga K x) "__bool__"))
theorem truB_ok (h : truB K x = true) : TruO K (He.ga K x) (He.ma K (He.ga K x) "__bool__") := by
  obtain ⟨h1, h2⟩ := He.ba h
  exact ⟨of_decide_eq_true h1, h2⟩
def calB (K : PySem.W.Frag) (x : Str) : Bool := decide (PySem.W.findIn K (.ref (He.ga K x)) "__call__" = some (some (.ref (He.ma K (He.ga K x) "__call__")))) && (PySem.W.isFn K (.ref (He.ma K (He.ga K x) "__call__")) && PySem.W.fnIn K (He.ma K (He.ga K x) "__call__"))
theorem calB_ok (h : calB K x = true) : StX.CallO K (He.ga K x) (He.ma K (He.ga K x) "__call__") := by
  obtain ⟨h1, h⟩ := He.ba h
  obtain ⟨h2, h3⟩ := He.ba h
  exact ⟨of_decide_eq_true h1, h2, h3⟩
def nkB (K : PySem.W.Frag) (x y : Str) : Bool := decide (PySem.W.kitOne K (.ref (He.ga K x)) (.ref (He.ga K y)) = some false)
theorem nkB_ok (h : nkB K x y = true) : PySem.W.kitOne K (.ref (He.ga K x)) (.ref (He.ga K y)) = some false := of_decide_eq_true h
end
end RC
namespace RC
open PySem PySem.Spec PyProof.Rows L2
/-! ### more by list or tuple -/
section
variable {K : PySem.W.Frag} {H H' : Hp} {a p : Addr} {xs : List V} {t : Bool}
theorem lenB (h : SqB K H a xs t) : SqL K H a xs ∨ SqT K H a xs := by
  cases t with
  | true => exact .inr h
  | false => exact .inl h
theorem tyB (h : SqB K H a xs t) : TyX K H (.ref a) (if t then .type "tuple" else .type "list") := by
  cases t with
  | true => exact tyT h
  | false => exact tyL h
theorem seqB_but {o : HO} (e : SameBut p H H') (hp : H p = some o) (h1 : ∀ xs, o ≠ .lst xs) (h2 : ∀ ob u, o ≠ .frz ob u) (h3 : ∀ xs, o ≠ .tup xs) (h : SqB K H a xs t) : SqB K H' a xs t := by
  cases t with
  | true => exact seqT_but e hp h3 h2 h
  | false => exact seqL_but e hp h1 h2 h
variable {g : TG} {tt : TT} {te : TE} {vs : List Nat} {σ : L2.St} {H1 : Hp} {D : Addr} {Qd : Hp → Prop} {n : Nat}
theorem lcq_seqB {a : Addr} (va fa : Nat → V) (hD : H1 D = none) (hz : n ≤ sizeLine) (hS : SqB K H1 a (tab n va) t) (hs : ∀ x, x < n → TurnQ g te vs σ H1 (va x) (fa x)) (hd : ∀ H, Same H1 H → H D = some (.lst (tab n fa)) → Qd H) :
    ∃ W : Nat → Nat → Hp → Prop, (∃ m, W 0 m (upd H1 D (.lst []))) ∧ ∀ i m H, W i m H →
      ((ItB K a t).stop i H ∧ Qd H) ∨ ((ItB K a t).go i H ∧ ∃ Nx : Hp → Prop, (∀ H', Nx H' → ∃ m', m' < m ∧ W (i + 1) m' H') ∧ ∀ x H', (ItB K a t).yld i H x H' → g x (wipe σ vs) H' fun σ2 H2 => wipe σ2 vs = wipe σ vs ∧ tYes σ2 H2 fun b H3 =>
        if b = true then te σ2 H3 fun y H4 => ∃ acc, H4 D = some (.lst acc) ∧ acc.length < sizeLine ∧ Nx (upd H4 D (.lst (acc ++ [y]))) else Nx H3) := by
  cases t with
  | true => exact lcq_tup va fa hD hz hS hs hd
  | false => exact lcq_list va fa hD hz hS hs hd
theorem lcp_seqB {α : Type} {a : Addr} (as : List α) (va : α → V) (q : α → Bool) (fa : α → V) (hD : H1 D = none) (hz : as.length ≤ sizeLine) (hS : SqB K H1 a (as.map va) t)
    (hs : ∀ x, x ∈ as → TurnP g tt te vs σ H1 (va x) (fa x) (q x)) (hd : ∀ H, Same H1 H → H D = some (.lst ((as.filter q).map fa)) → Qd H) :
    ∃ W : Nat → Nat → Hp → Prop, (∃ m, W 0 m (upd H1 D (.lst []))) ∧ ∀ i m H, W i m H →
      ((ItB K a t).stop i H ∧ Qd H) ∨ ((ItB K a t).go i H ∧ ∃ Nx : Hp → Prop, (∀ H', Nx H' → ∃ m', m' < m ∧ W (i + 1) m' H') ∧ ∀ x H', (ItB K a t).yld i H x H' → g x (wipe σ vs) H' fun σ2 H2 => wipe σ2 vs = wipe σ vs ∧ tt σ2 H2 fun b H3 =>
        if b = true then te σ2 H3 fun y H4 => ∃ acc, H4 D = some (.lst acc) ∧ acc.length < sizeLine ∧ Nx (upd H4 D (.lst (acc ++ [y]))) else Nx H3) := by
  cases t with
  | true => exact lcp_tup as va q fa hD hz hS hs hd
  | false => exact lcp_list as va q fa hD hz hS hs hd
end
/-- equal data is equal -/
theorem eqSame {K : PySem.W.Frag} {H : Hp} {x y : V} {d : PyData} {Q : VK} (h1 : Dp K H x d) (h2 : Dp K H y d) (hs : SeqAt.shaped d = true) (k : Q (.bl true) H) : REqD K x y H Q := by
  refine ⟨⟨d, d, h1, h2, hs, hs, ?_⟩⟩
  rw [SeqAt.eqv_refl]
  · exact k
  · exact SeqAt.canLay_of_shaped hs
theorem tup_ints {K : PySem.W.Frag} {H : Hp} {a : Addr} {ns : List Int} (h : SqT K H a (ns.map V.int)) : Dp K H (.ref a) (.tuple (ns.map PyData.int)) := .tup h (dp_ints ns)
theorem shaped_tup (ns : List Int) : SeqAt.shaped (.tuple (ns.map PyData.int)) = true := (shaped_seq (k := 0) (fun d hd => by
  obtain ⟨n, _, rfl⟩ := List.mem_map.mp hd
  exact ⟨by simp only [PyData.canLay0], by simp only [PyData.depth]; omega⟩) (by decide)).2
end RC
namespace RC
open PySem PySem.Spec PyProof.Rows L2
section
variable {X : Cx} {CX : CXT} {k : Nat} {f C : Addr} {fd : FuncData} {ps : List Str} {sp : Sp} {E : XK}
/-! ### a call of an instance by its own __call__ -/
def tCallI (C : Addr) (sp : Sp) (E : XK) (tf : TE) (t : TA) : TE := fun σ H Q => tf σ H fun y H1 => ∃ a : Addr, y = V.ref a ∧ t σ H1 fun vs H2 => ∃ (dx : Addr) (fs : List (Str × V)), H2 a = some (.ins C dx fs) ∧ sp (V.ref a :: vs) H2 Q E
theorem pe_callI {fe e : Expr} {es : List Expr} {tf : TE} {t : TA} {pos : Pos} (hf : PE X fe tf) (c : StX.CallO X.K C f) (F : FnOk X.prog X.w X.K X.mg X.base CX k f fd ps sp) (hb : Binds X.K fd ps []) (hr : Room k X.A) (hx : Passes CX X E) (ha : PA X (e :: es) t)
    (ht : eval (.Call fe (e :: es) [] pos) X.env = (do callWith pos (← eval fe X.env) [] (backTo pos (starEach (e :: es) X.env)) (backToKw pos (keywordEach [] X.env))) := by rfl)
    (he : starEach (e :: es) X.env = (false, eval e X.env) :: starEach es X.env := by rfl) (hpl : (backTo pos (starEach es X.env)).any (·.1) = false := by rfl) : PE X (.Call fe (e :: es) [] pos) (tCallI C sp E tf t) := by
  refine ⟨fun pins s σ H Q I h => ?_⟩
  refine Call_ (thn (hf.run pins s σ H _ I h) fun u s1 ⟨y, H1, I1, ry, a, ey, q⟩ => ?_) ht
  subst ey
  obtain rfl : u = Value.ref a := ry
  refine StX.callO_with (thn (ha.run pos pins s1 σ H1 _ I1 q) fun us s2 ⟨vs, H2, I2, r, dx, fs, hi, q2⟩ => ?_) he hpl
  obtain ⟨ox, od, J, hd⟩ := StX.insC_at I2 (C := C) (.inr ⟨dx, fs, hi⟩)
  refine ⟨⟨C, ox, od, J, hd⟩, wpAny_call (PySem.W.kco_code I2.kIn J hd c.at_ c.fn c.fi ?_)⟩
  have hl := F.len _ _ _ _ q2
  have r2 : Vals (V.ref a :: vs) (Value.ref a :: us) := .cons rfl r
  refine codeAny_mono (F.run X.A X.stack s2 H2 ⟨.ref a :: us, []⟩ (.ref a :: us) (.ref a :: vs) _ E hr I2.env0 (by
    have z := hb s2 (.ref a :: us) I2.kIn (by rw [List.append_nil, ← r2.length]; exact hl)
    simpa using z) r2 q2) fun r s' hq => ?_
  cases r with
  | error e => exact hx pins σ H2 s2 e s' I2 hq
  | ok fl =>
    cases fl with
    | ret w => exact I2.after hq
    | next => exact False.elim hq
    | brk => exact False.elim hq
    | cont => exact False.elim hq
/-! ### a call by keywords alone, in the parameters' order -/
def kwOnly {α : Type} : List α → List α → List α
  | [], ws => ws
  | _ :: _, _ => []
theorem kbinds0 {K : PySem.W.Frag} {x qual : Str} {params : Arguments} {body : List Stmt} {scope : Scope} {kws : List (Str × V)} (F : FunD K x qual params body scope [] kws f fd) (hp : 0 < ps.length)
    (h : ∀ (kV doc pm : Value) (an : Option Addr) (cdv ct : Value) (ws : List Value), ws.length = ps.length → bindArgs (PySem.W.fnOf x qual params body scope .none kV doc pm an cdv ct) ⟨[], ps.zip ws⟩ = pure (ps.zip ws)) : KBinds K fd ps ps kwOnly kwOnly := by
  obtain ⟨oc, od, dV, kV, doc, pm, an, cdv, ct, osl, rfl, lk, hcd, hD, hK⟩ := F.ex
  rcases hD with ⟨_, rfl⟩ | ⟨e, _⟩
  · refine ⟨fun s us ws _ hl => ?_, fun {vs us zs ws} r rz => ?_⟩
    · cases us with
      | nil => exact .of_eq (h kV doc pm an cdv ct ws hl)
      | cons u r =>
        have hl : 0 = ps.length := hl
        omega
    · cases r with
      | nil => exact rz
      | cons _ _ => exact .nil
  · exact absurd rfl e
theorem pe_callK0 {x : Str} {p pos : Pos} {ks : List Str} {kws : List Keyword} {tk : TA} {g : List Value → List Value → List Value} {gV : List V → List V → List V} (F : FnOk X.prog X.w X.K X.mg X.base CX k f fd ps sp) (hr : Room k X.A) (hg : Gl X x) (hm : X.mg x = some (.ref f)) (hk : PySem.W.keepIn X.K (.ref f) = true)
    (hb : KBinds X.K fd ps ks g gV) (hx : Passes CX X E) (hkw : PK X kws tk) (hall : (backToKw pos (keywordEach kws X.env)).all (·.1.isSome) = true := by rfl) (hks : (backToKw pos (keywordEach kws X.env)).filterMap (·.1) = ks := by rfl)
    (hdb : (x == ("__debug__" : Str)) = false := by decide) (hpl : ((backTo pos (starEach [] X.env)).any (·.1) || (backToKw pos (keywordEach kws X.env)).any (·.1.isNone)) = false := by rfl) :
    PE X (.Call (.Name x p) [] kws pos) (tCallK sp gV E tNil tk) := by
  refine ⟨fun pins s σ H Q I h => ?_⟩
  refine wpAny_Call_Name_kw (ld_glob I hg hm ?_ hdb)
  refine PySem.W.callWith_KW0 (h₀ := X.base) I.ok.mod.kin hk hall ?_ hpl
  refine thn (hkw.run pos pins s σ H _ I h) fun ws s2 ⟨zs, H2, I2, rz, q2⟩ => ⟨I2.kIn, ?_⟩
  rw [hks]
  exact run_fnk F hr hb hx I2 (vs := []) .nil rz q2
end
end RC
namespace R35
open PySem PySem.Spec PyProof.Rows L2
def top (i : Nat) : Stmt := PySem.Challenge.pw_rowcounts_k35_whole_points_or_clashes.main.body.getD i (.Pass ⟨0, 0, 0, 0⟩)
abbrev s_is_int : Stmt := top 11
abbrev N_is_int : List Str := ["value"]
theorem sc_is_int : FnScope N_is_int ["value"] (defScope s_is_int) := ⟨rfl, rfl, rfl, by decide +kernel, rfl, by decide +kernel, by decide +kernel⟩
abbrev s_is_between : Stmt := top 12
abbrev N_is_between : List Str := ["value", "least", "most"]
theorem sc_is_between : FnScope N_is_between ["value", "least", "most"] (defScope s_is_between) := ⟨rfl, rfl, rfl, by decide +kernel, rfl, by decide +kernel, by decide +kernel⟩
abbrev s_are_ints : Stmt := top 17
abbrev N_are_ints : List Str := ["some", "one"]
theorem sc_are_ints : FnScope N_are_ints ["some"] (defScope s_are_ints) := ⟨rfl, rfl, rfl, by decide +kernel, rfl, by decide +kernel, by decide +kernel⟩
abbrev s_need_numbers : Stmt := top 18
abbrev N_need_numbers : List Str := ["value", "many"]
theorem sc_need_numbers : FnScope N_need_numbers ["value", "many"] (defScope s_need_numbers) := ⟨rfl, rfl, rfl, by decide +kernel, rfl, by decide +kernel, by decide +kernel⟩
abbrev s_value_at : Stmt := top 20
abbrev N_value_at : List Str := ["form", "numbers", "factor", "number"]
theorem sc_value_at : FnScope N_value_at ["form", "numbers"] (defScope s_value_at) := ⟨rfl, rfl, rfl, by decide +kernel, rfl, by decide +kernel, by decide +kernel⟩
abbrev s_Bound_init : Stmt := inClass (top 21) 0
abbrev N_Bound_init : List Str := ["self", "form", "is_strict"]
theorem sc_Bound_init : FnScope N_Bound_init ["self", "form", "is_strict"] (defScope s_Bound_init) := ⟨rfl, rfl, rfl, by decide +kernel, rfl, by decide +kernel, by decide +kernel⟩
abbrev s_Bound_call : Stmt := inClass (top 21) 3
abbrev N_Bound_call : List Str := ["self", "numbers", "value"]
theorem sc_Bound_call : FnScope N_Bound_call ["self", "numbers"] (defScope s_Bound_call) := ⟨rfl, rfl, rfl, by decide +kernel, rfl, by decide +kernel, by decide +kernel⟩
abbrev s_Bound_len : Stmt := inClass (top 21) 4
abbrev N_Bound_len : List Str := ["self"]
theorem sc_Bound_len : FnScope N_Bound_len ["self"] (defScope s_Bound_len) := ⟨rfl, rfl, rfl, by decide +kernel, rfl, by decide +kernel, by decide +kernel⟩
abbrev s_Bound_eq : Stmt := inClass (top 21) 9
abbrev N_Bound_eq : List Str := ["self", "other"]
theorem sc_Bound_eq : FnScope N_Bound_eq ["self", "other"] (defScope s_Bound_eq) := ⟨rfl, rfl, rfl, by decide +kernel, rfl, by decide +kernel, by decide +kernel⟩
abbrev s_Point_init : Stmt := inClass (top 25) 0
abbrev N_Point_init : List Str := ["self", "counts"]
theorem sc_Point_init : FnScope N_Point_init ["self", "counts"] (defScope s_Point_init) := ⟨rfl, rfl, rfl, by decide +kernel, rfl, by decide +kernel, by decide +kernel⟩
abbrev s_Point_eq : Stmt := inClass (top 25) 1
abbrev N_Point_eq : List Str := ["self", "other"]
theorem sc_Point_eq : FnScope N_Point_eq ["self", "other"] (defScope s_Point_eq) := ⟨rfl, rfl, rfl, by decide +kernel, rfl, by decide +kernel, by decide +kernel⟩
abbrev s_Point_bool : Stmt := inClass (top 25) 2
abbrev N_Point_bool : List Str := ["self"]
theorem sc_Point_bool : FnScope N_Point_bool ["self"] (defScope s_Point_bool) := ⟨rfl, rfl, rfl, by decide +kernel, rfl, by decide +kernel, by decide +kernel⟩
abbrev s_Clash_init : Stmt := inClass (top 26) 0
abbrev N_Clash_init : List Str := ["self", "weights"]
theorem sc_Clash_init : FnScope N_Clash_init ["self", "weights"] (defScope s_Clash_init) := ⟨rfl, rfl, rfl, by decide +kernel, rfl, by decide +kernel, by decide +kernel⟩
abbrev s_Clash_eq : Stmt := inClass (top 26) 1
abbrev N_Clash_eq : List Str := ["self", "other"]
theorem sc_Clash_eq : FnScope N_Clash_eq ["self", "other"] (defScope s_Clash_eq) := ⟨rfl, rfl, rfl, by decide +kernel, rfl, by decide +kernel, by decide +kernel⟩
abbrev s_Clash_bool : Stmt := inClass (top 26) 2
abbrev N_Clash_bool : List Str := ["self"]
theorem sc_Clash_bool : FnScope N_Clash_bool ["self"] (defScope s_Clash_bool) := ⟨rfl, rfl, rfl, by decide +kernel, rfl, by decide +kernel, by decide +kernel⟩
abbrev s_need_bounds : Stmt := top 27
abbrev N_need_bounds : List Str := ["bounds", "many", "at", "bound"]
theorem sc_need_bounds : FnScope N_need_bounds ["bounds", "many"] (defScope s_need_bounds) := ⟨rfl, rfl, rfl, by decide +kernel, rfl, by decide +kernel, by decide +kernel⟩
abbrev s_lowered : Stmt := top 28
abbrev N_lowered : List Str := ["numbers", "divisor", "number"]
theorem sc_lowered : FnScope N_lowered ["numbers"] (defScope s_lowered) := ⟨rfl, rfl, rfl, by decide +kernel, rfl, by decide +kernel, by decide +kernel⟩
abbrev s_Grid_init : Stmt := inClass (top 29) 0
abbrev N_Grid_init : List Str := ["self", "bounds", "many", "rows", "goal", "bound", "at", "row"]
theorem sc_Grid_init : FnScope N_Grid_init ["self", "bounds", "many"] (defScope s_Grid_init) := ⟨rfl, rfl, rfl, by decide +kernel, rfl, by decide +kernel, by decide +kernel⟩
abbrev s_Grid_full_row : Stmt := inClass (top 29) 1
abbrev N_Grid_full_row : List Str := ["self", "factors", "at", "helpers", "other"]
theorem sc_Grid_full_row : FnScope N_Grid_full_row ["self", "factors", "at"] (defScope s_Grid_full_row) := ⟨rfl, rfl, rfl, by decide +kernel, rfl, by decide +kernel, by decide +kernel⟩
abbrev s_Grid_entering : Stmt := inClass (top 29) 2
abbrev N_Grid_entering : List Str := ["self", "goal", "at"]
theorem sc_Grid_entering : FnScope N_Grid_entering ["self"] (defScope s_Grid_entering) := ⟨rfl, rfl, rfl, by decide +kernel, rfl, by decide +kernel, by decide +kernel⟩
abbrev s_Grid_leaving : Stmt := inClass (top 29) 3
abbrev N_Grid_leaving : List Str := ["self", "column", "best", "at", "row"]
theorem sc_Grid_leaving : FnScope N_Grid_leaving ["self", "column"] (defScope s_Grid_leaving) := ⟨rfl, rfl, rfl, by decide +kernel, rfl, by decide +kernel, by decide +kernel⟩
abbrev s_Grid_is_ahead : Stmt := inClass (top 29) 4
abbrev N_Grid_is_ahead : List Str := ["self", "at", "best", "column", "left", "right"]
theorem sc_Grid_is_ahead : FnScope N_Grid_is_ahead ["self", "at", "best", "column"] (defScope s_Grid_is_ahead) := ⟨rfl, rfl, rfl, by decide +kernel, rfl, by decide +kernel, by decide +kernel⟩
abbrev s_Grid_turn : Stmt := inClass (top 29) 5
abbrev N_Grid_turn : List Str := ["self", "at", "column", "lead", "chosen", "other", "row", "factor", "x", "y"]
theorem sc_Grid_turn : FnScope N_Grid_turn ["self", "at", "column"] (defScope s_Grid_turn) := ⟨rfl, rfl, rfl, by decide +kernel, rfl, by decide +kernel, by decide +kernel⟩
abbrev s_Grid_go_on : Stmt := inClass (top 29) 6
abbrev N_Grid_go_on : List Str := ["self", "column"]
theorem sc_Grid_go_on : FnScope N_Grid_go_on ["self"] (defScope s_Grid_go_on) := ⟨rfl, rfl, rfl, by decide +kernel, rfl, by decide +kernel, by decide +kernel⟩
abbrev s_Grid_weights_now : Stmt := inClass (top 29) 7
abbrev N_Grid_weights_now : List Str := ["self", "found", "at"]
theorem sc_Grid_weights_now : FnScope N_Grid_weights_now ["self"] (defScope s_Grid_weights_now) := ⟨rfl, rfl, rfl, by decide +kernel, rfl, by decide +kernel, by decide +kernel⟩
abbrev s_Grid_point_now : Stmt := inClass (top 29) 8
abbrev N_Grid_point_now : List Str := ["self", "goal", "at"]
theorem sc_Grid_point_now : FnScope N_Grid_point_now ["self"] (defScope s_Grid_point_now) := ⟨rfl, rfl, rfl, by decide +kernel, rfl, by decide +kernel, by decide +kernel⟩
abbrev s_settled : Stmt := top 30
abbrev N_settled : List Str := ["bounds", "many", "grid"]
theorem sc_settled : FnScope N_settled ["bounds", "many"] (defScope s_settled) := ⟨rfl, rfl, rfl, by decide +kernel, rfl, by decide +kernel, by decide +kernel⟩
abbrev s_shows_point : Stmt := top 31
abbrev N_shows_point : List Str := ["bounds", "many", "value", "bound"]
theorem sc_shows_point : FnScope N_shows_point ["bounds", "many", "value"] (defScope s_shows_point) := ⟨rfl, rfl, rfl, by decide +kernel, rfl, by decide +kernel, by decide +kernel⟩
abbrev s_are_clashing : Stmt := top 32
abbrev N_are_clashing : List Str := ["bounds", "weights", "many", "at", "one", "bound", "weight"]
theorem sc_are_clashing : FnScope N_are_clashing ["bounds", "weights", "many"] (defScope s_are_clashing) := ⟨rfl, rfl, rfl, by decide +kernel, rfl, by decide +kernel, by decide +kernel⟩
abbrev s_shows_clash : Stmt := top 33
abbrev N_shows_clash : List Str := ["bounds", "many", "value"]
theorem sc_shows_clash : FnScope N_shows_clash ["bounds", "many", "value"] (defScope s_shows_clash) := ⟨rfl, rfl, rfl, by decide +kernel, rfl, by decide +kernel, by decide +kernel⟩
abbrev s_law_pen : Stmt := top 35
abbrev N_law_pen : List Str := ["_law_script"]
theorem sc_law_pen : FnScope N_law_pen ["_law_script"] (defScope s_law_pen) := ⟨rfl, rfl, rfl, by decide +kernel, rfl, by decide +kernel, by decide +kernel⟩
abbrev s_law_draw : Stmt := top 36
abbrev N_law_draw : List Str := ["_law_pen_here", "_law_many", "_law_digit", "_law_at", "_law_cell", "_law_great", "_law_mixed"]
theorem sc_law_draw : FnScope N_law_draw ["_law_pen_here", "_law_many"] (defScope s_law_draw) := ⟨rfl, rfl, rfl, by decide +kernel, rfl, by decide +kernel, by decide +kernel⟩
abbrev s_law_pick : Stmt := top 37
abbrev N_law_pick : List Str := ["_law_pen_here", "_law_some"]
theorem sc_law_pick : FnScope N_law_pick ["_law_pen_here", "_law_some"] (defScope s_law_pick) := ⟨rfl, rfl, rfl, by decide +kernel, rfl, by decide +kernel, by decide +kernel⟩
abbrev s_law_factor : Stmt := top 38
abbrev N_law_factor : List Str := ["_law_pen_here"]
theorem sc_law_factor : FnScope N_law_factor ["_law_pen_here"] (defScope s_law_factor) := ⟨rfl, rfl, rfl, by decide +kernel, rfl, by decide +kernel, by decide +kernel⟩
abbrev s_law_form : Stmt := top 39
abbrev N_law_form : List Str := ["_law_pen_here", "_law_many", "_law_k"]
theorem sc_law_form : FnScope N_law_form ["_law_pen_here", "_law_many"] (defScope s_law_form) := ⟨rfl, rfl, rfl, by decide +kernel, rfl, by decide +kernel, by decide +kernel⟩
abbrev s_law_value : Stmt := top 40
abbrev N_law_value : List Str := ["_law_form_here", "_law_numbers", "_law_one", "_law_other"]
theorem sc_law_value : FnScope N_law_value ["_law_form_here", "_law_numbers"] (defScope s_law_value) := ⟨rfl, rfl, rfl, by decide +kernel, rfl, by decide +kernel, by decide +kernel⟩
abbrev s_law_plain_bounds : Stmt := top 41
abbrev N_law_plain_bounds : List Str := ["_law_pen_here", "_law_many", "_law_most", "_law_k"]
theorem sc_law_plain_bounds : FnScope N_law_plain_bounds ["_law_pen_here", "_law_many", "_law_most"] (defScope s_law_plain_bounds) := ⟨rfl, rfl, rfl, by decide +kernel, rfl, by decide +kernel, by decide +kernel⟩
abbrev s_law_clashes : Stmt := top 42
abbrev N_law_clashes : List Str := ["_law_bounds", "_law_weights", "_law_many", "_law_at", "_law_one", "_law_bound"]
theorem sc_law_clashes : FnScope N_law_clashes ["_law_bounds", "_law_weights"] (defScope s_law_clashes) := ⟨rfl, rfl, rfl, by decide +kernel, rfl, by decide +kernel, by decide +kernel⟩
abbrev s_law_holds : Stmt := top 43
abbrev N_law_holds : List Str := ["_law_bounds", "_law_numbers", "_law_form_here", "_law_is_so", "_law_value_here"]
theorem sc_law_holds : FnScope N_law_holds ["_law_bounds", "_law_numbers"] (defScope s_law_holds) := ⟨rfl, rfl, rfl, by decide +kernel, rfl, by decide +kernel, by decide +kernel⟩
abbrev s_law_as_bounds : Stmt := top 44
abbrev N_law_as_bounds : List Str := ["_law_bounds", "_law_form_here", "_law_is_so"]
theorem sc_law_as_bounds : FnScope N_law_as_bounds ["_law_bounds"] (defScope s_law_as_bounds) := ⟨rfl, rfl, rfl, by decide +kernel, rfl, by decide +kernel, by decide +kernel⟩
abbrev s_law_settled_right : Stmt := top 45
abbrev N_law_settled_right : List Str := ["_law_pen_here", "_law_bounds", "_law_many", "_law_made", "_law_kept", "_law_asked", "_law_told", "_law_turn_so", "_law_one", "_law_k"]
theorem sc_law_settled_right : FnScope N_law_settled_right ["_law_pen_here", "_law_bounds", "_law_many"] (defScope s_law_settled_right) := ⟨rfl, rfl, rfl, by decide +kernel, rfl, by decide +kernel, by decide +kernel⟩
abbrev s_law : Stmt := top 46
abbrev N_law : List Str := ["_law_script", "_law_pen_here", "_law_lap", "_law_many", "_law_bounds"]
theorem sc_law : FnScope N_law ["_law_script"] (defScope s_law) := ⟨rfl, rfl, rfl, by decide +kernel, rfl, by decide +kernel, by decide +kernel⟩
def d_is_int : He.DefD := ⟨("is_int", none), "is_int", "is_int", defArgs s_is_int, defBody s_is_int, defScope s_is_int, [], []⟩
def d_is_between : He.DefD := ⟨("is_between", none), "is_between", "is_between", defArgs s_is_between, defBody s_is_between, defScope s_is_between, [], []⟩
def d_are_ints : He.DefD := ⟨("are_ints", none), "are_ints", "are_ints", defArgs s_are_ints, defBody s_are_ints, defScope s_are_ints, [], []⟩
def d_need_numbers : He.DefD := ⟨("need_numbers", none), "need_numbers", "need_numbers", defArgs s_need_numbers, defBody s_need_numbers, defScope s_need_numbers, [], []⟩
def d_value_at : He.DefD := ⟨("value_at", none), "value_at", "value_at", defArgs s_value_at, defBody s_value_at, defScope s_value_at, [], []⟩
def d_Bound_init : He.DefD := ⟨("Bound", some "__init__"), "__init__", "Bound.__init__", defArgs s_Bound_init, defBody s_Bound_init, defScope s_Bound_init, [.bl false], []⟩
def d_Bound_call : He.DefD := ⟨("Bound", some "__call__"), "__call__", "Bound.__call__", defArgs s_Bound_call, defBody s_Bound_call, defScope s_Bound_call, [], []⟩
def d_Bound_len : He.DefD := ⟨("Bound", some "__len__"), "__len__", "Bound.__len__", defArgs s_Bound_len, defBody s_Bound_len, defScope s_Bound_len, [], []⟩
def d_Bound_eq : He.DefD := ⟨("Bound", some "__eq__"), "__eq__", "Bound.__eq__", defArgs s_Bound_eq, defBody s_Bound_eq, defScope s_Bound_eq, [], []⟩
def d_Point_init : He.DefD := ⟨("Point", some "__init__"), "__init__", "Point.__init__", defArgs s_Point_init, defBody s_Point_init, defScope s_Point_init, [], []⟩
def d_Point_eq : He.DefD := ⟨("Point", some "__eq__"), "__eq__", "Point.__eq__", defArgs s_Point_eq, defBody s_Point_eq, defScope s_Point_eq, [], []⟩
def d_Point_bool : He.DefD := ⟨("Point", some "__bool__"), "__bool__", "Point.__bool__", defArgs s_Point_bool, defBody s_Point_bool, defScope s_Point_bool, [], []⟩
def d_Clash_init : He.DefD := ⟨("Clash", some "__init__"), "__init__", "Clash.__init__", defArgs s_Clash_init, defBody s_Clash_init, defScope s_Clash_init, [], []⟩
def d_Clash_eq : He.DefD := ⟨("Clash", some "__eq__"), "__eq__", "Clash.__eq__", defArgs s_Clash_eq, defBody s_Clash_eq, defScope s_Clash_eq, [], []⟩
def d_Clash_bool : He.DefD := ⟨("Clash", some "__bool__"), "__bool__", "Clash.__bool__", defArgs s_Clash_bool, defBody s_Clash_bool, defScope s_Clash_bool, [], []⟩
def d_need_bounds : He.DefD := ⟨("need_bounds", none), "need_bounds", "need_bounds", defArgs s_need_bounds, defBody s_need_bounds, defScope s_need_bounds, [], []⟩
def d_lowered : He.DefD := ⟨("lowered", none), "lowered", "lowered", defArgs s_lowered, defBody s_lowered, defScope s_lowered, [], []⟩
def d_Grid_init : He.DefD := ⟨("Grid", some "__init__"), "__init__", "Grid.__init__", defArgs s_Grid_init, defBody s_Grid_init, defScope s_Grid_init, [], []⟩
def d_Grid_full_row : He.DefD := ⟨("Grid", some "full_row"), "full_row", "Grid.full_row", defArgs s_Grid_full_row, defBody s_Grid_full_row, defScope s_Grid_full_row, [], []⟩
def d_Grid_entering : He.DefD := ⟨("Grid", some "entering"), "entering", "Grid.entering", defArgs s_Grid_entering, defBody s_Grid_entering, defScope s_Grid_entering, [], []⟩
def d_Grid_leaving : He.DefD := ⟨("Grid", some "leaving"), "leaving", "Grid.leaving", defArgs s_Grid_leaving, defBody s_Grid_leaving, defScope s_Grid_leaving, [], []⟩
def d_Grid_is_ahead : He.DefD := ⟨("Grid", some "is_ahead"), "is_ahead", "Grid.is_ahead", defArgs s_Grid_is_ahead, defBody s_Grid_is_ahead, defScope s_Grid_is_ahead, [], []⟩
def d_Grid_turn : He.DefD := ⟨("Grid", some "turn"), "turn", "Grid.turn", defArgs s_Grid_turn, defBody s_Grid_turn, defScope s_Grid_turn, [], []⟩
def d_Grid_go_on : He.DefD := ⟨("Grid", some "go_on"), "go_on", "Grid.go_on", defArgs s_Grid_go_on, defBody s_Grid_go_on, defScope s_Grid_go_on, [], []⟩
def d_Grid_weights_now : He.DefD := ⟨("Grid", some "weights_now"), "weights_now", "Grid.weights_now", defArgs s_Grid_weights_now, defBody s_Grid_weights_now, defScope s_Grid_weights_now, [], []⟩
def d_Grid_point_now : He.DefD := ⟨("Grid", some "point_now"), "point_now", "Grid.point_now", defArgs s_Grid_point_now, defBody s_Grid_point_now, defScope s_Grid_point_now, [], []⟩
def d_settled : He.DefD := ⟨("settled", none), "settled", "settled", defArgs s_settled, defBody s_settled, defScope s_settled, [], []⟩
def d_shows_point : He.DefD := ⟨("shows_point", none), "shows_point", "shows_point", defArgs s_shows_point, defBody s_shows_point, defScope s_shows_point, [], []⟩
def d_are_clashing : He.DefD := ⟨("are_clashing", none), "are_clashing", "are_clashing", defArgs s_are_clashing, defBody s_are_clashing, defScope s_are_clashing, [], []⟩
def d_shows_clash : He.DefD := ⟨("shows_clash", none), "shows_clash", "shows_clash", defArgs s_shows_clash, defBody s_shows_clash, defScope s_shows_clash, [], []⟩
def d_law_pen : He.DefD := ⟨("_law_pen", none), "_law_pen", "_law_pen", defArgs s_law_pen, defBody s_law_pen, defScope s_law_pen, [], []⟩
def d_law_draw : He.DefD := ⟨("_law_draw", none), "_law_draw", "_law_draw", defArgs s_law_draw, defBody s_law_draw, defScope s_law_draw, [], []⟩
def d_law_pick : He.DefD := ⟨("_law_pick", none), "_law_pick", "_law_pick", defArgs s_law_pick, defBody s_law_pick, defScope s_law_pick, [], []⟩
def d_law_factor : He.DefD := ⟨("_law_factor", none), "_law_factor", "_law_factor", defArgs s_law_factor, defBody s_law_factor, defScope s_law_factor, [], []⟩
def d_law_form : He.DefD := ⟨("_law_form", none), "_law_form", "_law_form", defArgs s_law_form, defBody s_law_form, defScope s_law_form, [], []⟩
def d_law_value : He.DefD := ⟨("_law_value", none), "_law_value", "_law_value", defArgs s_law_value, defBody s_law_value, defScope s_law_value, [], []⟩
def d_law_plain_bounds : He.DefD := ⟨("_law_plain_bounds", none), "_law_plain_bounds", "_law_plain_bounds", defArgs s_law_plain_bounds, defBody s_law_plain_bounds, defScope s_law_plain_bounds, [], []⟩
def d_law_clashes : He.DefD := ⟨("_law_clashes", none), "_law_clashes", "_law_clashes", defArgs s_law_clashes, defBody s_law_clashes, defScope s_law_clashes, [], []⟩
def d_law_holds : He.DefD := ⟨("_law_holds", none), "_law_holds", "_law_holds", defArgs s_law_holds, defBody s_law_holds, defScope s_law_holds, [], []⟩
def d_law_as_bounds : He.DefD := ⟨("_law_as_bounds", none), "_law_as_bounds", "_law_as_bounds", defArgs s_law_as_bounds, defBody s_law_as_bounds, defScope s_law_as_bounds, [], []⟩
def d_law_settled_right : He.DefD := ⟨("_law_settled_right", none), "_law_settled_right", "_law_settled_right", defArgs s_law_settled_right, defBody s_law_settled_right, defScope s_law_settled_right, [], []⟩
def d_law : He.DefD := ⟨("law", none), "law", "law", defArgs s_law, defBody s_law, defScope s_law, [], []⟩
def fn : List He.DefD := [d_is_int, d_is_between, d_are_ints, d_need_numbers, d_value_at, d_Bound_init, d_Bound_call, d_Bound_len, d_Bound_eq, d_Point_init, d_Point_eq, d_Point_bool, d_Clash_init, d_Clash_eq, d_Clash_bool, d_need_bounds, d_lowered, d_Grid_init, d_Grid_full_row, d_Grid_entering, d_Grid_leaving, d_Grid_is_ahead, d_Grid_turn, d_Grid_go_on, d_Grid_weights_now, d_Grid_point_now, d_settled, d_shows_point, d_are_clashing, d_shows_clash, d_law_pen, d_law_draw, d_law_pick, d_law_factor, d_law_form, d_law_value, d_law_plain_bounds, d_law_clashes, d_law_holds, d_law_as_bounds, d_law_settled_right, d_law]
def fa : List He.Fa := [.glo "is_int", .glo "is_between", .glo "are_ints", .glo "need_numbers", .glo "value_at", .glo "Bound", .glo "Point", .glo "Clash", .glo "need_bounds", .glo "lowered", .glo "Grid", .glo "settled", .glo "shows_point", .glo "are_clashing", .glo "shows_clash", .glo "_law_pen", .glo "_law_draw", .glo "_law_pick", .glo "_law_factor", .glo "_law_form", .glo "_law_value", .glo "_law_plain_bounds", .glo "_law_clashes", .glo "_law_holds", .glo "_law_as_bounds", .glo "_law_settled_right", .glo "law", .free "isinstance", .free "int", .free "bool", .free "tuple", .free "list", .free "len", .free "range", .free "zip", .free "sum", .free "enumerate", .free "abs", .free "repr", .int "MOST_NUMBERS" 8, .int "MOST_BOUNDS" 80, .cls "Bound", .noat "Bound" "form", .noat "Bound" "is_strict", .meth "Bound" "__len__", .mkr "Bound", .cls "Point", .noat "Point" "counts", .mkr "Point", .cls "Clash", .noat "Clash" "weights", .mkr "Clash", .cls "Grid", .noat "Grid" "many_columns", .noat "Grid" "many_lines", .noat "Grid" "lines", .noat "Grid" "basis", .noat "Grid" "scale", .meth "Grid" "full_row", .meth "Grid" "entering", .meth "Grid" "leaving", .meth "Grid" "is_ahead", .meth "Grid" "turn", .meth "Grid" "go_on", .meth "Grid" "weights_now", .meth "Grid" "point_now", .mkr "Grid"]
/-- what isinstance asks of a class -/
structure InsTy (K : PySem.W.Frag) (C : Addr) : Prop where
  ha : PySem.W.findIn K (.ref C) "__class__" = some (some (.builtin "object.__class__"))
  hn : PySem.W.specialIn K (.builtin "object.__class__") "__get__" = some (some (.builtin "getset_descriptor.__get__"))
  ht : PySem.W.takesIn K (.builtin "object.__class__") = some true
  hm : PySem.W.mroIn K C (.type "object") = some true
def insB (K : PySem.W.Frag) (x : Str) : Bool := decide (PySem.W.findIn K (.ref (He.ga K x)) "__class__" = some (some (.builtin "object.__class__"))) && (decide (PySem.W.specialIn K (.builtin "object.__class__") "__get__" = some (some (.builtin "getset_descriptor.__get__"))) && (decide (PySem.W.takesIn K (.builtin "object.__class__") = some true) && decide (PySem.W.mroIn K (He.ga K x) (.type "object") = some true)))
theorem insB_ok {K : PySem.W.Frag} {x : Str} (h : insB K x = true) : InsTy K (He.ga K x) := by
  obtain ⟨h1, h⟩ := He.ba h
  obtain ⟨h2, h⟩ := He.ba h
  obtain ⟨h3, h4⟩ := He.ba h
  exact ⟨of_decide_eq_true h1, of_decide_eq_true h2, of_decide_eq_true h3, of_decide_eq_true h4⟩
def bltB (K : PySem.W.Frag) (x : Str) (id : String) : Bool := He.eqO (PySem.W.nsIn K mainGlobals x) (some (some (.builtin id)))
theorem bltB_ok {K : PySem.W.Frag} {h : Heap} {mg : Str → Option Value} (X : K.In h) (G : h.Ns mainGlobals mg) {x : Str} {id : String} (c : bltB K x id = true) : mg x = some (.builtin id) := PySem.W.mg_of X G (He.eqO_ok c)
def ex (K : PySem.W.Frag) : Bool := insB K "Bound" && (insB K "Point" && (insB K "Clash" && (insB K "Grid" && (RC.eqoB K "Bound" && (RC.calB K "Bound" && (RC.eqoB K "Point" && (RC.truB K "Point" && (RC.eqoB K "Clash" && (RC.truB K "Clash" && (RC.nkB K "Clash" "Point" && (RC.nkB K "Point" "Clash" && (bltB K "gcd" "math.gcd"))))))))))))
abbrev AlM : Type := He.AlD × Bool
def obsM (n : Nat) (g : Addr → Option Obj) : AlM := (He.obsD fa fn (He.frG g (He.asD g n)), ex (He.frG g (He.asD g n)))
structure SaysM (K : PySem.W.Frag) : Prop where
  d : He.SaysD fa fn K
  x : ex K = true
def hookM (n : Nat) : PySem.W.Hook where
  α := AlM
  obs := fun s => obsM n s.heap.get?
  val := fun _ => (He.valD fn, true)
  says := fun _ h => ∃ K : PySem.W.Frag, K.In h ∧ SaysM K
  of := fun _ _ e => ⟨_, He.frG_in, congrArg (fun z : AlM => z.1) e, congrArg (fun z : AlM => z.2) e⟩
  keeps := fun _ _ _ ⟨K, hK, c⟩ k => ⟨K, PySem.W.Frag.In.keeps hK k, c⟩
theorem obsM_eq {n : Nat} {g : Addr → Option Obj} {s : Shared} (h : ∀ a, g a = s.heap.get? a) : obsM n g = (hookM n).obs s := by
  have e : g = s.heap.get? := funext h
  rw [e] <;> rfl
/-- what the top has left -/
structure Ctx (K : PySem.W.Frag) (mg : Str → Option Value) (h : Heap) : Prop where
  X : K.In h
  G : h.Ns mainGlobals mg
  c : SaysM K
section
variable {K : PySem.W.Frag} {mg : Str → Option Value} {h : Heap}
theorem Ctx.g_is_int (T : Ctx K mg h) : mg "is_int" = some (.ref (He.ga K "is_int")) := He.glo_ok T.X T.G (T.c.d.fact 0 (f := .glo "is_int") rfl)
theorem Ctx.g_is_between (T : Ctx K mg h) : mg "is_between" = some (.ref (He.ga K "is_between")) := He.glo_ok T.X T.G (T.c.d.fact 1 (f := .glo "is_between") rfl)
theorem Ctx.g_are_ints (T : Ctx K mg h) : mg "are_ints" = some (.ref (He.ga K "are_ints")) := He.glo_ok T.X T.G (T.c.d.fact 2 (f := .glo "are_ints") rfl)
theorem Ctx.g_need_numbers (T : Ctx K mg h) : mg "need_numbers" = some (.ref (He.ga K "need_numbers")) := He.glo_ok T.X T.G (T.c.d.fact 3 (f := .glo "need_numbers") rfl)
theorem Ctx.g_value_at (T : Ctx K mg h) : mg "value_at" = some (.ref (He.ga K "value_at")) := He.glo_ok T.X T.G (T.c.d.fact 4 (f := .glo "value_at") rfl)
theorem Ctx.g_Bound (T : Ctx K mg h) : mg "Bound" = some (.ref (He.ga K "Bound")) := He.glo_ok T.X T.G (T.c.d.fact 5 (f := .glo "Bound") rfl)
theorem Ctx.g_Point (T : Ctx K mg h) : mg "Point" = some (.ref (He.ga K "Point")) := He.glo_ok T.X T.G (T.c.d.fact 6 (f := .glo "Point") rfl)
theorem Ctx.g_Clash (T : Ctx K mg h) : mg "Clash" = some (.ref (He.ga K "Clash")) := He.glo_ok T.X T.G (T.c.d.fact 7 (f := .glo "Clash") rfl)
theorem Ctx.g_need_bounds (T : Ctx K mg h) : mg "need_bounds" = some (.ref (He.ga K "need_bounds")) := He.glo_ok T.X T.G (T.c.d.fact 8 (f := .glo "need_bounds") rfl)
theorem Ctx.g_lowered (T : Ctx K mg h) : mg "lowered" = some (.ref (He.ga K "lowered")) := He.glo_ok T.X T.G (T.c.d.fact 9 (f := .glo "lowered") rfl)
theorem Ctx.g_Grid (T : Ctx K mg h) : mg "Grid" = some (.ref (He.ga K "Grid")) := He.glo_ok T.X T.G (T.c.d.fact 10 (f := .glo "Grid") rfl)
theorem Ctx.g_settled (T : Ctx K mg h) : mg "settled" = some (.ref (He.ga K "settled")) := He.glo_ok T.X T.G (T.c.d.fact 11 (f := .glo "settled") rfl)
theorem Ctx.g_shows_point (T : Ctx K mg h) : mg "shows_point" = some (.ref (He.ga K "shows_point")) := He.glo_ok T.X T.G (T.c.d.fact 12 (f := .glo "shows_point") rfl)
theorem Ctx.g_are_clashing (T : Ctx K mg h) : mg "are_clashing" = some (.ref (He.ga K "are_clashing")) := He.glo_ok T.X T.G (T.c.d.fact 13 (f := .glo "are_clashing") rfl)
theorem Ctx.g_shows_clash (T : Ctx K mg h) : mg "shows_clash" = some (.ref (He.ga K "shows_clash")) := He.glo_ok T.X T.G (T.c.d.fact 14 (f := .glo "shows_clash") rfl)
theorem Ctx.g_law_pen (T : Ctx K mg h) : mg "_law_pen" = some (.ref (He.ga K "_law_pen")) := He.glo_ok T.X T.G (T.c.d.fact 15 (f := .glo "_law_pen") rfl)
theorem Ctx.g_law_draw (T : Ctx K mg h) : mg "_law_draw" = some (.ref (He.ga K "_law_draw")) := He.glo_ok T.X T.G (T.c.d.fact 16 (f := .glo "_law_draw") rfl)
theorem Ctx.g_law_pick (T : Ctx K mg h) : mg "_law_pick" = some (.ref (He.ga K "_law_pick")) := He.glo_ok T.X T.G (T.c.d.fact 17 (f := .glo "_law_pick") rfl)
theorem Ctx.g_law_factor (T : Ctx K mg h) : mg "_law_factor" = some (.ref (He.ga K "_law_factor")) := He.glo_ok T.X T.G (T.c.d.fact 18 (f := .glo "_law_factor") rfl)
theorem Ctx.g_law_form (T : Ctx K mg h) : mg "_law_form" = some (.ref (He.ga K "_law_form")) := He.glo_ok T.X T.G (T.c.d.fact 19 (f := .glo "_law_form") rfl)
theorem Ctx.g_law_value (T : Ctx K mg h) : mg "_law_value" = some (.ref (He.ga K "_law_value")) := He.glo_ok T.X T.G (T.c.d.fact 20 (f := .glo "_law_value") rfl)
theorem Ctx.g_law_plain_bounds (T : Ctx K mg h) : mg "_law_plain_bounds" = some (.ref (He.ga K "_law_plain_bounds")) := He.glo_ok T.X T.G (T.c.d.fact 21 (f := .glo "_law_plain_bounds") rfl)
theorem Ctx.g_law_clashes (T : Ctx K mg h) : mg "_law_clashes" = some (.ref (He.ga K "_law_clashes")) := He.glo_ok T.X T.G (T.c.d.fact 22 (f := .glo "_law_clashes") rfl)
theorem Ctx.g_law_holds (T : Ctx K mg h) : mg "_law_holds" = some (.ref (He.ga K "_law_holds")) := He.glo_ok T.X T.G (T.c.d.fact 23 (f := .glo "_law_holds") rfl)
theorem Ctx.g_law_as_bounds (T : Ctx K mg h) : mg "_law_as_bounds" = some (.ref (He.ga K "_law_as_bounds")) := He.glo_ok T.X T.G (T.c.d.fact 24 (f := .glo "_law_as_bounds") rfl)
theorem Ctx.g_law_settled_right (T : Ctx K mg h) : mg "_law_settled_right" = some (.ref (He.ga K "_law_settled_right")) := He.glo_ok T.X T.G (T.c.d.fact 25 (f := .glo "_law_settled_right") rfl)
theorem Ctx.g_law (T : Ctx K mg h) : mg "law" = some (.ref (He.ga K "law")) := He.glo_ok T.X T.G (T.c.d.fact 26 (f := .glo "law") rfl)
theorem Ctx.b_isinstance (T : Ctx K mg h) : mg "isinstance" = none := He.free_ok T.X T.G (T.c.d.fact 27 (f := .free "isinstance") rfl)
theorem Ctx.b_int (T : Ctx K mg h) : mg "int" = none := He.free_ok T.X T.G (T.c.d.fact 28 (f := .free "int") rfl)
theorem Ctx.b_bool (T : Ctx K mg h) : mg "bool" = none := He.free_ok T.X T.G (T.c.d.fact 29 (f := .free "bool") rfl)
theorem Ctx.b_tuple (T : Ctx K mg h) : mg "tuple" = none := He.free_ok T.X T.G (T.c.d.fact 30 (f := .free "tuple") rfl)
theorem Ctx.b_list (T : Ctx K mg h) : mg "list" = none := He.free_ok T.X T.G (T.c.d.fact 31 (f := .free "list") rfl)
theorem Ctx.b_len (T : Ctx K mg h) : mg "len" = none := He.free_ok T.X T.G (T.c.d.fact 32 (f := .free "len") rfl)
theorem Ctx.b_range (T : Ctx K mg h) : mg "range" = none := He.free_ok T.X T.G (T.c.d.fact 33 (f := .free "range") rfl)
theorem Ctx.b_zip (T : Ctx K mg h) : mg "zip" = none := He.free_ok T.X T.G (T.c.d.fact 34 (f := .free "zip") rfl)
theorem Ctx.b_sum (T : Ctx K mg h) : mg "sum" = none := He.free_ok T.X T.G (T.c.d.fact 35 (f := .free "sum") rfl)
theorem Ctx.b_enumerate (T : Ctx K mg h) : mg "enumerate" = none := He.free_ok T.X T.G (T.c.d.fact 36 (f := .free "enumerate") rfl)
theorem Ctx.b_abs (T : Ctx K mg h) : mg "abs" = none := He.free_ok T.X T.G (T.c.d.fact 37 (f := .free "abs") rfl)
theorem Ctx.b_repr (T : Ctx K mg h) : mg "repr" = none := He.free_ok T.X T.G (T.c.d.fact 38 (f := .free "repr") rfl)
theorem Ctx.i_MOST_NUMBERS (T : Ctx K mg h) : ∃ t, mg "MOST_NUMBERS" = some (.int 8 t) := He.int_ok T.X T.G (T.c.d.fact 39 (f := .int "MOST_NUMBERS" 8) rfl)
theorem Ctx.i_MOST_BOUNDS (T : Ctx K mg h) : ∃ t, mg "MOST_BOUNDS" = some (.int 80 t) := He.int_ok T.X T.G (T.c.d.fact 40 (f := .int "MOST_BOUNDS" 80) rfl)
theorem Ctx.c_Bound (T : Ctx K mg h) : Cls K (He.ga K "Bound") := He.cls_ok (T.c.d.fact 41 (f := .cls "Bound") rfl)
theorem Ctx.n_Bound_form (T : Ctx K mg h) : NoAttr K (He.ga K "Bound") "form" := He.noat_ok (T.c.d.fact 42 (f := .noat "Bound" "form") rfl)
theorem Ctx.n_Bound_is_strict (T : Ctx K mg h) : NoAttr K (He.ga K "Bound") "is_strict" := He.noat_ok (T.c.d.fact 43 (f := .noat "Bound" "is_strict") rfl)
theorem Ctx.m_Bound_len (T : Ctx K mg h) : Meth K (He.ga K "Bound") "__len__" (He.ma K (He.ga K "Bound") "__len__") := He.meth_ok (T.c.d.fact 44 (f := .meth "Bound" "__len__") rfl)
theorem Ctx.mk_Bound (T : Ctx K mg h) : Mk K (He.ga K "Bound") (He.ma K (He.ga K "Bound") "__init__") := He.mkr_ok (T.c.d.fact 45 (f := .mkr "Bound") rfl)
theorem Ctx.c_Point (T : Ctx K mg h) : Cls K (He.ga K "Point") := He.cls_ok (T.c.d.fact 46 (f := .cls "Point") rfl)
theorem Ctx.n_Point_counts (T : Ctx K mg h) : NoAttr K (He.ga K "Point") "counts" := He.noat_ok (T.c.d.fact 47 (f := .noat "Point" "counts") rfl)
theorem Ctx.mk_Point (T : Ctx K mg h) : Mk K (He.ga K "Point") (He.ma K (He.ga K "Point") "__init__") := He.mkr_ok (T.c.d.fact 48 (f := .mkr "Point") rfl)
theorem Ctx.c_Clash (T : Ctx K mg h) : Cls K (He.ga K "Clash") := He.cls_ok (T.c.d.fact 49 (f := .cls "Clash") rfl)
theorem Ctx.n_Clash_weights (T : Ctx K mg h) : NoAttr K (He.ga K "Clash") "weights" := He.noat_ok (T.c.d.fact 50 (f := .noat "Clash" "weights") rfl)
theorem Ctx.mk_Clash (T : Ctx K mg h) : Mk K (He.ga K "Clash") (He.ma K (He.ga K "Clash") "__init__") := He.mkr_ok (T.c.d.fact 51 (f := .mkr "Clash") rfl)
theorem Ctx.c_Grid (T : Ctx K mg h) : Cls K (He.ga K "Grid") := He.cls_ok (T.c.d.fact 52 (f := .cls "Grid") rfl)
theorem Ctx.n_Grid_many_columns (T : Ctx K mg h) : NoAttr K (He.ga K "Grid") "many_columns" := He.noat_ok (T.c.d.fact 53 (f := .noat "Grid" "many_columns") rfl)
theorem Ctx.n_Grid_many_lines (T : Ctx K mg h) : NoAttr K (He.ga K "Grid") "many_lines" := He.noat_ok (T.c.d.fact 54 (f := .noat "Grid" "many_lines") rfl)
theorem Ctx.n_Grid_lines (T : Ctx K mg h) : NoAttr K (He.ga K "Grid") "lines" := He.noat_ok (T.c.d.fact 55 (f := .noat "Grid" "lines") rfl)
theorem Ctx.n_Grid_basis (T : Ctx K mg h) : NoAttr K (He.ga K "Grid") "basis" := He.noat_ok (T.c.d.fact 56 (f := .noat "Grid" "basis") rfl)
theorem Ctx.n_Grid_scale (T : Ctx K mg h) : NoAttr K (He.ga K "Grid") "scale" := He.noat_ok (T.c.d.fact 57 (f := .noat "Grid" "scale") rfl)
theorem Ctx.m_Grid_full_row (T : Ctx K mg h) : Meth K (He.ga K "Grid") "full_row" (He.ma K (He.ga K "Grid") "full_row") := He.meth_ok (T.c.d.fact 58 (f := .meth "Grid" "full_row") rfl)
theorem Ctx.m_Grid_entering (T : Ctx K mg h) : Meth K (He.ga K "Grid") "entering" (He.ma K (He.ga K "Grid") "entering") := He.meth_ok (T.c.d.fact 59 (f := .meth "Grid" "entering") rfl)
theorem Ctx.m_Grid_leaving (T : Ctx K mg h) : Meth K (He.ga K "Grid") "leaving" (He.ma K (He.ga K "Grid") "leaving") := He.meth_ok (T.c.d.fact 60 (f := .meth "Grid" "leaving") rfl)
theorem Ctx.m_Grid_is_ahead (T : Ctx K mg h) : Meth K (He.ga K "Grid") "is_ahead" (He.ma K (He.ga K "Grid") "is_ahead") := He.meth_ok (T.c.d.fact 61 (f := .meth "Grid" "is_ahead") rfl)
theorem Ctx.m_Grid_turn (T : Ctx K mg h) : Meth K (He.ga K "Grid") "turn" (He.ma K (He.ga K "Grid") "turn") := He.meth_ok (T.c.d.fact 62 (f := .meth "Grid" "turn") rfl)
theorem Ctx.m_Grid_go_on (T : Ctx K mg h) : Meth K (He.ga K "Grid") "go_on" (He.ma K (He.ga K "Grid") "go_on") := He.meth_ok (T.c.d.fact 63 (f := .meth "Grid" "go_on") rfl)
theorem Ctx.m_Grid_weights_now (T : Ctx K mg h) : Meth K (He.ga K "Grid") "weights_now" (He.ma K (He.ga K "Grid") "weights_now") := He.meth_ok (T.c.d.fact 64 (f := .meth "Grid" "weights_now") rfl)
theorem Ctx.m_Grid_point_now (T : Ctx K mg h) : Meth K (He.ga K "Grid") "point_now" (He.ma K (He.ga K "Grid") "point_now") := He.meth_ok (T.c.d.fact 65 (f := .meth "Grid" "point_now") rfl)
theorem Ctx.mk_Grid (T : Ctx K mg h) : Mk K (He.ga K "Grid") (He.ma K (He.ga K "Grid") "__init__") := He.mkr_ok (T.c.d.fact 66 (f := .mkr "Grid") rfl)
theorem Ctx.f_is_int (T : Ctx K mg h) : ∃ fd, FunD K d_is_int.name d_is_int.qual d_is_int.params d_is_int.body d_is_int.scope (d_is_int.dvs K) (d_is_int.kws K) (He.fAd K d_is_int.at_) fd := T.c.d.def_ 0 (d := d_is_int) rfl
theorem Ctx.f_is_between (T : Ctx K mg h) : ∃ fd, FunD K d_is_between.name d_is_between.qual d_is_between.params d_is_between.body d_is_between.scope (d_is_between.dvs K) (d_is_between.kws K) (He.fAd K d_is_between.at_) fd := T.c.d.def_ 1 (d := d_is_between) rfl
theorem Ctx.f_are_ints (T : Ctx K mg h) : ∃ fd, FunD K d_are_ints.name d_are_ints.qual d_are_ints.params d_are_ints.body d_are_ints.scope (d_are_ints.dvs K) (d_are_ints.kws K) (He.fAd K d_are_ints.at_) fd := T.c.d.def_ 2 (d := d_are_ints) rfl
theorem Ctx.f_need_numbers (T : Ctx K mg h) : ∃ fd, FunD K d_need_numbers.name d_need_numbers.qual d_need_numbers.params d_need_numbers.body d_need_numbers.scope (d_need_numbers.dvs K) (d_need_numbers.kws K) (He.fAd K d_need_numbers.at_) fd := T.c.d.def_ 3 (d := d_need_numbers) rfl
theorem Ctx.f_value_at (T : Ctx K mg h) : ∃ fd, FunD K d_value_at.name d_value_at.qual d_value_at.params d_value_at.body d_value_at.scope (d_value_at.dvs K) (d_value_at.kws K) (He.fAd K d_value_at.at_) fd := T.c.d.def_ 4 (d := d_value_at) rfl
theorem Ctx.f_Bound_init (T : Ctx K mg h) : ∃ fd, FunD K d_Bound_init.name d_Bound_init.qual d_Bound_init.params d_Bound_init.body d_Bound_init.scope (d_Bound_init.dvs K) (d_Bound_init.kws K) (He.fAd K d_Bound_init.at_) fd := T.c.d.def_ 5 (d := d_Bound_init) rfl
theorem Ctx.f_Bound_call (T : Ctx K mg h) : ∃ fd, FunD K d_Bound_call.name d_Bound_call.qual d_Bound_call.params d_Bound_call.body d_Bound_call.scope (d_Bound_call.dvs K) (d_Bound_call.kws K) (He.fAd K d_Bound_call.at_) fd := T.c.d.def_ 6 (d := d_Bound_call) rfl
theorem Ctx.f_Bound_len (T : Ctx K mg h) : ∃ fd, FunD K d_Bound_len.name d_Bound_len.qual d_Bound_len.params d_Bound_len.body d_Bound_len.scope (d_Bound_len.dvs K) (d_Bound_len.kws K) (He.fAd K d_Bound_len.at_) fd := T.c.d.def_ 7 (d := d_Bound_len) rfl
theorem Ctx.f_Bound_eq (T : Ctx K mg h) : ∃ fd, FunD K d_Bound_eq.name d_Bound_eq.qual d_Bound_eq.params d_Bound_eq.body d_Bound_eq.scope (d_Bound_eq.dvs K) (d_Bound_eq.kws K) (He.fAd K d_Bound_eq.at_) fd := T.c.d.def_ 8 (d := d_Bound_eq) rfl
theorem Ctx.f_Point_init (T : Ctx K mg h) : ∃ fd, FunD K d_Point_init.name d_Point_init.qual d_Point_init.params d_Point_init.body d_Point_init.scope (d_Point_init.dvs K) (d_Point_init.kws K) (He.fAd K d_Point_init.at_) fd := T.c.d.def_ 9 (d := d_Point_init) rfl
theorem Ctx.f_Point_eq (T : Ctx K mg h) : ∃ fd, FunD K d_Point_eq.name d_Point_eq.qual d_Point_eq.params d_Point_eq.body d_Point_eq.scope (d_Point_eq.dvs K) (d_Point_eq.kws K) (He.fAd K d_Point_eq.at_) fd := T.c.d.def_ 10 (d := d_Point_eq) rfl
theorem Ctx.f_Point_bool (T : Ctx K mg h) : ∃ fd, FunD K d_Point_bool.name d_Point_bool.qual d_Point_bool.params d_Point_bool.body d_Point_bool.scope (d_Point_bool.dvs K) (d_Point_bool.kws K) (He.fAd K d_Point_bool.at_) fd := T.c.d.def_ 11 (d := d_Point_bool) rfl
theorem Ctx.f_Clash_init (T : Ctx K mg h) : ∃ fd, FunD K d_Clash_init.name d_Clash_init.qual d_Clash_init.params d_Clash_init.body d_Clash_init.scope (d_Clash_init.dvs K) (d_Clash_init.kws K) (He.fAd K d_Clash_init.at_) fd := T.c.d.def_ 12 (d := d_Clash_init) rfl
theorem Ctx.f_Clash_eq (T : Ctx K mg h) : ∃ fd, FunD K d_Clash_eq.name d_Clash_eq.qual d_Clash_eq.params d_Clash_eq.body d_Clash_eq.scope (d_Clash_eq.dvs K) (d_Clash_eq.kws K) (He.fAd K d_Clash_eq.at_) fd := T.c.d.def_ 13 (d := d_Clash_eq) rfl
theorem Ctx.f_Clash_bool (T : Ctx K mg h) : ∃ fd, FunD K d_Clash_bool.name d_Clash_bool.qual d_Clash_bool.params d_Clash_bool.body d_Clash_bool.scope (d_Clash_bool.dvs K) (d_Clash_bool.kws K) (He.fAd K d_Clash_bool.at_) fd := T.c.d.def_ 14 (d := d_Clash_bool) rfl
theorem Ctx.f_need_bounds (T : Ctx K mg h) : ∃ fd, FunD K d_need_bounds.name d_need_bounds.qual d_need_bounds.params d_need_bounds.body d_need_bounds.scope (d_need_bounds.dvs K) (d_need_bounds.kws K) (He.fAd K d_need_bounds.at_) fd := T.c.d.def_ 15 (d := d_need_bounds) rfl
theorem Ctx.f_lowered (T : Ctx K mg h) : ∃ fd, FunD K d_lowered.name d_lowered.qual d_lowered.params d_lowered.body d_lowered.scope (d_lowered.dvs K) (d_lowered.kws K) (He.fAd K d_lowered.at_) fd := T.c.d.def_ 16 (d := d_lowered) rfl
theorem Ctx.f_Grid_init (T : Ctx K mg h) : ∃ fd, FunD K d_Grid_init.name d_Grid_init.qual d_Grid_init.params d_Grid_init.body d_Grid_init.scope (d_Grid_init.dvs K) (d_Grid_init.kws K) (He.fAd K d_Grid_init.at_) fd := T.c.d.def_ 17 (d := d_Grid_init) rfl
theorem Ctx.f_Grid_full_row (T : Ctx K mg h) : ∃ fd, FunD K d_Grid_full_row.name d_Grid_full_row.qual d_Grid_full_row.params d_Grid_full_row.body d_Grid_full_row.scope (d_Grid_full_row.dvs K) (d_Grid_full_row.kws K) (He.fAd K d_Grid_full_row.at_) fd := T.c.d.def_ 18 (d := d_Grid_full_row) rfl
theorem Ctx.f_Grid_entering (T : Ctx K mg h) : ∃ fd, FunD K d_Grid_entering.name d_Grid_entering.qual d_Grid_entering.params d_Grid_entering.body d_Grid_entering.scope (d_Grid_entering.dvs K) (d_Grid_entering.kws K) (He.fAd K d_Grid_entering.at_) fd := T.c.d.def_ 19 (d := d_Grid_entering) rfl
theorem Ctx.f_Grid_leaving (T : Ctx K mg h) : ∃ fd, FunD K d_Grid_leaving.name d_Grid_leaving.qual d_Grid_leaving.params d_Grid_leaving.body d_Grid_leaving.scope (d_Grid_leaving.dvs K) (d_Grid_leaving.kws K) (He.fAd K d_Grid_leaving.at_) fd := T.c.d.def_ 20 (d := d_Grid_leaving) rfl
theorem Ctx.f_Grid_is_ahead (T : Ctx K mg h) : ∃ fd, FunD K d_Grid_is_ahead.name d_Grid_is_ahead.qual d_Grid_is_ahead.params d_Grid_is_ahead.body d_Grid_is_ahead.scope (d_Grid_is_ahead.dvs K) (d_Grid_is_ahead.kws K) (He.fAd K d_Grid_is_ahead.at_) fd := T.c.d.def_ 21 (d := d_Grid_is_ahead) rfl
theorem Ctx.f_Grid_turn (T : Ctx K mg h) : ∃ fd, FunD K d_Grid_turn.name d_Grid_turn.qual d_Grid_turn.params d_Grid_turn.body d_Grid_turn.scope (d_Grid_turn.dvs K) (d_Grid_turn.kws K) (He.fAd K d_Grid_turn.at_) fd := T.c.d.def_ 22 (d := d_Grid_turn) rfl
theorem Ctx.f_Grid_go_on (T : Ctx K mg h) : ∃ fd, FunD K d_Grid_go_on.name d_Grid_go_on.qual d_Grid_go_on.params d_Grid_go_on.body d_Grid_go_on.scope (d_Grid_go_on.dvs K) (d_Grid_go_on.kws K) (He.fAd K d_Grid_go_on.at_) fd := T.c.d.def_ 23 (d := d_Grid_go_on) rfl
theorem Ctx.f_Grid_weights_now (T : Ctx K mg h) : ∃ fd, FunD K d_Grid_weights_now.name d_Grid_weights_now.qual d_Grid_weights_now.params d_Grid_weights_now.body d_Grid_weights_now.scope (d_Grid_weights_now.dvs K) (d_Grid_weights_now.kws K) (He.fAd K d_Grid_weights_now.at_) fd := T.c.d.def_ 24 (d := d_Grid_weights_now) rfl
theorem Ctx.f_Grid_point_now (T : Ctx K mg h) : ∃ fd, FunD K d_Grid_point_now.name d_Grid_point_now.qual d_Grid_point_now.params d_Grid_point_now.body d_Grid_point_now.scope (d_Grid_point_now.dvs K) (d_Grid_point_now.kws K) (He.fAd K d_Grid_point_now.at_) fd := T.c.d.def_ 25 (d := d_Grid_point_now) rfl
theorem Ctx.f_settled (T : Ctx K mg h) : ∃ fd, FunD K d_settled.name d_settled.qual d_settled.params d_settled.body d_settled.scope (d_settled.dvs K) (d_settled.kws K) (He.fAd K d_settled.at_) fd := T.c.d.def_ 26 (d := d_settled) rfl
theorem Ctx.f_shows_point (T : Ctx K mg h) : ∃ fd, FunD K d_shows_point.name d_shows_point.qual d_shows_point.params d_shows_point.body d_shows_point.scope (d_shows_point.dvs K) (d_shows_point.kws K) (He.fAd K d_shows_point.at_) fd := T.c.d.def_ 27 (d := d_shows_point) rfl
theorem Ctx.f_are_clashing (T : Ctx K mg h) : ∃ fd, FunD K d_are_clashing.name d_are_clashing.qual d_are_clashing.params d_are_clashing.body d_are_clashing.scope (d_are_clashing.dvs K) (d_are_clashing.kws K) (He.fAd K d_are_clashing.at_) fd := T.c.d.def_ 28 (d := d_are_clashing) rfl
theorem Ctx.f_shows_clash (T : Ctx K mg h) : ∃ fd, FunD K d_shows_clash.name d_shows_clash.qual d_shows_clash.params d_shows_clash.body d_shows_clash.scope (d_shows_clash.dvs K) (d_shows_clash.kws K) (He.fAd K d_shows_clash.at_) fd := T.c.d.def_ 29 (d := d_shows_clash) rfl
theorem Ctx.f_law_pen (T : Ctx K mg h) : ∃ fd, FunD K d_law_pen.name d_law_pen.qual d_law_pen.params d_law_pen.body d_law_pen.scope (d_law_pen.dvs K) (d_law_pen.kws K) (He.fAd K d_law_pen.at_) fd := T.c.d.def_ 30 (d := d_law_pen) rfl
theorem Ctx.f_law_draw (T : Ctx K mg h) : ∃ fd, FunD K d_law_draw.name d_law_draw.qual d_law_draw.params d_law_draw.body d_law_draw.scope (d_law_draw.dvs K) (d_law_draw.kws K) (He.fAd K d_law_draw.at_) fd := T.c.d.def_ 31 (d := d_law_draw) rfl
theorem Ctx.f_law_pick (T : Ctx K mg h) : ∃ fd, FunD K d_law_pick.name d_law_pick.qual d_law_pick.params d_law_pick.body d_law_pick.scope (d_law_pick.dvs K) (d_law_pick.kws K) (He.fAd K d_law_pick.at_) fd := T.c.d.def_ 32 (d := d_law_pick) rfl
theorem Ctx.f_law_factor (T : Ctx K mg h) : ∃ fd, FunD K d_law_factor.name d_law_factor.qual d_law_factor.params d_law_factor.body d_law_factor.scope (d_law_factor.dvs K) (d_law_factor.kws K) (He.fAd K d_law_factor.at_) fd := T.c.d.def_ 33 (d := d_law_factor) rfl
theorem Ctx.f_law_form (T : Ctx K mg h) : ∃ fd, FunD K d_law_form.name d_law_form.qual d_law_form.params d_law_form.body d_law_form.scope (d_law_form.dvs K) (d_law_form.kws K) (He.fAd K d_law_form.at_) fd := T.c.d.def_ 34 (d := d_law_form) rfl
theorem Ctx.f_law_value (T : Ctx K mg h) : ∃ fd, FunD K d_law_value.name d_law_value.qual d_law_value.params d_law_value.body d_law_value.scope (d_law_value.dvs K) (d_law_value.kws K) (He.fAd K d_law_value.at_) fd := T.c.d.def_ 35 (d := d_law_value) rfl
theorem Ctx.f_law_plain_bounds (T : Ctx K mg h) : ∃ fd, FunD K d_law_plain_bounds.name d_law_plain_bounds.qual d_law_plain_bounds.params d_law_plain_bounds.body d_law_plain_bounds.scope (d_law_plain_bounds.dvs K) (d_law_plain_bounds.kws K) (He.fAd K d_law_plain_bounds.at_) fd := T.c.d.def_ 36 (d := d_law_plain_bounds) rfl
theorem Ctx.f_law_clashes (T : Ctx K mg h) : ∃ fd, FunD K d_law_clashes.name d_law_clashes.qual d_law_clashes.params d_law_clashes.body d_law_clashes.scope (d_law_clashes.dvs K) (d_law_clashes.kws K) (He.fAd K d_law_clashes.at_) fd := T.c.d.def_ 37 (d := d_law_clashes) rfl
theorem Ctx.f_law_holds (T : Ctx K mg h) : ∃ fd, FunD K d_law_holds.name d_law_holds.qual d_law_holds.params d_law_holds.body d_law_holds.scope (d_law_holds.dvs K) (d_law_holds.kws K) (He.fAd K d_law_holds.at_) fd := T.c.d.def_ 38 (d := d_law_holds) rfl
theorem Ctx.f_law_as_bounds (T : Ctx K mg h) : ∃ fd, FunD K d_law_as_bounds.name d_law_as_bounds.qual d_law_as_bounds.params d_law_as_bounds.body d_law_as_bounds.scope (d_law_as_bounds.dvs K) (d_law_as_bounds.kws K) (He.fAd K d_law_as_bounds.at_) fd := T.c.d.def_ 39 (d := d_law_as_bounds) rfl
theorem Ctx.f_law_settled_right (T : Ctx K mg h) : ∃ fd, FunD K d_law_settled_right.name d_law_settled_right.qual d_law_settled_right.params d_law_settled_right.body d_law_settled_right.scope (d_law_settled_right.dvs K) (d_law_settled_right.kws K) (He.fAd K d_law_settled_right.at_) fd := T.c.d.def_ 40 (d := d_law_settled_right) rfl
theorem Ctx.f_law (T : Ctx K mg h) : ∃ fd, FunD K d_law.name d_law.qual d_law.params d_law.body d_law.scope (d_law.dvs K) (d_law.kws K) (He.fAd K d_law.at_) fd := T.c.d.def_ 41 (d := d_law) rfl
theorem Ctx.ty_Bound (T : Ctx K mg h) : InsTy K (He.ga K "Bound") := by
  have z : (insB K "Bound" && (insB K "Point" && (insB K "Clash" && (insB K "Grid" && (RC.eqoB K "Bound" && (RC.calB K "Bound" && (RC.eqoB K "Point" && (RC.truB K "Point" && (RC.eqoB K "Clash" && (RC.truB K "Clash" && (RC.nkB K "Clash" "Point" && (RC.nkB K "Point" "Clash" && (bltB K "gcd" "math.gcd"))))))))))))) = true := T.c.x
  exact insB_ok (He.ba z).1
theorem Ctx.ty_Point (T : Ctx K mg h) : InsTy K (He.ga K "Point") := by
  have z : (insB K "Bound" && (insB K "Point" && (insB K "Clash" && (insB K "Grid" && (RC.eqoB K "Bound" && (RC.calB K "Bound" && (RC.eqoB K "Point" && (RC.truB K "Point" && (RC.eqoB K "Clash" && (RC.truB K "Clash" && (RC.nkB K "Clash" "Point" && (RC.nkB K "Point" "Clash" && (bltB K "gcd" "math.gcd"))))))))))))) = true := T.c.x
  replace z := (He.ba z).2
  exact insB_ok (He.ba z).1
theorem Ctx.ty_Clash (T : Ctx K mg h) : InsTy K (He.ga K "Clash") := by
  have z : (insB K "Bound" && (insB K "Point" && (insB K "Clash" && (insB K "Grid" && (RC.eqoB K "Bound" && (RC.calB K "Bound" && (RC.eqoB K "Point" && (RC.truB K "Point" && (RC.eqoB K "Clash" && (RC.truB K "Clash" && (RC.nkB K "Clash" "Point" && (RC.nkB K "Point" "Clash" && (bltB K "gcd" "math.gcd"))))))))))))) = true := T.c.x
  replace z := (He.ba z).2
  replace z := (He.ba z).2
  exact insB_ok (He.ba z).1
theorem Ctx.ty_Grid (T : Ctx K mg h) : InsTy K (He.ga K "Grid") := by
  have z : (insB K "Bound" && (insB K "Point" && (insB K "Clash" && (insB K "Grid" && (RC.eqoB K "Bound" && (RC.calB K "Bound" && (RC.eqoB K "Point" && (RC.truB K "Point" && (RC.eqoB K "Clash" && (RC.truB K "Clash" && (RC.nkB K "Clash" "Point" && (RC.nkB K "Point" "Clash" && (bltB K "gcd" "math.gcd"))))))))))))) = true := T.c.x
  replace z := (He.ba z).2
  replace z := (He.ba z).2
  replace z := (He.ba z).2
  exact insB_ok (He.ba z).1
theorem Ctx.eq_Bound (T : Ctx K mg h) : RC.EqO K (He.ga K "Bound") (He.ma K (He.ga K "Bound") "__eq__") := by
  have z : (insB K "Bound" && (insB K "Point" && (insB K "Clash" && (insB K "Grid" && (RC.eqoB K "Bound" && (RC.calB K "Bound" && (RC.eqoB K "Point" && (RC.truB K "Point" && (RC.eqoB K "Clash" && (RC.truB K "Clash" && (RC.nkB K "Clash" "Point" && (RC.nkB K "Point" "Clash" && (bltB K "gcd" "math.gcd"))))))))))))) = true := T.c.x
  replace z := (He.ba z).2
  replace z := (He.ba z).2
  replace z := (He.ba z).2
  replace z := (He.ba z).2
  exact RC.eqoB_ok (He.ba z).1
theorem Ctx.cal_Bound (T : Ctx K mg h) : StX.CallO K (He.ga K "Bound") (He.ma K (He.ga K "Bound") "__call__") := by
  have z : (insB K "Bound" && (insB K "Point" && (insB K "Clash" && (insB K "Grid" && (RC.eqoB K "Bound" && (RC.calB K "Bound" && (RC.eqoB K "Point" && (RC.truB K "Point" && (RC.eqoB K "Clash" && (RC.truB K "Clash" && (RC.nkB K "Clash" "Point" && (RC.nkB K "Point" "Clash" && (bltB K "gcd" "math.gcd"))))))))))))) = true := T.c.x
  replace z := (He.ba z).2
  replace z := (He.ba z).2
  replace z := (He.ba z).2
  replace z := (He.ba z).2
  replace z := (He.ba z).2
  exact RC.calB_ok (He.ba z).1
theorem Ctx.eq_Point (T : Ctx K mg h) : RC.EqO K (He.ga K "Point") (He.ma K (He.ga K "Point") "__eq__") := by
  have z : (insB K "Bound" && (insB K "Point" && (insB K "Clash" && (insB K "Grid" && (RC.eqoB K "Bound" && (RC.calB K "Bound" && (RC.eqoB K "Point" && (RC.truB K "Point" && (RC.eqoB K "Clash" && (RC.truB K "Clash" && (RC.nkB K "Clash" "Point" && (RC.nkB K "Point" "Clash" && (bltB K "gcd" "math.gcd"))))))))))))) = true := T.c.x
  replace z := (He.ba z).2
  replace z := (He.ba z).2
  replace z := (He.ba z).2
  replace z := (He.ba z).2
  replace z := (He.ba z).2
  replace z := (He.ba z).2
  exact RC.eqoB_ok (He.ba z).1
theorem Ctx.tru_Point (T : Ctx K mg h) : RC.TruO K (He.ga K "Point") (He.ma K (He.ga K "Point") "__bool__") := by
  have z : (insB K "Bound" && (insB K "Point" && (insB K "Clash" && (insB K "Grid" && (RC.eqoB K "Bound" && (RC.calB K "Bound" && (RC.eqoB K "Point" && (RC.truB K "Point" && (RC.eqoB K "Clash" && (RC.truB K "Clash" && (RC.nkB K "Clash" "Point" && (RC.nkB K "Point" "Clash" && (bltB K "gcd" "math.gcd"))))))))))))) = true := T.c.x
  replace z := (He.ba z).2
  replace z := (He.ba z).2
  replace z := (He.ba z).2
  replace z := (He.ba z).2
  replace z := (He.ba z).2
  replace z := (He.ba z).2
  replace z := (He.ba z).2
  exact RC.truB_ok (He.ba z).1
theorem Ctx.eq_Clash (T : Ctx K mg h) : RC.EqO K (He.ga K "Clash") (He.ma K (He.ga K "Clash") "__eq__") := by
  have z : (insB K "Bound" && (insB K "Point" && (insB K "Clash" && (insB K "Grid" && (RC.eqoB K "Bound" && (RC.calB K "Bound" && (RC.eqoB K "Point" && (RC.truB K "Point" && (RC.eqoB K "Clash" && (RC.truB K "Clash" && (RC.nkB K "Clash" "Point" && (RC.nkB K "Point" "Clash" && (bltB K "gcd" "math.gcd"))))))))))))) = true := T.c.x
  replace z := (He.ba z).2
  replace z := (He.ba z).2
  replace z := (He.ba z).2
  replace z := (He.ba z).2
  replace z := (He.ba z).2
  replace z := (He.ba z).2
  replace z := (He.ba z).2
  replace z := (He.ba z).2
  exact RC.eqoB_ok (He.ba z).1
theorem Ctx.tru_Clash (T : Ctx K mg h) : RC.TruO K (He.ga K "Clash") (He.ma K (He.ga K "Clash") "__bool__") := by
  have z : (insB K "Bound" && (insB K "Point" && (insB K "Clash" && (insB K "Grid" && (RC.eqoB K "Bound" && (RC.calB K "Bound" && (RC.eqoB K "Point" && (RC.truB K "Point" && (RC.eqoB K "Clash" && (RC.truB K "Clash" && (RC.nkB K "Clash" "Point" && (RC.nkB K "Point" "Clash" && (bltB K "gcd" "math.gcd"))))))))))))) = true := T.c.x
  replace z := (He.ba z).2
  replace z := (He.ba z).2
  replace z := (He.ba z).2
  replace z := (He.ba z).2
  replace z := (He.ba z).2
  replace z := (He.ba z).2
  replace z := (He.ba z).2
  replace z := (He.ba z).2
  replace z := (He.ba z).2
  exact RC.truB_ok (He.ba z).1
theorem Ctx.nk_Clash_Point (T : Ctx K mg h) : PySem.W.kitOne K (.ref (He.ga K "Clash")) (.ref (He.ga K "Point")) = some false := by
  have z : (insB K "Bound" && (insB K "Point" && (insB K "Clash" && (insB K "Grid" && (RC.eqoB K "Bound" && (RC.calB K "Bound" && (RC.eqoB K "Point" && (RC.truB K "Point" && (RC.eqoB K "Clash" && (RC.truB K "Clash" && (RC.nkB K "Clash" "Point" && (RC.nkB K "Point" "Clash" && (bltB K "gcd" "math.gcd"))))))))))))) = true := T.c.x
  replace z := (He.ba z).2
  replace z := (He.ba z).2
  replace z := (He.ba z).2
  replace z := (He.ba z).2
  replace z := (He.ba z).2
  replace z := (He.ba z).2
  replace z := (He.ba z).2
  replace z := (He.ba z).2
  replace z := (He.ba z).2
  replace z := (He.ba z).2
  exact RC.nkB_ok (He.ba z).1
theorem Ctx.nk_Point_Clash (T : Ctx K mg h) : PySem.W.kitOne K (.ref (He.ga K "Point")) (.ref (He.ga K "Clash")) = some false := by
  have z : (insB K "Bound" && (insB K "Point" && (insB K "Clash" && (insB K "Grid" && (RC.eqoB K "Bound" && (RC.calB K "Bound" && (RC.eqoB K "Point" && (RC.truB K "Point" && (RC.eqoB K "Clash" && (RC.truB K "Clash" && (RC.nkB K "Clash" "Point" && (RC.nkB K "Point" "Clash" && (bltB K "gcd" "math.gcd"))))))))))))) = true := T.c.x
  replace z := (He.ba z).2
  replace z := (He.ba z).2
  replace z := (He.ba z).2
  replace z := (He.ba z).2
  replace z := (He.ba z).2
  replace z := (He.ba z).2
  replace z := (He.ba z).2
  replace z := (He.ba z).2
  replace z := (He.ba z).2
  replace z := (He.ba z).2
  replace z := (He.ba z).2
  exact RC.nkB_ok (He.ba z).1
theorem Ctx.v_gcd (T : Ctx K mg h) : mg "gcd" = some (.builtin "math.gcd") := by
  have z : (insB K "Bound" && (insB K "Point" && (insB K "Clash" && (insB K "Grid" && (RC.eqoB K "Bound" && (RC.calB K "Bound" && (RC.eqoB K "Point" && (RC.truB K "Point" && (RC.eqoB K "Clash" && (RC.truB K "Clash" && (RC.nkB K "Clash" "Point" && (RC.nkB K "Point" "Clash" && (bltB K "gcd" "math.gcd"))))))))))))) = true := T.c.x
  replace z := (He.ba z).2
  replace z := (He.ba z).2
  replace z := (He.ba z).2
  replace z := (He.ba z).2
  replace z := (He.ba z).2
  replace z := (He.ba z).2
  replace z := (He.ba z).2
  replace z := (He.ba z).2
  replace z := (He.ba z).2
  replace z := (He.ba z).2
  replace z := (He.ba z).2
  replace z := (He.ba z).2
  exact bltB_ok T.X T.G z
end
end R35
namespace RC
open PySem PySem.Spec PyProof.Rows L2
/-- the def at f keeps its promise, its parameters all given -/
def OkN (P : Program) (w : World) (K : PySem.W.Frag) (mg : Str → Option Value) (base : Heap) (k : Nat) (f : Addr) (ps : List Str) (sp : Sp) : Prop :=
  ∃ fd, FnOk P w K mg base CX0 k f fd ps sp ∧ Binds K fd ps [] ∧ PySem.W.keepIn K (.ref f) = true
section
variable {P : Program} {w : World} {K : PySem.W.Frag} {mg : Str → Option Value} {base : Heap} {x qual : Str} {params : Arguments} {body : List Stmt} {scope : Scope} {dvs : List V} {kws : List (Str × V)} {f : Addr} {N ps : List Str} {k : Nat} {sp : Sp}
theorem okN (F : ∃ fd, FunD K x qual params body scope [] kws f fd) (S : FnScope N ps scope)
    (hb : ∀ (kV doc pm : Value) (an : Option Addr) (cdv ct : Value) (us : List Value), us.length = ps.length → bindArgs (PySem.W.fnOf x qual params body scope .none kV doc pm an cdv ct) ⟨us, []⟩ = pure (ps.zip us))
    (len : ∀ vs H Q E, sp vs H Q E → vs.length = ps.length)
    (hbody : ∀ (cdv : Value) (A : Around) (outer : List Env) (s : Shared) (H : Hp) (vs : List V) (Q : VK) (E : XK), Room k (A.deeper (envOfC qual scope s.heap.objs.size f cdv)) → sp vs H Q E →
      ∃ t, PSs (cxOf CX0 P w K mg base N qual scope f cdv A outer s H E) body t ∧ t { nx := fun _ H' => Q .non H', rt := Q } (start N vs) H) : OkN P w K mg base (k + 1) f ps sp := by
  obtain ⟨fd, F⟩ := F
  exact ⟨fd, F.ok S len fun cdv A outer s H vs Q E hr h => hbody cdv A outer s H vs Q E hr h, F.bindsN hb, F.kp⟩
/-- the same with defaults that no call here uses -/
theorem okND (F : ∃ fd, FunD K x qual params body scope dvs kws f fd) (S : FnScope N ps scope) (n : Nat) (hl : dvs.length = n + 1)
    (hb : ∀ (T : Addr) (kV doc pm : Value) (an : Option Addr) (cdv ct : Value) (us its : List Value), us.length = ps.length → its.length = dvs.length →
      ∃ k, bindArgs (PySem.W.fnOf x qual params body scope (.ref T) kV doc pm an cdv ct) ⟨us, []⟩ = seqItems? (.ref T) >>= k ∧ k (some its.toArray) = pure (ps.zip us))
    (len : ∀ vs H Q E, sp vs H Q E → vs.length = ps.length)
    (hbody : ∀ (cdv : Value) (A : Around) (outer : List Env) (s : Shared) (H : Hp) (vs : List V) (Q : VK) (E : XK), Room k (A.deeper (envOfC qual scope s.heap.objs.size f cdv)) → sp vs H Q E →
      ∃ t, PSs (cxOf CX0 P w K mg base N qual scope f cdv A outer s H E) body t ∧ t { nx := fun _ H' => Q .non H', rt := Q } (start N vs) H) : OkN P w K mg base (k + 1) f ps sp := by
  obtain ⟨fd, F⟩ := F
  have hne : dvs ≠ [] := fun e => by
    rw [e] at hl
    cases hl
  obtain ⟨ds, hv, hB⟩ := F.binds1 (ps := ps) ps.length dvs.length hne (by omega) fun T kV doc pm an cdv ct us its h1 h2 => by
    obtain ⟨k, e1, e2⟩ := hb T kV doc pm an cdv ct us its h1 h2
    refine ⟨k, e1, ?_⟩
    rw [e2, ← h2, List.drop_length, List.append_nil]
  rw [List.drop_length] at hv
  cases hv
  exact ⟨fd, F.ok S len fun cdv A outer s H vs Q E hr h => hbody cdv A outer s H vs Q E hr h, hB, F.kp⟩
end
theorem kitAnd {a b : Bool} : (a && b) = true ↔ a = true ∧ b = true := by cases a <;> cases b <;> simp
end RC
namespace R35
open PySem PySem.Spec PyProof.Rows L2 RC
variable {P : Program} {w : World} {K : PySem.W.Frag} {mg : Str → Option Value} {base h : Heap}
theorem tyIns {H : Hp} {a C dx : Addr} {fs : List (Str × V)} (I : InsTy K C) (c : Cls K C) (e : H a = some (.ins C dx fs)) : TyX K H (.ref a) (.ref C) := .base (.ins e c I.ha I.hn I.ht I.hm)
/-! ### is_int, is_between, are_ints -/
def spIsInt : Sp := fun vs H Q _ => ∃ i : Int, vs = [.int i] ∧ Q (.bl true) H
theorem ok_is_int (T : Ctx K mg h) : OkN P w K mg base 1 (He.ga K "is_int") ["value"] spIsInt := by
  refine okN (K := K) T.f_is_int sc_is_int (fun _ _ _ _ _ _ us hl => match us, hl with | [_], _ => rfl) (fun vs H Q E h => ?_) (fun cdv A outer s H vs Q E hr h => ?_)
  · obtain ⟨i, rfl, q⟩ := h
    rfl
  · obtain ⟨i, rfl, q⟩ := h
    refine ⟨_, PSs.nox (pss_one (ps_ret (pe_and (pe_callB call_isiZ (by rfl) T.b_isinstance (by decide +kernel) (pa_cons (pv 0) (pa_cons (pe_bltn (v := .ty "int") (by rfl) T.b_int rfl rfl) pa_nil))) (pe_one (pe_not (pe_callB call_isiZ (by rfl) T.b_isinstance (by decide +kernel) (pa_cons (pv 0) (pa_cons (pe_bltn (v := .ty "bool") (by rfl) T.b_bool rfl rfl) pa_nil)))))))), ?_⟩
    exact ⟨_, rfl, isi (tyInt i) (by decide +kernel) ⟨_, rfl, iteT ⟨_, rfl, isi (r := false) (tyInt i) (by decide +kernel) ⟨_, rfl, q⟩⟩⟩⟩
def spIsBetween : Sp := fun vs H Q _ => ∃ i lo hi : Int, vs = [.int i, .int lo, .int hi] ∧ Q (.bl (decide (lo ≤ i) && decide (i ≤ hi))) H
theorem ok_is_between (T : Ctx K mg h) : OkN P w K mg base 2 (He.ga K "is_between") ["value", "least", "most"] spIsBetween := by
  obtain ⟨_, G_is_int, b_is_int, k_is_int⟩ := ok_is_int (P := P) (w := w) (base := base) T
  refine okN (K := K) T.f_is_between sc_is_between (fun _ _ _ _ _ _ us hl => match us, hl with | [_, _, _], _ => rfl) (fun vs H Q E h => ?_) (fun cdv A outer s H vs Q E hr h => ?_)
  · obtain ⟨i, lo, hi, rfl, q⟩ := h
    rfl
  · obtain ⟨i, lo, hi, rfl, q⟩ := h
    refine ⟨_, PSs.nox (pss_one (ps_ret (pe_and (pe_call G_is_int (hr.mono (by decide)) (by rfl) T.g_is_int k_is_int b_is_int .nil pass0 (pa_cons (pv 0) pa_nil)) (pe_one (pe_chain op_le op_le (pv 1) (pv 0) (pv 2)))))), ?_⟩
    refine ⟨_, rfl, i, rfl, ⟨_, rfl, iteT ⟨_, rfl, _, rfl, _, _, rfl, rfl, _, rfl, ?_⟩⟩⟩
    refine ite2 (fun c => ?_) (fun c => ?_)
    · rw [c, Bool.true_and] at q
      exact ⟨_, rfl, _, _, rfl, rfl, q⟩
    · rw [Bool.eq_false_iff.mpr c, Bool.false_and] at q
      exact q
def spAreInts (K : PySem.W.Frag) : Sp := fun vs H Q _ => ∃ (a : Addr) (ns : List Int), vs = [.ref a] ∧ ns.length ≤ 1000 ∧ SqT K H a (ns.map V.int) ∧ ∀ H', Same H H' → Q (.bl true) H'
theorem ok_are_ints (T : Ctx K mg h) : OkN P w K mg base 2 (He.ga K "are_ints") ["some"] (spAreInts K) := by
  obtain ⟨_, G_is_int, b_is_int, k_is_int⟩ := ok_is_int (P := P) (w := w) (base := base) T
  refine okN (K := K) T.f_are_ints sc_are_ints (fun _ _ _ _ _ _ us hl => match us, hl with | [_], _ => rfl) (fun vs H Q E h => ?_) (fun cdv A outer s H vs Q E hr h => ?_)
  · obtain ⟨a, ns, rfl, hl, hS, q⟩ := h
    rfl
  · obtain ⟨a, ns, rfl, hl, hS, q⟩ := h
    refine ⟨_, PSs.nox (pss_one (ps_ret (pe_cmpR (op_eqDZ hr.units) (pe_lc (own := [("one", 1)]) (g := gName 1) (by rfl) sc_are_ints.nd (pi_tup (pv 0)) (blkOk_by (own := [("one", 1)]) (N := N_are_ints) (sc := defScope s_are_ints) (by decide +kernel)) (fun _ _ _ _ _ => (pg_name (i := 1) sc_are_ints.nd rfl (by first | exact .inl rfl | exact .inr rfl))) (fun _ _ _ _ _ => (pts_one (pt_not (pt_val (pe_call G_is_int (hr.mono (by decide)) (by rfl) T.g_is_int k_is_int b_is_int .nil pass0 (pa_cons (pv 1) pa_nil)))))) (fun _ _ _ _ _ => (pv 1))) (pe_lst pa_nil) (nomark _)))), ?_⟩
    refine ⟨_, rfl, a, rfl, ⟨_, hS⟩, fun D hD => lcp_tup ns V.int (fun _ => false) (fun _ => .non) hD (Nat.le_trans hl (by decide)) hS (fun i _ H' Nx Qe e _ k2 => ?_) fun H' e hD' => ?_⟩
    · exact ⟨rfl, _, rfl, i, rfl, _, rfl, iteF (k2 rfl _ (Same.refl _))⟩
    · rw [filter_none fun _ _ => rfl] at hD'
      exact ⟨Nat.zero_le _, fun l hl => eqNil (SqL.of ((Same.new hl) _ _ hD')) (SqL.of upd_same) .nil rfl (q _ (e.trans (Same.new hl)))⟩
def spNeedNumbers (K : PySem.W.Frag) : Sp := fun vs H Q _ => ∃ (a : Addr) (ns : List Int) (many : Nat), vs = [.ref a, .int many] ∧ ns.length = many ∧ many ≤ 1000 ∧ SqT K H a (ns.map V.int) ∧ ∀ H', Same H H' → Q .non H'
theorem ok_need_numbers (T : Ctx K mg h) : OkN P w K mg base 3 (He.ga K "need_numbers") ["value", "many"] (spNeedNumbers K) := by
  obtain ⟨_, G_are_ints, b_are_ints, k_are_ints⟩ := ok_are_ints (P := P) (w := w) (base := base) T
  refine okN (K := K) T.f_need_numbers sc_need_numbers (fun _ _ _ _ _ _ us hl => match us, hl with | [_, _], _ => rfl) (fun vs H Q E h => ?_) (fun cdv A outer s H vs Q E hr h => ?_)
  · obtain ⟨a, ns, many, rfl, hl, hm, hS, q⟩ := h
    rfl
  · obtain ⟨a, ns, many, rfl, hl, hm, hS, q⟩ := h
    refine ⟨_, PSs.nox (pss_one (ps_if (PW.pt (pw_or (pt_not (pt_val (pe_callB call_isiTZ (by rfl) T.b_isinstance (by decide +kernel) (pa_cons (pv 0) (pa_cons (pe_tup (pa_cons (pe_bltn (v := .ty "list") (by rfl) T.b_list rfl rfl) (pa_cons (pe_bltn (v := .ty "tuple") (by rfl) T.b_tuple rfl rfl) pa_nil))) pa_nil))))) (pw_or (pt_cmpR op_ne (pe_callB call_len_seq (by rfl) T.b_len (by decide +kernel) (pa_cons (pv 0) pa_nil)) (pv 1) (nomark _)) (pw_or1 (pt_not (pt_val (pe_call G_are_ints (hr.mono (by decide)) (by rfl) T.g_are_ints k_are_ints b_are_ints .nil pass0 (pa_cons (pv 0) pa_nil)))))))) (pss_one ps_never) pss_nil)), ?_⟩
    refine ⟨_, rfl, (by show 2 ≤ sizeLine; decide), fun tp htp => ?_⟩
    have e0 : Same H (upd H tp (.tup [.ty "list", .ty "tuple"])) := Same.new htp
    refine isiLT (t := true) (tyT (Same.seqT e0 hS)) upd_same ⟨_, rfl, iteF ⟨_, rfl, a, _, rfl, .inr (Same.seqT e0 hS), _, rfl, rfl, _, rfl, iteNS (by rw [List.length_map, hl]) ?_⟩⟩
    exact ⟨_, rfl, a, ns, rfl, by omega, Same.seqT e0 hS, fun H1 e1 => ⟨_, rfl, iteF (q _ (e0.trans e1))⟩⟩
/-- the value of a form at numbers -/
def dot (fs xs : List Int) : Int := Sx.sm (fun k => fs.getD k 0 * xs.getD k 0) fs.length
theorem sum_sm (f : Nat → Int) : ∀ m : Nat, ((List.range m).map f).sum = Sx.sm f m
  | 0 => rfl
  | m + 1 => by
    rw [List.range_succ, List.map_append, List.sum_append, sum_sm f m]
    show Sx.sm f m + (f m + 0) = Sx.sm f m + f m
    rw [Int.add_zero]
def spValueAt (K : PySem.W.Frag) : Sp := fun vs H Q _ => ∃ (a b : Addr) (ta tb : Bool) (fs xs : List Int), vs = [.ref a, .ref b] ∧ SqB K H a (fs.map V.int) ta ∧ SqB K H b (xs.map V.int) tb ∧ fs.length = xs.length ∧ fs.length ≤ 100 ∧ (∀ f, f ∈ fs → f.natAbs < 2 ^ 60) ∧
  ∀ H', Same H H' → Q (.int (dot fs xs)) H'
theorem ok_value_at (T : Ctx K mg h) : OkN P w K mg base 1 (He.ga K "value_at") ["form", "numbers"] (spValueAt K) := by
  refine okN (K := K) T.f_value_at sc_value_at (fun _ _ _ _ _ _ us hl => match us, hl with | [_, _], _ => rfl) (fun vs H Q E h => ?_) (fun cdv A outer s H vs Q E hr h => ?_)
  · obtain ⟨a, b, ta, tb, fs, xs, rfl, hF, hX, hlen, hl, hz, q⟩ := h
    rfl
  · obtain ⟨a, b, ta, tb, fs, xs, rfl, hF, hX, hlen, hl, hz, q⟩ := h
    refine ⟨_, PSs.nox (pss_one (ps_ret (pe_callB (cr_sum rfl) (by rfl) T.b_sum (by decide +kernel) (pa_cons (pe_lc (own := [("factor", 2), ("number", 3)]) (by rfl) sc_value_at.nd (pi_zipM ta tb (by rfl) T.b_zip (pa_cons (pv 0) (pa_cons (pv 1) pa_nil))) (blkOk_by (own := [("factor", 2), ("number", 3)]) (N := N_value_at) (sc := defScope s_value_at) (by decide +kernel)) (fun _ _ _ _ _ => (pg_tupC (K := K) rfl (n := 2) rfl (pgs_cons (pg_name (i := 2) sc_value_at.nd rfl (by first | exact .inl rfl | exact .inr rfl)) (pgs_cons (pg_name (i := 3) sc_value_at.nd rfl (by first | exact .inl rfl | exact .inr rfl)) pgs_nil)))) (fun _ _ _ _ _ => pts_nil) (fun _ _ _ _ _ => (pe_op op_mul (pv 2) (pv 3)))) pa_nil)))), ?_⟩
    rw [tab_of] at hF hX
    rw [← hlen] at hX
    refine ⟨_, rfl, _, rfl, a, b, _, _, rfl, hF, hX, fun D hD => lcq_zip (n := fs.length) (ta := ta) (tb := tb) (fun k => .int (fs.getD k 0)) (fun k => .int (xs.getD k 0)) (fun k => .int (fs.getD k 0 * xs.getD k 0)) hD (Nat.le_trans hl (by decide)) hF hX (fun k hk T0 H0 e0 hT H1 Nx Qe e1 kk => ?_) fun H1 e1 hD1 => ?_⟩
    · have hs : (fs.getD k 0).natAbs < 2 ^ 60 := hz _ (getX_mem hk)
      exact ⟨T0, _, rfl, SqT.of (e1 _ _ upd_same), rfl, _, _, rfl, _, _, rfl, rfl, rfl, _, rfl, _, rfl, _, _, rfl, rfl, .inl ⟨by omega, by omega⟩, kk _ (Same.refl _)⟩
    · refine ⟨D, (List.range fs.length).map (fun k => fs.getD k 0 * xs.getD k 0), rfl, ?_, ?_⟩
      · rw [tab_map]
        exact SqL.of hD1
      · rw [sum_sm]
        exact q _ e1
end R35
namespace RC
open PySem PySem.Spec PyProof.Rows L2
/-- behind a class's call: the instance is new, all else stands -/
theorem Same.ofNew {H H' : Hp} {x dx C : Addr} (n1 : H x = none) (n2 : H dx = none) (e : SameBut x (L2.upd (L2.upd H dx (.own x)) x (.ins C dx [])) H') : Same H H' := fun b o hb => by
  have h1 : b ≠ x := ne_of_none hb n1
  refine e b o h1 ?_
  rw [upd_ne h1, upd_ne (ne_of_none hb n2)]
  exact hb
/-! ### gcd of a list -/
def gs (ns : List Int) : Nat := ns.foldl (fun d n => Nat.gcd d n.natAbs) 0
theorem gs_snoc (ns : List Int) (n : Int) : gs (ns ++ [n]) = Nat.gcd (gs ns) n.natAbs := by
  unfold gs
  rw [List.foldl_append]
  rfl
theorem gcd_lt {B d n : Nat} (h1 : d < B) (h2 : n < B) : Nat.gcd d n < B := by
  rcases Nat.eq_zero_or_pos d with e | e
  · rw [e, Nat.gcd_zero_left]
    exact h2
  · exact Nat.lt_of_le_of_lt (Nat.gcd_le_left n e) h1
theorem fold_lt {B : Nat} (ns : List Int) : ∀ d : Nat, d < B → (∀ n, n ∈ ns → n.natAbs < B) → ns.foldl (fun d n => Nat.gcd d n.natAbs) d < B := by
  induction ns with
  | nil => exact fun d h _ => h
  | cons x r ih => exact fun d h hn => ih _ (gcd_lt h (hn x (List.mem_cons_self ..))) fun n hm => hn n (List.mem_cons_of_mem _ hm)
theorem fold_dvd (ns : List Int) : ∀ d : Nat, ns.foldl (fun d n => Nat.gcd d n.natAbs) d ∣ d ∧ ∀ n, n ∈ ns → ns.foldl (fun d n => Nat.gcd d n.natAbs) d ∣ n.natAbs := by
  induction ns with
  | nil => exact fun d => ⟨Nat.dvd_refl _, fun n h => absurd h (by simp)⟩
  | cons x r ih =>
    intro d
    obtain ⟨h1, h2⟩ := ih (Nat.gcd d x.natAbs)
    refine ⟨Nat.dvd_trans h1 (Nat.gcd_dvd_left _ _), fun n hn => ?_⟩
    rcases List.mem_cons.mp hn with e | e
    · rw [e]
      exact Nat.dvd_trans h1 (Nat.gcd_dvd_right _ _)
    · exact h2 n e
theorem gs_dvd {ns : List Int} {n : Int} (h : n ∈ ns) : ((gs ns : Nat) : Int) ∣ n := Int.ofNat_dvd_left.mpr ((fold_dvd ns 0).2 n h)
def low (ns : List Int) : List Int := if 1 < gs ns then ns.map fun n => n / ((gs ns : Nat) : Int) else ns
theorem low_spec (ns : List Int) : ∃ g : Int, 0 < g ∧ ns = (low ns).map fun x => g * x := by
  unfold low
  by_cases c : 1 < gs ns
  · refine ⟨((gs ns : Nat) : Int), by omega, ?_⟩
    rw [if_pos c, List.map_map]
    refine Eq.trans (List.map_id' ns).symm (List.map_congr_left fun n hn => ?_)
    exact (Int.mul_ediv_cancel' (gs_dvd hn)).symm
  · refine ⟨1, by decide, ?_⟩
    rw [if_neg c]
    refine Eq.trans (List.map_id' ns).symm (List.map_congr_left fun n hn => ?_)
    exact (Int.one_mul n).symm
theorem low_length (ns : List Int) : (low ns).length = ns.length := by
  unfold low
  split
  · rw [List.length_map]
  · rfl
end RC
namespace R35
open PySem PySem.Spec PyProof.Rows L2 RC
variable {P : Program} {w : World} {K : PySem.W.Frag} {mg : Str → Option Value} {base h : Heap}
/-! ### the little classes -/
theorem ne_fs : ¬ (("form" : Str) = "is_strict") := by decide +kernel
theorem ne_sf : ¬ (("is_strict" : Str) = "form") := by decide +kernel
def bfs (t : Addr) (b : Bool) : List (Str × V) := [("form", .ref t), ("is_strict", .bl b)]
theorem bfs_form (t : Addr) (b : Bool) : (bfs t b).lookup ("form" : Str) = some (.ref t) := lookup_hit _ _ _
theorem bfs_strict (t : Addr) (b : Bool) : (bfs t b).lookup ("is_strict" : Str) = some (.bl b) := by
  unfold bfs
  rw [lookup_miss ne_sf, lookup_hit]
def spBoundInit (K : PySem.W.Frag) : Sp := fun vs H Q _ => ∃ (p dx t : Addr) (ns : List Int) (b : Bool), vs = [.ref p, .ref t, .bl b] ∧ ns.length ≤ 8 ∧ SqT K H t (ns.map V.int) ∧ H p = some (.ins (He.ga K "Bound") dx []) ∧
  ∀ H', SameBut p H H' → H' p = some (.ins (He.ga K "Bound") dx (bfs t b)) → Q .non H'
theorem ok_Bound_init (T : Ctx K mg h) : OkN P w K mg base 3 (He.ma K (He.ga K "Bound") "__init__") ["self", "form", "is_strict"] (spBoundInit K) := by
  obtain ⟨_, G_are_ints, b_are_ints, k_are_ints⟩ := ok_are_ints (P := P) (w := w) (base := base) T
  obtain ⟨_, m_MOST_NUMBERS⟩ := T.i_MOST_NUMBERS
  refine okND (K := K) T.f_Bound_init sc_Bound_init 0 rfl (fun _ _ _ _ _ _ _ us its hl hi => match us, hl, its, hi with | [_, _, _], _, [_], _ => ⟨_, rfl, rfl⟩) (fun vs H Q E h => ?_) (fun cdv A outer s H vs Q E hr h => ?_)
  · obtain ⟨p, dx, t, ns, b, rfl, hl, hS, hp, q⟩ := h
    rfl
  · obtain ⟨p, dx, t, ns, b, rfl, hl, hS, hp, q⟩ := h
    refine ⟨_, PSs.nox (pss_cons (ps_if (PW.pt (pw_or (pt_not (pt_val (pe_callB call_isiZ (by rfl) T.b_isinstance (by decide +kernel) (pa_cons (pv 1) (pa_cons (pe_bltn (v := .ty "tuple") (by rfl) T.b_tuple rfl rfl) pa_nil))))) (pw_or (pt_cmpR op_gt (pe_callB call_len_seq (by rfl) T.b_len (by decide +kernel) (pa_cons (pv 1) pa_nil)) (pe_glob (v := .int 8) (by rfl) m_MOST_NUMBERS ⟨_, rfl⟩) (nomark _)) (pw_or1 (pt_not (pt_val (pe_call G_are_ints (hr.mono (by decide)) (by rfl) T.g_are_ints k_are_ints b_are_ints .nil pass0 (pa_cons (pv 1) pa_nil)))))))) (pss_one ps_never) pss_nil)
      (pss_cons (ps_if (pt_not (pt_val (pe_callB call_isiZ (by rfl) T.b_isinstance (by decide +kernel) (pa_cons (pv 2) (pa_cons (pe_bltn (v := .ty "bool") (by rfl) T.b_bool rfl rfl) pa_nil))))) (pss_one ps_never) pss_nil)
      (pss_cons (ps_fld (pv 0) (pv 1) rfl)
      (pss_one (ps_fld (pv 0) (pv 2) rfl))))), ?_⟩
    refine ⟨_, rfl, isiY (tyT hS) (by decide +kernel) ⟨_, rfl, iteF ⟨_, rfl, t, _, rfl, .inr hS, _, _, rfl, rfl, _, rfl, ?_⟩⟩⟩
    have c : decide (((ns.map V.int).length : Int) > 8) = false := by
      rw [List.length_map]
      exact decide_eq_false (by omega)
    rw [c]
    refine iteF ⟨_, rfl, t, ns, rfl, Nat.le_trans hl (by decide), hS, fun H1 e1 => ⟨_, rfl, iteF ?_⟩⟩
    refine ⟨_, rfl, isiY (tyBl b) (by decide +kernel) ⟨_, rfl, iteF ?_⟩⟩
    refine ⟨_, rfl, _, rfl, p, _, dx, _, rfl, e1 _ _ hp, T.c_Bound, T.n_Bound_form, (by show 0 < 1000; decide), ?_⟩
    refine ⟨_, rfl, _, rfl, p, _, dx, _, rfl, upd_same, T.c_Bound, T.n_Bound_is_strict, (by show 1 < 1000; decide), ?_⟩
    refine q _ (SameBut.put (SameBut.put (SameBut.of e1))) ?_
    rw [upd_same, putF_nil, putF_miss ne_fs, putF_nil]
    rfl
def spBoundLen (K : PySem.W.Frag) : Sp := fun vs H Q _ => ∃ (p dx t : Addr) (xs : List V) (b : Bool), vs = [.ref p] ∧ H p = some (.ins (He.ga K "Bound") dx (bfs t b)) ∧ SqT K H t xs ∧ Q (.int xs.length) H
theorem ok_Bound_len (T : Ctx K mg h) : OkN P w K mg base 1 (He.ma K (He.ga K "Bound") "__len__") ["self"] (spBoundLen K) := by
  refine okN (K := K) T.f_Bound_len sc_Bound_len (fun _ _ _ _ _ _ us hl => match us, hl with | [_], _ => rfl) (fun vs H Q E h => ?_) (fun cdv A outer s H vs Q E hr h => ?_)
  · obtain ⟨p, dx, t, xs, b, rfl, hp, hS, q⟩ := h
    rfl
  · obtain ⟨p, dx, t, xs, b, rfl, hp, hS, q⟩ := h
    refine ⟨_, PSs.nox (pss_one (ps_ret (pe_callB call_len_seq (by rfl) T.b_len (by decide +kernel) (pa_cons (pe_fld (pv 0) rfl) pa_nil)))), ?_⟩
    exact ⟨_, rfl, p, _, dx, _, _, rfl, hp, T.c_Bound, T.n_Bound_form, bfs_form _ _, t, _, rfl, .inr hS, q⟩
/-- two bounds of one form, alike strict -/
def BdEq (K : PySem.W.Frag) (a b : Addr) (H : Hp) : Prop := ∃ (dx dy t u : Addr) (ns : List Int) (s : Bool), H a = some (.ins (He.ga K "Bound") dx (bfs t s)) ∧ H b = some (.ins (He.ga K "Bound") dy (bfs u s)) ∧ SqT K H t (ns.map V.int) ∧ SqT K H u (ns.map V.int)
theorem BdEq.ext {a b : Addr} {H H' : Hp} (e : Ext H H') (h : BdEq K a b H) : BdEq K a b H' := by
  obtain ⟨dx, dy, t, u, ns, s, h1, h2, h3, h4⟩ := h
  exact ⟨dx, dy, t, u, ns, s, e _ _ h1, e _ _ h2, Same.seqT e h3, Same.seqT e h4⟩
theorem ok_Bound_eq (T : Ctx K mg h) : OkN P w K mg base 1 (He.ma K (He.ga K "Bound") "__eq__") ["self", "other"] (spEq (BdEq K)) := by
  refine okN (K := K) T.f_Bound_eq sc_Bound_eq (fun _ _ _ _ _ _ us hl => match us, hl with | [_, _], _ => rfl) (fun vs H Q E h => ?_) (fun cdv A outer s H vs Q E hr h => ?_)
  · obtain ⟨a, b, rfl, ⟨dx, dy, t, u, ns, s, h1, h2, h3, h4⟩, q⟩ := h
    rfl
  · obtain ⟨a, b, rfl, ⟨dx, dy, t, u, ns, s, h1, h2, h3, h4⟩, q⟩ := h
    refine ⟨_, PSs.nox (pss_one (ps_ret (pe_and (pe_callB call_isiZ (by rfl) T.b_isinstance (by decide +kernel) (pa_cons (pv 1) (pa_cons (pe_glob (v := .ref (He.ga K "Bound")) (by rfl) T.g_Bound rfl) pa_nil))) (pe_and (pe_cmpR (op_eqDZ hr.units) (pe_fld (pv 0) rfl) (pe_fld (pv 1) rfl) (nomark _)) (pe_one (pe_cmpR op_eq (pe_fld (pv 0) rfl) (pe_fld (pv 1) rfl) (nomark _))))))), ?_⟩
    refine ⟨_, rfl, isiC (tyIns T.ty_Bound T.c_Bound h2) ⟨_, rfl, iteT ⟨_, rfl, a, _, dx, _, _, rfl, h1, T.c_Bound, T.n_Bound_form, bfs_form _ _, _, rfl, b, _, dy, _, _, rfl, h2, T.c_Bound, T.n_Bound_form, bfs_form _ _, eqSame (tup_ints h3) (tup_ints h4) (shaped_tup ns) ⟨_, rfl, iteT ?_⟩⟩⟩⟩
    refine ⟨_, rfl, a, _, dx, _, _, rfl, h1, T.c_Bound, T.n_Bound_is_strict, bfs_strict _ _, _, rfl, b, _, dy, _, _, rfl, h2, T.c_Bound, T.n_Bound_is_strict, bfs_strict _ _, rfl, ?_⟩
    rw [decide_eq_true rfl]
    exact q _ (Same.refl _)
def spBoundCall (K : PySem.W.Frag) : Sp := fun vs H Q _ => ∃ (p dx t u : Addr) (fs xs : List Int) (b : Bool), vs = [.ref p, .ref u] ∧ H p = some (.ins (He.ga K "Bound") dx (bfs t b)) ∧ SqT K H t (fs.map V.int) ∧ SqT K H u (xs.map V.int) ∧ xs.length = fs.length ∧ fs.length ≤ 100 ∧ (∀ f, f ∈ fs → f.natAbs < 2 ^ 60) ∧
  ∀ H', Same H H' → Q (.bl (if b then decide (dot fs xs > 0) else decide (dot fs xs ≥ 0))) H'
theorem ok_Bound_call (T : Ctx K mg h) : OkN P w K mg base 4 (He.ma K (He.ga K "Bound") "__call__") ["self", "numbers"] (spBoundCall K) := by
  obtain ⟨_, G_value_at, b_value_at, k_value_at⟩ := ok_value_at (P := P) (w := w) (base := base) T
  obtain ⟨_, G_need_numbers, b_need_numbers, k_need_numbers⟩ := ok_need_numbers (P := P) (w := w) (base := base) T
  refine okN (K := K) T.f_Bound_call sc_Bound_call (fun _ _ _ _ _ _ us hl => match us, hl with | [_, _], _ => rfl) (fun vs H Q E h => ?_) (fun cdv A outer s H vs Q E hr h => ?_)
  · obtain ⟨p, dx, t, u, fs, xs, b, rfl, hp, hF, hX, hlen, hl, hz, q⟩ := h
    rfl
  · obtain ⟨p, dx, t, u, fs, xs, b, rfl, hp, hF, hX, hlen, hl, hz, q⟩ := h
    refine ⟨_, PSs.nox (pss_cons (ps_expr (pe_call G_need_numbers (hr.mono (by decide)) (by rfl) T.g_need_numbers k_need_numbers b_need_numbers .nil pass0 (pa_cons (pv 1) (pa_cons (pe_callB call_len_seq (by rfl) T.b_len (by decide +kernel) (pa_cons (pe_fld (pv 0) rfl) pa_nil)) pa_nil))))
      (pss_cons (ps_set (i := 2) sc_Bound_call.nd rfl (by first | exact .inl rfl | exact .inr rfl) (pe_call G_value_at (hr.mono (by decide)) (by rfl) T.g_value_at k_value_at b_value_at .nil pass0 (pa_cons (pe_fld (pv 0) rfl) (pa_cons (pv 1) pa_nil))))
      (pss_one (ps_ret (pe_ifExp (pt_val (pe_fld (pv 0) rfl)) (pe_cmpR op_gt (pv 2) pe_int (nomark _)) (pe_cmpR op_ge (pv 2) pe_int (nomark _))))))), ?_⟩
    refine ⟨_, rfl, _, rfl, p, _, dx, _, _, rfl, hp, T.c_Bound, T.n_Bound_form, bfs_form _ _, t, _, rfl, .inr hF, u, xs, fs.length, by rw [List.length_map]; rfl, hlen, by omega, hX, fun H1 e1 => ?_⟩
    refine ⟨_, rfl, p, _, dx, _, _, rfl, e1 _ _ hp, T.c_Bound, T.n_Bound_form, bfs_form _ _, _, rfl, t, u, true, true, fs, xs, rfl, Same.seqT e1 hF, Same.seqT e1 hX, hlen.symm, hl, hz, fun H2 e2 => ?_⟩
    have q2 := q _ (e1.trans e2)
    refine ⟨_, rfl, p, _, dx, _, _, rfl, e2 _ _ (e1 _ _ hp), T.c_Bound, T.n_Bound_is_strict, bfs_strict _ _, _, rfl, ?_⟩
    cases b with
    | true => exact iteT ⟨_, rfl, _, _, rfl, rfl, q2⟩
    | false => exact iteF ⟨_, rfl, _, _, rfl, rfl, q2⟩
def spPointInit (K : PySem.W.Frag) : Sp := fun vs H Q _ => ∃ (p dx : Addr) (v : V), vs = [.ref p, v] ∧ H p = some (.ins (He.ga K "Point") dx []) ∧ Q .non (upd H p (.ins (He.ga K "Point") dx [("counts", v)]))
theorem ok_Point_init (T : Ctx K mg h) : OkN P w K mg base 1 (He.ma K (He.ga K "Point") "__init__") ["self", "counts"] (spPointInit K) := by
  refine okN (K := K) T.f_Point_init sc_Point_init (fun _ _ _ _ _ _ us hl => match us, hl with | [_, _], _ => rfl) (fun vs H Q E h => ?_) (fun cdv A outer s H vs Q E hr h => ?_)
  · obtain ⟨p, dx, v, rfl, hp, q⟩ := h
    rfl
  · obtain ⟨p, dx, v, rfl, hp, q⟩ := h
    refine ⟨_, PSs.nox (pss_one (ps_fld (pv 0) (pv 1) rfl)), ?_⟩
    exact ⟨_, rfl, _, rfl, p, _, dx, _, rfl, hp, T.c_Point, T.n_Point_counts, (by show 0 < 1000; decide), q⟩
def spClashInit (K : PySem.W.Frag) : Sp := fun vs H Q _ => ∃ (p dx : Addr) (v : V), vs = [.ref p, v] ∧ H p = some (.ins (He.ga K "Clash") dx []) ∧ Q .non (upd H p (.ins (He.ga K "Clash") dx [("weights", v)]))
theorem ok_Clash_init (T : Ctx K mg h) : OkN P w K mg base 1 (He.ma K (He.ga K "Clash") "__init__") ["self", "weights"] (spClashInit K) := by
  refine okN (K := K) T.f_Clash_init sc_Clash_init (fun _ _ _ _ _ _ us hl => match us, hl with | [_, _], _ => rfl) (fun vs H Q E h => ?_) (fun cdv A outer s H vs Q E hr h => ?_)
  · obtain ⟨p, dx, v, rfl, hp, q⟩ := h
    rfl
  · obtain ⟨p, dx, v, rfl, hp, q⟩ := h
    refine ⟨_, PSs.nox (pss_one (ps_fld (pv 0) (pv 1) rfl)), ?_⟩
    exact ⟨_, rfl, _, rfl, p, _, dx, _, rfl, hp, T.c_Clash, T.n_Clash_weights, (by show 0 < 1000; decide), q⟩
/-- what an own truth answers -/
def spTruth (b : Bool) : Sp := fun vs H Q _ => ∃ a : Addr, vs = [.ref a] ∧ Q (.bl b) H
theorem ok_Point_bool (T : Ctx K mg h) : OkN P w K mg base 1 (He.ma K (He.ga K "Point") "__bool__") ["self"] (spTruth true) := by
  refine okN (K := K) T.f_Point_bool sc_Point_bool (fun _ _ _ _ _ _ us hl => match us, hl with | [_], _ => rfl) (fun vs H Q E h => ?_) (fun cdv A outer s H vs Q E hr h => ?_)
  · obtain ⟨a, rfl, q⟩ := h
    rfl
  · obtain ⟨a, rfl, q⟩ := h
    refine ⟨_, PSs.nox (pss_one (ps_ret pe_bl)), ?_⟩
    exact q
theorem ok_Clash_bool (T : Ctx K mg h) : OkN P w K mg base 1 (He.ma K (He.ga K "Clash") "__bool__") ["self"] (spTruth false) := by
  refine okN (K := K) T.f_Clash_bool sc_Clash_bool (fun _ _ _ _ _ _ us hl => match us, hl with | [_], _ => rfl) (fun vs H Q E h => ?_) (fun cdv A outer s H vs Q E hr h => ?_)
  · obtain ⟨a, rfl, q⟩ := h
    rfl
  · obtain ⟨a, rfl, q⟩ := h
    refine ⟨_, PSs.nox (pss_one (ps_ret pe_bl)), ?_⟩
    exact q
/-- a paper of the class at C, its field f holding a tuple of whole numbers -/
def PaperAt (K : PySem.W.Frag) (C : Addr) (f : Str) (H : Hp) (p : Addr) (xs : List Int) : Prop := ∃ dx t, H p = some (.ins C dx [(f, .ref t)]) ∧ SqT K H t (xs.map V.int)
theorem PaperAt.same {C : Addr} {f : Str} {H H' : Hp} {p : Addr} {xs : List Int} (h : PaperAt K C f H p xs) (e : Same H H') : PaperAt K C f H' p xs := by
  obtain ⟨dx, t, h1, h2⟩ := h
  exact ⟨dx, t, e _ _ h1, Same.seqT e h2⟩
def spPaperEq (K : PySem.W.Frag) (C : Addr) (f : Str) : Sp := fun vs H Q _ => ∃ (a b : Addr) (xs : List Int), vs = [.ref a, .ref b] ∧ PaperAt K C f H a xs ∧ PaperAt K C f H b xs ∧ Q (.bl true) H
theorem ok_Point_eq (T : Ctx K mg h) : OkN P w K mg base 1 (He.ma K (He.ga K "Point") "__eq__") ["self", "other"] (spPaperEq K (He.ga K "Point") "counts") := by
  refine okN (K := K) T.f_Point_eq sc_Point_eq (fun _ _ _ _ _ _ us hl => match us, hl with | [_, _], _ => rfl) (fun vs H Q E h => ?_) (fun cdv A outer s H vs Q E hr h => ?_)
  · obtain ⟨a, b, xs, rfl, ⟨dx, t, h1, h2⟩, ⟨dy, u, h3, h4⟩, q⟩ := h
    rfl
  · obtain ⟨a, b, xs, rfl, ⟨dx, t, h1, h2⟩, ⟨dy, u, h3, h4⟩, q⟩ := h
    refine ⟨_, PSs.nox (pss_one (ps_ret (pe_and (pe_callB call_isiZ (by rfl) T.b_isinstance (by decide +kernel) (pa_cons (pv 1) (pa_cons (pe_glob (v := .ref (He.ga K "Point")) (by rfl) T.g_Point rfl) pa_nil))) (pe_one (pe_cmpR (op_eqDZ hr.units) (pe_fld (pv 0) rfl) (pe_fld (pv 1) rfl) (nomark _)))))), ?_⟩
    exact ⟨_, rfl, isiC (tyIns T.ty_Point T.c_Point h3) ⟨_, rfl, iteT ⟨_, rfl, a, _, dx, _, _, rfl, h1, T.c_Point, T.n_Point_counts, lookup_hit _ _ _, _, rfl, b, _, dy, _, _, rfl, h3, T.c_Point, T.n_Point_counts, lookup_hit _ _ _, eqSame (tup_ints h2) (tup_ints h4) (shaped_tup xs) q⟩⟩⟩
theorem ok_Clash_eq (T : Ctx K mg h) : OkN P w K mg base 1 (He.ma K (He.ga K "Clash") "__eq__") ["self", "other"] (spPaperEq K (He.ga K "Clash") "weights") := by
  refine okN (K := K) T.f_Clash_eq sc_Clash_eq (fun _ _ _ _ _ _ us hl => match us, hl with | [_, _], _ => rfl) (fun vs H Q E h => ?_) (fun cdv A outer s H vs Q E hr h => ?_)
  · obtain ⟨a, b, xs, rfl, ⟨dx, t, h1, h2⟩, ⟨dy, u, h3, h4⟩, q⟩ := h
    rfl
  · obtain ⟨a, b, xs, rfl, ⟨dx, t, h1, h2⟩, ⟨dy, u, h3, h4⟩, q⟩ := h
    refine ⟨_, PSs.nox (pss_one (ps_ret (pe_and (pe_callB call_isiZ (by rfl) T.b_isinstance (by decide +kernel) (pa_cons (pv 1) (pa_cons (pe_glob (v := .ref (He.ga K "Clash")) (by rfl) T.g_Clash rfl) pa_nil))) (pe_one (pe_cmpR (op_eqDZ hr.units) (pe_fld (pv 0) rfl) (pe_fld (pv 1) rfl) (nomark _)))))), ?_⟩
    exact ⟨_, rfl, isiC (tyIns T.ty_Clash T.c_Clash h3) ⟨_, rfl, iteT ⟨_, rfl, a, _, dx, _, _, rfl, h1, T.c_Clash, T.n_Clash_weights, lookup_hit _ _ _, _, rfl, b, _, dy, _, _, rfl, h3, T.c_Clash, T.n_Clash_weights, lookup_hit _ _ _, eqSame (tup_ints h2) (tup_ints h4) (shaped_tup xs) q⟩⟩⟩
/-! ### need_bounds -/
/-- at a a list of n bounds: the j-th at p j, of the form F j, strict as S j tells -/
structure BsAt (K : PySem.W.Frag) (H : Hp) (a : Addr) (t : Bool) (n many : Nat) (p : Nat → Addr) (F : Nat → List Int) (S : Nat → Bool) : Prop where
  lst : SqB K H a (tab n fun j => V.ref (p j)) t
  itm : ∀ j, j < n → ∃ dx t : Addr, H (p j) = some (.ins (He.ga K "Bound") dx (bfs t (S j))) ∧ SqT K H t ((F j).map V.int)
  len : ∀ j, j < n → (F j).length = many
theorem BsAt.same {H H' : Hp} {a : Addr} {t : Bool} {n many : Nat} {p : Nat → Addr} {F : Nat → List Int} {S : Nat → Bool} (B : BsAt K H a t n many p F S) (e : Same H H') : BsAt K H' a t n many p F S :=
  ⟨Same.seqB e B.lst, fun j hj => by
    obtain ⟨dx, t, h1, h2⟩ := B.itm j hj
    exact ⟨dx, t, e _ _ h1, Same.seqT e h2⟩, B.len⟩
def spNeedBounds (K : PySem.W.Frag) : Sp := fun vs H Q _ => ∃ (a : Addr) (t : Bool) (n many : Nat) (p : Nat → Addr) (F : Nat → List Int) (S : Nat → Bool), vs = [.ref a, .int many] ∧ n ≤ 80 ∧ many ≤ 8 ∧ BsAt K H a t n many p F S ∧
  ∀ H', Same H H' → Q .non H'
theorem ok_need_bounds (T : Ctx K mg h) : OkN P w K mg base 3 (He.ga K "need_bounds") ["bounds", "many"] (spNeedBounds K) := by
  obtain ⟨_, G_Bound_len, b_Bound_len, k_Bound_len⟩ := ok_Bound_len (P := P) (w := w) (base := base) T
  obtain ⟨_, G_is_between, b_is_between, k_is_between⟩ := ok_is_between (P := P) (w := w) (base := base) T
  obtain ⟨_, m_MOST_BOUNDS⟩ := T.i_MOST_BOUNDS
  obtain ⟨_, m_MOST_NUMBERS⟩ := T.i_MOST_NUMBERS
  refine okN (K := K) T.f_need_bounds sc_need_bounds (fun _ _ _ _ _ _ us hl => match us, hl with | [_, _], _ => rfl) (fun vs H Q E h => ?_) (fun cdv A outer s H vs Q E hr h => ?_)
  · obtain ⟨a, t, n, many, p, F, S, rfl, hn, hm, B, q⟩ := h
    rfl
  · obtain ⟨a, t, n, many, p, F, S, rfl, hn, hm, B, q⟩ := h
    refine ⟨_, PSs.nox (pss_cons (ps_if (pt_not (pt_val (pe_call G_is_between (hr.mono (by decide)) (by rfl) T.g_is_between k_is_between b_is_between .nil pass0 (pa_cons (pv 1) (pa_cons pe_int (pa_cons (pe_glob (v := .int 8) (by rfl) m_MOST_NUMBERS ⟨_, rfl⟩) pa_nil)))))) (pss_one ps_never) pss_nil)
      (pss_cons (ps_if (PW.pt (pw_or (pt_not (pt_val (pe_callB call_isiTZ (by rfl) T.b_isinstance (by decide +kernel) (pa_cons (pv 0) (pa_cons (pe_tup (pa_cons (pe_bltn (v := .ty "list") (by rfl) T.b_list rfl rfl) (pa_cons (pe_bltn (v := .ty "tuple") (by rfl) T.b_tuple rfl rfl) pa_nil))) pa_nil))))) (pw_or1 (pt_cmpR op_gt (pe_callB call_len_seq (by rfl) T.b_len (by decide +kernel) (pa_cons (pv 0) pa_nil)) (pe_glob (v := .int 80) (by rfl) m_MOST_BOUNDS ⟨_, rfl⟩) (nomark _))))) (pss_one ps_never) pss_nil)
      (pss_one (ps_for PassesOwn.never rfl (pi_enumB t (by rfl) T.b_enumerate (pa_cons (pv 0) pa_nil)) (pg_tup (n := 2) rfl (pgs_cons (pg_name (i := 2) sc_need_bounds.nd rfl (by first | exact .inl rfl | exact .inr rfl)) (pgs_cons (pg_name (i := 3) sc_need_bounds.nd rfl (by first | exact .inl rfl | exact .inr rfl)) pgs_nil)))
      (pss_one (ps_if (PW.pt (pw_or (pt_not (pt_val (pe_callB call_isiZ (by rfl) T.b_isinstance (by decide +kernel) (pa_cons (pv 3) (pa_cons (pe_glob (v := .ref (He.ga K "Bound")) (by rfl) T.g_Bound rfl) pa_nil))))) (pw_or1 (pt_cmpR op_ne (pe_callB (call_lenO G_Bound_len (hr.mono (by decide)) T.m_Bound_len b_Bound_len pass0) (by rfl) T.b_len (by decide +kernel) (pa_cons (pv 3) pa_nil)) (pv 1) (nomark _))))) (pss_one ps_never) pss_nil)))))), ?_⟩
    have c1 : (decide ((0 : Int) ≤ (many : Int)) && decide ((many : Int) ≤ 8)) = true := by
      rw [decide_eq_true (show (0 : Int) ≤ (many : Int) by omega), decide_eq_true (show (many : Int) ≤ 8 by omega)]
      rfl
    refine ⟨_, rfl, _, _, _, rfl, ?_⟩
    rw [c1]
    refine ⟨_, rfl, iteF ?_⟩
    refine ⟨_, rfl, (by show 2 ≤ sizeLine; decide), fun tp htp => isiLT (t := t) (tyB (Same.seqB (Same.new htp) B.lst)) upd_same ⟨_, rfl, iteF ?_⟩⟩
    have B1 := B.same (Same.new (o := .tup [.ty "list", .ty "tuple"]) htp)
    refine ⟨_, rfl, a, _, rfl, lenB B1.lst, _, _, rfl, rfl, _, rfl, ?_⟩
    have c2 : decide (((tab n fun j => V.ref (p j)).length : Int) > 80) = false := by
      rw [tab_length]
      exact decide_eq_false (by omega)
    rw [c2]
    refine iteF ?_
    refine ⟨_, rfl, a, _, rfl, B1.lst, for_it walk_enumB (fun _ σ H' => Same H H' ∧ BsAt K H' a t n many p F S ∧ ∃ u v, σ = [some (.ref a), some (.int many), u, v]) ⟨Same.new htp, B1, _, _, rfl⟩ (fun i σ H' _ P => P.2.1.lst) (fun i x σ H' H1 hi P Y => ?_) fun σ H' P => q _ P.1⟩
    obtain ⟨e0, B2, u, v, rfl⟩ := P
    obtain ⟨T0, y, z, rfl, ht, rfl, hy, hz⟩ := Y
    have hy' : V.int (i : Nat) = y := Option.some.inj hy
    have hi' : i < n := by
      rw [tab_length] at hi
      exact hi
    have hz' : V.ref (p i) = z := by
      have e : (tab n fun j => V.ref (p j))[i]? = some (V.ref (p i)) := tab_get hi'
      exact Option.some.inj (e.symm.trans hz)
    subst hy' hz'
    have e1 : Same H' (upd H' T0 (.tup [.int (i : Nat), .ref (p i)])) := Same.new ht
    obtain ⟨dx, tt, h1, h2⟩ := (B2.same e1).itm i hi'
    refine ⟨T0, _, rfl, SqT.of upd_same, rfl, _, _, rfl, _, _, rfl, rfl, ?_⟩
    refine ⟨_, rfl, isiC (tyIns T.ty_Bound T.c_Bound h1) ⟨_, rfl, iteF ?_⟩⟩
    refine ⟨_, rfl, p i, dx, _, rfl, h1, p i, dx, tt, _, _, rfl, h1, h2, (F i).length, by rw [List.length_map], by rw [B.len i hi']; omega, ?_⟩
    rw [B.len i hi']
    refine ⟨_, rfl, rfl, _, rfl, ?_⟩
    have c3 : decide (¬ V.int (many : Nat) = V.int (many : Nat)) = false := decide_eq_false fun z => z rfl
    refine iteNS rfl ?_
    exact ⟨e0.trans e1, B2.same e1, _, _, rfl⟩
def spLowered (K : PySem.W.Frag) : Sp := fun vs H Q _ => ∃ (a : Addr) (ns : List Int), vs = [.ref a] ∧ ns.length ≤ 1000 ∧ SqL K H a (ns.map V.int) ∧ (∀ n, n ∈ ns → n.natAbs < 2 ^ 1100) ∧
  ∀ H' t, Same H H' → H' t = some (.tup ((low ns).map V.int)) → Q (.ref t) H'
theorem ok_lowered (T : Ctx K mg h) : OkN P w K mg base 1 (He.ga K "lowered") ["numbers"] (spLowered K) := by
  refine okN (K := K) T.f_lowered sc_lowered (fun _ _ _ _ _ _ us hl => match us, hl with | [_], _ => rfl) (fun vs H Q E h => ?_) (fun cdv A outer s H vs Q E hr h => ?_)
  · obtain ⟨a, ns, rfl, hl, hS, hz, q⟩ := h
    rfl
  · obtain ⟨a, ns, rfl, hl, hS, hz, q⟩ := h
    refine ⟨_, PSs.nox (pss_cons (ps_set (i := 1) sc_lowered.nd rfl (by first | exact .inl rfl | exact .inr rfl) pe_int)
      (pss_cons (ps_for PassesOwn.never rfl (pi_list (pv 0)) (pg_name (i := 2) sc_lowered.nd rfl (by first | exact .inl rfl | exact .inr rfl))
      (pss_one (ps_set (i := 1) sc_lowered.nd rfl (by first | exact .inl rfl | exact .inr rfl) (pe_callBfun cr_gcd (by rfl) T.v_gcd (pa_cons (pv 1) (pa_cons (pv 2) pa_nil))))))
      (pss_one (ps_ret (pe_ifExp (pt_cmpR op_gt (pv 1) pe_int (nomark _)) (pe_callTy call_tuple_of (by rfl) T.b_tuple (by decide +kernel) (pa_cons (pe_lc (own := [("number", 2)]) (g := gName 2) (by rfl) sc_lowered.nd (pi_list (pv 0)) (blkOk_by (own := [("number", 2)]) (N := N_lowered) (sc := defScope s_lowered) (by decide +kernel)) (fun _ _ _ _ _ => (pg_name (i := 2) sc_lowered.nd rfl (by first | exact .inl rfl | exact .inr rfl))) (fun _ _ _ _ _ => pts_nil) (fun _ _ _ _ _ => (pe_op op_fdivW (pv 2) (pv 1)))) pa_nil)) (pe_callTy call_tuple_of (by rfl) T.b_tuple (by decide +kernel) (pa_cons (pv 0) pa_nil))))))), ?_⟩
    refine ⟨_, rfl, a, rfl, ⟨_, hS⟩, for_list (xs := ns.map V.int) (fun i σ H' => H' = H ∧ ∃ v, σ = [some (.ref a), some (.int ((gs (ns.take i) : Nat) : Int)), v]) ⟨rfl, _, rfl⟩ (fun i σ H' _ P => by rw [P.1]; exact hS) (fun i x σ H' hx P => ?_) fun σ H' P => ?_⟩
    · obtain ⟨rfl, v, rfl⟩ := P
      rw [List.getElem?_map] at hx
      cases hi : ns[i]? with
      | none => rw [hi] at hx; cases hx
      | some y =>
        rw [hi] at hx
        cases hx
        refine ⟨_, rfl, _, rfl, _, _, rfl, rfl, some (.int y), ?_⟩
        rw [take_succ hi, gs_snoc]
        rfl
    · obtain ⟨rfl, v, rfl⟩ := P
      rw [List.length_map, List.take_length]
      have lt : gs ns < 2 ^ 1100 := fold_lt ns 0 (by decide +kernel) hz
      refine ⟨_, rfl, _, _, rfl, rfl, _, rfl, ite2 (fun c => ?_) (fun c => ?_)⟩
      · have c' : (1 : Int) < ((gs ns : Nat) : Int) := of_decide_eq_true c
        have c1 : 1 < gs ns := by omega
        refine ⟨_, rfl, a, rfl, ⟨_, hS⟩, fun D hD => lcp_list ns V.int (fun _ => true) (fun x => .int (x / ((gs ns : Nat) : Int))) hD (Nat.le_trans hl (by decide)) hS (fun x hx H1 Nx Qe e k1 k2 => ?_) fun H1 e hD' => ?_⟩
        · exact ⟨rfl, _, rfl, _, rfl, _, _, rfl, rfl, wide_div (by omega) (b := 1100) (by omega) (by decide) (by decide), k1 rfl _ (Same.refl _)⟩
        · rw [RC.filter_all] at hD'
          refine ⟨D, _, rfl, .inl ⟨SqL.of hD', fun l hl => q _ _ (e.trans (Same.new hl)) ?_⟩⟩
          rw [upd_same]
          unfold low
          rw [if_pos c1, List.map_map]
          rfl
      · have c' : ¬ (1 : Int) < ((gs ns : Nat) : Int) := fun z => c (decide_eq_true z)
        have c1 : ¬ 1 < gs ns := by omega
        refine ⟨_, rfl, a, _, rfl, .inl ⟨hS, fun l hl => q _ _ (Same.new hl) ?_⟩⟩
        rw [upd_same]
        unfold low
        rw [if_neg c1]
end R35
namespace R35
open PySem PySem.Spec PyProof.Rows L2 RC
variable {P : Program} {w : World} {K : PySem.W.Frag} {mg : Str → Option Value} {base h : Heap}
/-! ### a grid -/
def gf (n m : Nat) (L B : Addr) (d : Int) : List (Str × V) := [("many_columns", .int n), ("many_lines", .int m), ("lines", .ref L), ("basis", .ref B), ("scale", .int d)]
theorem gf_cols {n m : Nat} {L B : Addr} {d : Int} : (gf n m L B d).lookup ("many_columns" : Str) = some (.int n) := lookup_hit _ _ _
theorem gf_many {n m : Nat} {L B : Addr} {d : Int} : (gf n m L B d).lookup ("many_lines" : Str) = some (.int m) := by
  unfold gf
  rw [lookup_miss (by decide +kernel), lookup_hit]
theorem gf_lines {n m : Nat} {L B : Addr} {d : Int} : (gf n m L B d).lookup ("lines" : Str) = some (.ref L) := by
  unfold gf
  rw [lookup_miss (by decide +kernel), lookup_miss (by decide +kernel), lookup_hit]
theorem gf_basis {n m : Nat} {L B : Addr} {d : Int} : (gf n m L B d).lookup ("basis" : Str) = some (.ref B) := by
  unfold gf
  rw [lookup_miss (by decide +kernel), lookup_miss (by decide +kernel), lookup_miss (by decide +kernel), lookup_hit]
theorem gf_scale {n m : Nat} {L B : Addr} {d : Int} : (gf n m L B d).lookup ("scale" : Str) = some (.int d) := by
  unfold gf
  rw [lookup_miss (by decide +kernel), lookup_miss (by decide +kernel), lookup_miss (by decide +kernel), lookup_miss (by decide +kernel), lookup_hit]
theorem gf_no {n m : Nat} {L B : Addr} {d : Int} {x : Str} (h1 : ¬ x = "many_columns") (h2 : ¬ x = "many_lines") (h3 : ¬ x = "lines") (h4 : ¬ x = "basis") (h5 : ¬ x = "scale") : (gf n m L B d).lookup x = none := by
  unfold gf
  rw [lookup_miss h1, lookup_miss h2, lookup_miss h3, lookup_miss h4, lookup_miss h5]
  rfl
theorem gf_put {n m : Nat} {L B : Addr} {d e : Int} : putF "scale" (.int e) (gf n m L B d) = gf n m L B e := by
  unfold gf
  rw [putF_miss (by decide +kernel), putF_miss (by decide +kernel), putF_miss (by decide +kernel), putF_miss (by decide +kernel), putF_hit]
/-- the grid at p: s, in the lists L, B and r i -/
structure GrAt (K : PySem.W.Frag) (H : Hp) (p : Addr) (n m : Nat) (s : Sx.St) (dx L B : Addr) (r : Nat → Addr) : Prop where
  obj : H p = some (.ins (He.ga K "Grid") dx (gf n m L B s.d))
  lns : H L = some (.lst (tab (m + 1) fun i => .ref (r i)))
  row : ∀ i, i ≤ m → H (r i) = some (.lst (tab (n + m + 1) fun j => .int (s.T i j)))
  bas : H B = some (.lst (tab m fun i => .int ((s.bas i : Nat) : Int)))
theorem GrAt.same {H H' : Hp} {p : Addr} {n m : Nat} {s : Sx.St} {dx L B : Addr} {r : Nat → Addr} (g : GrAt K H p n m s dx L B r) (e : Same H H') : GrAt K H' p n m s dx L B r :=
  ⟨e _ _ g.obj, e _ _ g.lns, fun i hi => e _ _ (g.row i hi), e _ _ g.bas⟩
/-- the numbers are not too great -/
structure Szd (n m : Nat) (s : Sx.St) : Prop where
  n_ : n ≤ 100
  m0 : 0 < m
  m_ : m ≤ 9
  d_ : 0 < s.d
  dz : s.d.natAbs < 2 ^ 1000
  tz : ∀ i, i ≤ m → ∀ j, j ≤ n + m → (s.T i j).natAbs < 2 ^ 1000
def optV : Option Nat → V
  | none => .non
  | some c => .int (c : Nat)
def spEnter (K : PySem.W.Frag) : Sp := fun vs H Q _ => ∃ (p : Addr) (n m : Nat) (s : Sx.St) (dx L B : Addr) (r : Nat → Addr), vs = [.ref p] ∧ GrAt K H p n m s dx L B r ∧ Szd n m s ∧ Q (optV (Sx.ent n m s)) H
theorem ok_Grid_entering (T : Ctx K mg h) : OkN P w K mg base 1 (He.ma K (He.ga K "Grid") "entering") ["self"] (spEnter K) := by
  refine okN (K := K) T.f_Grid_entering sc_Grid_entering (fun _ _ _ _ _ _ us hl => match us, hl with | [_], _ => rfl) (fun vs H Q E h => ?_) (fun cdv A outer s H vs Q E hr h => ?_)
  · obtain ⟨p, n, m, s, dx, L, B, r, rfl, g, z, q⟩ := h
    rfl
  · obtain ⟨p, n, m, s, dx, L, B, r, rfl, g, z, q⟩ := h
    refine ⟨_, PSs.nox (pss_cons (ps_set (i := 1) sc_Grid_entering.nd rfl (by first | exact .inl rfl | exact .inr rfl) (pe_ix ix_list (pe_fld (pv 0) rfl) (pe_fld (pv 0) rfl) (fun _ _ => rfl)))
      (pss_cons (ps_for PassesOwn.never rfl (pi_range1 (by rfl) T.b_range (pa_cons (pe_fld (pv 0) rfl) pa_nil)) (pg_name (i := 2) sc_Grid_entering.nd rfl (by first | exact .inl rfl | exact .inr rfl))
      (pss_one (ps_if (pt_cmpR op_lt (pe_ix ix_list (pv 1) (pv 2) (fun _ _ => rfl)) pe_int (nomark _)) (pss_one (ps_ret (pv 2))) pss_nil)))
      (pss_one (ps_ret pe_non)))), ?_⟩
    have zn := z.n_
    refine ⟨_, rfl, p, _, dx, _, _, rfl, g.obj, T.c_Grid, T.n_Grid_lines, gf_lines, _, rfl, p, _, dx, _, _, rfl, g.obj, T.c_Grid, T.n_Grid_many_lines, gf_many, L, _, _, _, rfl, rfl, SqL.of g.lns, tab_at (Nat.lt_succ_self m), ?_⟩
    refine ⟨_, rfl, p, _, dx, _, _, rfl, g.obj, T.c_Grid, T.n_Grid_many_columns, gf_cols, _, rfl, (by omega), (by omega), for_r (fun i σ H' => H' = H ∧ (∀ j, j < i → ¬ s.T m j < 0) ∧ ∃ v, σ = [some (.ref p), some (.ref (r m)), v]) ⟨rfl, fun j hj => absurd hj (by omega), _, rfl⟩ (fun i σ H' hi P => ?_) fun σ H' P => ?_⟩
    · have hi : i < n := hi
      obtain ⟨rfl, h0, v, rfl⟩ := P
      refine ⟨_, rfl, _, rfl, r m, _, _, _, rfl, rfl, SqL.of (g.row m (Nat.le_refl m)), tab_at (by omega), _, _, rfl, rfl, _, rfl, ite2 (fun c => ?_) (fun c => ?_)⟩
      · have c' : s.T m i < 0 := of_decide_eq_true c
        have e : Sx.ent n m s = some i := by
          unfold Sx.ent
          rw [List.find?_range_eq_some]
          exact ⟨decide_eq_true c', by simpa using hi, fun j hj => by simpa using h0 j hj⟩
        rw [e] at q
        exact ⟨_, rfl, q⟩
      · have c' : ¬ s.T m i < 0 := fun z => c (decide_eq_true z)
        refine ⟨rfl, fun j hj => ?_, _, rfl⟩
        rcases Nat.lt_succ_iff_lt_or_eq.mp hj with e | e
        · exact h0 j e
        · rw [e]
          exact c'
    · obtain ⟨rfl, h0, v, rfl⟩ := P
      have e : Sx.ent n m s = none := by
        unfold Sx.ent
        rw [List.find?_eq_none]
        intro j hj
        have hj' : j < n := List.mem_range.mp hj
        simpa using h0 j hj'
      rw [e] at q
      exact q
def spAhead (K : PySem.W.Frag) : Sp := fun vs H Q _ => ∃ (p : Addr) (n m : Nat) (s : Sx.St) (dx L B : Addr) (r : Nat → Addr) (a b c : Nat), vs = [.ref p, .int a, .int b, .int c] ∧ GrAt K H p n m s dx L B r ∧ Szd n m s ∧ a < m ∧ b < m ∧ c < n ∧
  Q (.bl (Sx.ahead (n + m) s c a b)) H
theorem ok_Grid_is_ahead (T : Ctx K mg h) : OkN P w K mg base 1 (He.ma K (He.ga K "Grid") "is_ahead") ["self", "at", "best", "column"] (spAhead K) := by
  refine okN (K := K) T.f_Grid_is_ahead sc_Grid_is_ahead (fun _ _ _ _ _ _ us hl => match us, hl with | [_, _, _, _], _ => rfl) (fun vs H Q E h => ?_) (fun cdv A outer s H vs Q E hr h => ?_)
  · obtain ⟨p, n, m, s, dx, L, B, r, a, b, c, rfl, g, z, ha, hb, hc, q⟩ := h
    rfl
  · obtain ⟨p, n, m, s, dx, L, B, r, a, b, c, rfl, g, z, ha, hb, hc, q⟩ := h
    refine ⟨_, PSs.nox (pss_cons (ps_set (i := 4) sc_Grid_is_ahead.nd rfl (by first | exact .inl rfl | exact .inr rfl) (pe_op op_mulW (pe_ix ix_list (pe_ix ix_list (pe_fld (pv 0) rfl) (pv 1) (fun _ _ => rfl)) (pe_un un_neg pe_int) (fun _ _ => rfl)) (pe_ix ix_list (pe_ix ix_list (pe_fld (pv 0) rfl) (pv 2) (fun _ _ => rfl)) (pv 3) (fun _ _ => rfl))))
      (pss_cons (ps_set (i := 5) sc_Grid_is_ahead.nd rfl (by first | exact .inl rfl | exact .inr rfl) (pe_op op_mulW (pe_ix ix_list (pe_ix ix_list (pe_fld (pv 0) rfl) (pv 2) (fun _ _ => rfl)) (pe_un un_neg pe_int) (fun _ _ => rfl)) (pe_ix ix_list (pe_ix ix_list (pe_fld (pv 0) rfl) (pv 1) (fun _ _ => rfl)) (pv 3) (fun _ _ => rfl))))
      (pss_one (ps_ret (pe_or (pe_cmpR op_lt (pv 4) (pv 5) (nomark _)) (pe_one (pe_and (pe_cmpR op_eq (pv 4) (pv 5) (nomark _)) (pe_one (pe_cmpR op_lt (pe_ix ix_list (pe_fld (pv 0) rfl) (pv 1) (fun _ _ => rfl)) (pe_ix ix_list (pe_fld (pv 0) rfl) (pv 2) (fun _ _ => rfl)) (nomark _)))))))))), ?_⟩
    have row : ∀ i, i < m → ∀ j, j ≤ n + m → SqL K H (r i) (tab (n + m + 1) fun j => .int (s.T i j)) := fun i hi j hj => SqL.of (g.row i (by omega))
    have mul : ∀ i j k l, i ≤ m → j ≤ n + m → k ≤ m → l ≤ n + m → CMulW (s.T i j) (s.T k l) := fun i j k l hi hj hk hl => wide_mul (z.tz i hi j hj) (z.tz k hk l hl) (by decide) (by decide) (by decide)
    refine ⟨_, rfl, p, _, dx, _, _, rfl, g.obj, T.c_Grid, T.n_Grid_lines, gf_lines, _, rfl, L, _, _, _, rfl, rfl, SqL.of g.lns, tab_at (by omega), _, rfl, r a, _, _, _, rfl, rfl, SqL.of (g.row a (by omega)), tab_last, ?_⟩
    refine ⟨_, rfl, p, _, dx, _, _, rfl, g.obj, T.c_Grid, T.n_Grid_lines, gf_lines, _, rfl, L, _, _, _, rfl, rfl, SqL.of g.lns, tab_at (by omega), _, rfl, r b, _, _, _, rfl, rfl, SqL.of (g.row b (by omega)), tab_at (by omega), _, _, rfl, rfl, mul a (n + m) b c (by omega) (by omega) (by omega) (by omega), ?_⟩
    refine ⟨_, rfl, p, _, dx, _, _, rfl, g.obj, T.c_Grid, T.n_Grid_lines, gf_lines, _, rfl, L, _, _, _, rfl, rfl, SqL.of g.lns, tab_at (by omega), _, rfl, r b, _, _, _, rfl, rfl, SqL.of (g.row b (by omega)), tab_last, ?_⟩
    refine ⟨_, rfl, p, _, dx, _, _, rfl, g.obj, T.c_Grid, T.n_Grid_lines, gf_lines, _, rfl, L, _, _, _, rfl, rfl, SqL.of g.lns, tab_at (by omega), _, rfl, r a, _, _, _, rfl, rfl, SqL.of (g.row a (by omega)), tab_at (by omega), _, _, rfl, rfl, mul b (n + m) a c (by omega) (by omega) (by omega) (by omega), ?_⟩
    unfold Sx.ahead at q
    refine ⟨_, rfl, _, rfl, _, _, rfl, rfl, _, rfl, ite2 (fun k => ?_) (fun k => ?_)⟩
    · rw [k, Bool.true_or] at q
      exact q
    · rw [Bool.eq_false_iff.mpr k, Bool.false_or] at q
      refine ⟨_, rfl, _, rfl, rfl, _, rfl, ite2 (fun k => ?_) (fun k => ?_)⟩
      · have k' : s.T a (n + m) * s.T b c = s.T b (n + m) * s.T a c := by simpa using of_decide_eq_true k
        rw [decide_eq_true k', Bool.true_and] at q
        refine ⟨_, rfl, p, _, dx, _, _, rfl, g.obj, T.c_Grid, T.n_Grid_basis, gf_basis, _, rfl, B, _, _, _, rfl, rfl, SqL.of g.bas, tab_at ha, ?_⟩
        refine ⟨_, rfl, p, _, dx, _, _, rfl, g.obj, T.c_Grid, T.n_Grid_basis, gf_basis, _, rfl, B, _, _, _, rfl, rfl, SqL.of g.bas, tab_at hb, _, _, rfl, rfl, ?_⟩
        have e : decide (((s.bas a : Nat) : Int) < ((s.bas b : Nat) : Int)) = decide (s.bas a < s.bas b) := by
          refine decide_eq_decide.mpr ?_
          omega
        show Q (.bl (decide (((s.bas a : Nat) : Int) < ((s.bas b : Nat) : Int)))) H
        rw [e]
        exact q
      · have k' : ¬ s.T a (n + m) * s.T b c = s.T b (n + m) * s.T a c := fun z => k (decide_eq_true (congrArg V.int z))
        rw [decide_eq_false k', Bool.false_and] at q
        exact q
end R35
namespace R35
open PySem PySem.Spec PyProof.Rows L2 RC
variable {P : Program} {w : World} {K : PySem.W.Frag} {mg : Str → Option Value} {base h : Heap}
def spLeave (K : PySem.W.Frag) : Sp := fun vs H Q _ => ∃ (p : Addr) (n m : Nat) (s : Sx.St) (dx L B : Addr) (r : Nat → Addr) (c : Nat), vs = [.ref p, .int c] ∧ GrAt K H p n m s dx L B r ∧ Szd n m s ∧ c < n ∧ Q (optV (Sx.lv (n + m) s c m)) H
theorem ok_Grid_leaving (T : Ctx K mg h) : OkN P w K mg base 2 (He.ma K (He.ga K "Grid") "leaving") ["self", "column"] (spLeave K) := by
  obtain ⟨_, G_Grid_is_ahead, b_Grid_is_ahead, k_Grid_is_ahead⟩ := ok_Grid_is_ahead (P := P) (w := w) (base := base) T
  refine okN (K := K) T.f_Grid_leaving sc_Grid_leaving (fun _ _ _ _ _ _ us hl => match us, hl with | [_, _], _ => rfl) (fun vs H Q E h => ?_) (fun cdv A outer s H vs Q E hr h => ?_)
  · obtain ⟨p, n, m, s, dx, L, B, r, c, rfl, g, z, hc, q⟩ := h
    rfl
  · obtain ⟨p, n, m, s, dx, L, B, r, c, rfl, g, z, hc, q⟩ := h
    refine ⟨_, PSs.nox (pss_cons (ps_set (i := 2) sc_Grid_leaving.nd rfl (by first | exact .inl rfl | exact .inr rfl) pe_non)
      (pss_cons (ps_for PassesOwn.never rfl (pi_range1 (by rfl) T.b_range (pa_cons (pe_fld (pv 0) rfl) pa_nil)) (pg_name (i := 3) sc_Grid_leaving.nd rfl (by first | exact .inl rfl | exact .inr rfl))
      (pss_cons (ps_set (i := 4) sc_Grid_leaving.nd rfl (by first | exact .inl rfl | exact .inr rfl) (pe_ix ix_list (pe_fld (pv 0) rfl) (pv 3) (fun _ _ => rfl)))
      (pss_one (ps_if (PW.pt (pw_and (pt_cmpR op_gt (pe_ix ix_list (pv 4) (pv 1) (fun _ _ => rfl)) pe_int (nomark _)) (pw_and1 (PW.pt (pw_or (pt_cmpR op_isN (pv 2) pe_non (nomark _)) (pw_or1 (pt_val (pe_meth (pv 0) T.c_Grid T.m_Grid_is_ahead G_Grid_is_ahead (hr.mono (by decide)) b_Grid_is_ahead .nil pass0 (pa_cons (pv 3) (pa_cons (pv 2) (pa_cons (pv 1) pa_nil))))))))))) (pss_one (ps_set (i := 2) sc_Grid_leaving.nd rfl (by first | exact .inl rfl | exact .inr rfl) (pv 3))) pss_nil))))
      (pss_one (ps_ret (pv 2))))), ?_⟩
    have zn := z.n_
    have zm := z.m_
    refine ⟨_, rfl, p, _, dx, _, _, rfl, g.obj, T.c_Grid, T.n_Grid_many_lines, gf_many, _, rfl, (by omega), (by omega), for_r (fun i σ H' => H' = H ∧ ∃ u v, σ = [some (.ref p), some (.int c), some (optV (Sx.lv (n + m) s c i)), u, v]) ⟨rfl, _, _, rfl⟩ (fun i σ H' hi P => ?_) fun σ H' P => ?_⟩
    · have hi : i < m := hi
      obtain ⟨rfl, u, v, rfl⟩ := P
      refine ⟨_, rfl, p, _, dx, _, _, rfl, g.obj, T.c_Grid, T.n_Grid_lines, gf_lines, _, rfl, L, _, _, _, rfl, rfl, SqL.of g.lns, tab_at (by omega), ?_⟩
      refine ⟨_, rfl, _, rfl, r i, _, _, _, rfl, rfl, SqL.of (g.row i (by omega)), tab_at (by omega), _, _, rfl, rfl, _, rfl, ite2 (fun k => ?_) (fun k => ?_)⟩
      · have k' : 0 < s.T i c := of_decide_eq_true k
        cases e : Sx.lv (n + m) s c i with
        | none =>
          have e1 : Sx.lv (n + m) s c (i + 1) = some i := by
            show (if 0 < s.T i c ∧ (∀ b, Sx.lv (n + m) s c i = some b → Sx.ahead (n + m) s c i b = true) then some i else Sx.lv (n + m) s c i) = some i
            rw [if_pos ⟨k', fun b hb => by rw [e] at hb; cases hb⟩]
          refine ⟨_, rfl, rfl, _, rfl, ?_⟩
          exact ⟨_, rfl, rfl, _, _, by rw [e1]; rfl⟩
        | some b =>
          have hb := (Sx.lv_some e).1
          refine ⟨_, rfl, rfl, _, rfl, ?_⟩
          refine ⟨_, rfl, p, dx, _, rfl, g.obj, gf_no (by decide +kernel) (by decide +kernel) (by decide +kernel) (by decide +kernel) (by decide +kernel), ?_⟩
          refine ⟨_, rfl, _, rfl, _, rfl, p, n, m, s, dx, L, B, r, i, b, c, rfl, g, z, hi, by omega, hc, _, rfl, ite2 (fun k2 => ?_) (fun k2 => ?_)⟩
          · have e1 : Sx.lv (n + m) s c (i + 1) = some i := by
              show (if 0 < s.T i c ∧ (∀ b, Sx.lv (n + m) s c i = some b → Sx.ahead (n + m) s c i b = true) then some i else Sx.lv (n + m) s c i) = some i
              rw [if_pos ⟨k', fun b' hb' => by rw [e] at hb'; cases hb'; exact k2⟩]
            exact ⟨_, rfl, rfl, _, _, by rw [e1]; rfl⟩
          · have e1 : Sx.lv (n + m) s c (i + 1) = some b := by
              show (if 0 < s.T i c ∧ (∀ b, Sx.lv (n + m) s c i = some b → Sx.ahead (n + m) s c i b = true) then some i else Sx.lv (n + m) s c i) = some b
              rw [if_neg fun q => k2 (q.2 b e), e]
            exact ⟨rfl, _, _, by rw [e1]; rfl⟩
      · have k' : ¬ 0 < s.T i c := fun q => k (decide_eq_true q)
        have e1 : Sx.lv (n + m) s c (i + 1) = Sx.lv (n + m) s c i := by
          show (if 0 < s.T i c ∧ (∀ b, Sx.lv (n + m) s c i = some b → Sx.ahead (n + m) s c i b = true) then some i else Sx.lv (n + m) s c i) = Sx.lv (n + m) s c i
          rw [if_neg fun q => k' q.1]
        exact ⟨rfl, _, _, by rw [e1]; rfl⟩
    · obtain ⟨rfl, u, v, rfl⟩ := P
      exact ⟨_, rfl, q⟩
def spWeights (K : PySem.W.Frag) : Sp := fun vs H Q _ => ∃ (p : Addr) (n m : Nat) (s : Sx.St) (dx L B : Addr) (r : Nat → Addr), vs = [.ref p] ∧ GrAt K H p n m s dx L B r ∧ Szd n m s ∧
  ∀ H' D, Same H H' → H' D = some (.lst (tab n fun j => .int (Sx.fnd n m s m j))) → Q (.ref D) H'
theorem ok_Grid_weights_now (T : Ctx K mg h) : OkN P w K mg base 1 (He.ma K (He.ga K "Grid") "weights_now") ["self"] (spWeights K) := by
  refine okN (K := K) T.f_Grid_weights_now sc_Grid_weights_now (fun _ _ _ _ _ _ us hl => match us, hl with | [_], _ => rfl) (fun vs H Q E h => ?_) (fun cdv A outer s H vs Q E hr h => ?_)
  · obtain ⟨p, n, m, s, dx, L, B, r, rfl, g, z, q⟩ := h
    rfl
  · obtain ⟨p, n, m, s, dx, L, B, r, rfl, g, z, q⟩ := h
    refine ⟨_, PSs.nox (pss_cons (ps_setLc (i := 1) (own := [("at", 2)]) (g := gName 2) (by rfl) sc_Grid_weights_now.nd rfl rfl (sw_true rfl rfl rfl (by decide +kernel)) (pi_range1 (by rfl) T.b_range (pa_cons (pe_fld (pv 0) rfl) pa_nil)) (blkOk_by (own := [("at", 2)]) (N := N_Grid_weights_now) (sc := defScope s_Grid_weights_now) (by decide +kernel)) (fun _ _ _ _ _ => (pg_name (i := 2) sc_Grid_weights_now.nd rfl (by first | exact .inl rfl | exact .inr rfl))) (fun _ _ _ _ _ => pts_nil) (fun _ _ _ _ _ => pe_int))
      (pss_cons (ps_for PassesOwn.never rfl (pi_range1 (by rfl) T.b_range (pa_cons (pe_fld (pv 0) rfl) pa_nil)) (pg_name (i := 2) sc_Grid_weights_now.nd rfl (by first | exact .inl rfl | exact .inr rfl))
      (pss_one (ps_if (pt_cmpR op_lt (pe_ix ix_list (pe_fld (pv 0) rfl) (pv 2) (fun _ _ => rfl)) (pe_fld (pv 0) rfl) (nomark _)) (pss_one (ps_asg (pe_ix ix_list (pe_ix ix_list (pe_fld (pv 0) rfl) (pv 2) (fun _ _ => rfl)) (pe_un un_neg pe_int) (fun _ _ => rfl)) (pg_sub (pv 1) (pe_ix ix_list (pe_fld (pv 0) rfl) (pv 2) (fun _ _ => rfl)) set_list))) pss_nil)))
      (pss_one (ps_ret (pv 1))))), ?_⟩
    have zn := z.n_
    have zm := z.m_
    refine ⟨_, rfl, p, _, dx, _, _, rfl, g.obj, T.c_Grid, T.n_Grid_many_columns, gf_cols, _, rfl, (by omega), (by omega), fun D hD => lcq_r (n := n) (fun _ => .int 0) hD (Nat.le_trans zn (by decide)) (fun x hx H0 Nx Qe e k => ⟨rfl, k _ (Same.refl _)⟩) fun H1 e1 hD1 => ?_⟩
    have g1 := g.same e1
    refine ⟨_, rfl, p, _, dx, _, _, rfl, g1.obj, T.c_Grid, T.n_Grid_many_lines, gf_many, _, rfl, (by omega), (by omega), for_r (fun i σ H' => SameBut D H1 H' ∧ H' D = some (.lst (tab n fun j => .int (Sx.fnd n m s i j))) ∧ ∃ v, σ = [some (.ref p), some (.ref D), v])
      ⟨SameBut.refl _ _, hD1, _, rfl⟩ (fun i σ H' hi P => ?_) fun σ H' P => ?_⟩
    · have hi : i < m := hi
      obtain ⟨e2, hD2, v, rfl⟩ := P
      have nD : ∀ {b : Addr} {o : HO}, H b = some o → b ≠ D := fun hb => ne_of_none hb hD
      have g2 : GrAt K H' p n m s dx L B r := ⟨e2 _ _ (nD g.obj) g1.obj, e2 _ _ (nD g.lns) g1.lns, fun i hi => e2 _ _ (nD (g.row i hi)) (g1.row i hi), e2 _ _ (nD g.bas) g1.bas⟩
      refine ⟨_, rfl, p, _, dx, _, _, rfl, g2.obj, T.c_Grid, T.n_Grid_basis, gf_basis, _, rfl, B, _, _, _, rfl, rfl, SqL.of g2.bas, tab_at hi, ?_⟩
      refine ⟨_, rfl, p, _, dx, _, _, rfl, g2.obj, T.c_Grid, T.n_Grid_many_columns, gf_cols, _, _, rfl, rfl, _, rfl, ite2 (fun k => ?_) (fun k => ?_)⟩
      · have k' : ((s.bas i : Nat) : Int) < (n : Nat) := of_decide_eq_true k
        refine ⟨_, rfl, p, _, dx, _, _, rfl, g2.obj, T.c_Grid, T.n_Grid_lines, gf_lines, _, rfl, L, _, _, _, rfl, rfl, SqL.of g2.lns, tab_at (by omega), _, rfl, r i, _, _, _, rfl, rfl, SqL.of (g2.row i (by omega)), tab_last, ?_⟩
        refine ⟨_, rfl, _, rfl, p, _, dx, _, _, rfl, g2.obj, T.c_Grid, T.n_Grid_basis, gf_basis, _, rfl, B, _, _, _, rfl, rfl, SqL.of g2.bas, tab_at hi, ?_⟩
        have hx : ixN (tab n fun j => V.int (Sx.fnd n m s i j)).length ((s.bas i : Nat) : Int) = some (s.bas i) := by
          unfold ixN
          rw [if_pos (by omega), tab_length, if_pos (by omega)]
          rfl
        refine ⟨D, _, _, _, rfl, rfl, hD2, hx, SameBut.put e2, ?_, _, rfl⟩
        rw [upd_same, tab_set]
        congr 2
        refine tab_congr fun j hj => ?_
        show (if j = s.bas i then V.int (s.T i (n + m)) else V.int (Sx.fnd n m s i j)) = V.int (if s.bas i = j then s.T i (n + m) else Sx.fnd n m s i j)
        by_cases c : s.bas i = j
        · rw [if_pos c, if_pos c.symm]
        · rw [if_neg c, if_neg (Ne.symm c)]
      · have k' : ¬ ((s.bas i : Nat) : Int) < (n : Nat) := fun z => k (decide_eq_true z)
        refine ⟨e2, ?_, _, rfl⟩
        rw [hD2]
        congr 2
        refine tab_congr fun j hj => ?_
        show V.int (Sx.fnd n m s i j) = V.int (if s.bas i = j then s.T i (n + m) else Sx.fnd n m s i j)
        rw [if_neg (by omega)]
    · obtain ⟨e2, hD2, v, rfl⟩ := P
      exact ⟨_, rfl, q _ _ (fun b o hb => e2 b o (ne_of_none hb hD) (e1 b o hb)) hD2⟩
def spPointNow (K : PySem.W.Frag) : Sp := fun vs H Q _ => ∃ (p : Addr) (n m : Nat) (s : Sx.St) (dx L B : Addr) (r : Nat → Addr), vs = [.ref p] ∧ GrAt K H p n m s dx L B r ∧ Szd n m s ∧
  ∀ H' D, Same H H' → H' D = some (.lst (tab (m - 1) fun k => .int (s.T m (n + k) - s.d))) → Q (.ref D) H'
theorem ok_Grid_point_now (T : Ctx K mg h) : OkN P w K mg base 1 (He.ma K (He.ga K "Grid") "point_now") ["self"] (spPointNow K) := by
  refine okN (K := K) T.f_Grid_point_now sc_Grid_point_now (fun _ _ _ _ _ _ us hl => match us, hl with | [_], _ => rfl) (fun vs H Q E h => ?_) (fun cdv A outer s H vs Q E hr h => ?_)
  · obtain ⟨p, n, m, s, dx, L, B, r, rfl, g, z, q⟩ := h
    rfl
  · obtain ⟨p, n, m, s, dx, L, B, r, rfl, g, z, q⟩ := h
    refine ⟨_, PSs.nox (pss_cons (ps_set (i := 1) sc_Grid_point_now.nd rfl (by first | exact .inl rfl | exact .inr rfl) (pe_ix ix_list (pe_fld (pv 0) rfl) (pe_fld (pv 0) rfl) (fun _ _ => rfl)))
      (pss_one (ps_ret (pe_lc (own := [("at", 2)]) (g := gName 2) (by rfl) sc_Grid_point_now.nd (pi_range1 (by rfl) T.b_range (pa_cons (pe_op op_sub (pe_fld (pv 0) rfl) pe_int) pa_nil)) (blkOk_by (own := [("at", 2)]) (N := N_Grid_point_now) (sc := defScope s_Grid_point_now) (by decide +kernel)) (fun _ _ _ _ _ => (pg_name (i := 2) sc_Grid_point_now.nd rfl (by first | exact .inl rfl | exact .inr rfl))) (fun _ _ _ _ _ => pts_nil) (fun _ _ _ _ _ => (pe_op op_sub (pe_ix (ix_listC (K := K) rfl) (pv 1) (pe_op op_add (pe_fldC (K := K) rfl (pv 0) rfl) (pv 2)) (fun _ _ => rfl)) (pe_fldC (K := K) rfl (pv 0) rfl))))))), ?_⟩
    have zn := z.n_
    have zm := z.m_
    have z0 := z.m0
    refine ⟨_, rfl, p, _, dx, _, _, rfl, g.obj, T.c_Grid, T.n_Grid_lines, gf_lines, _, rfl, p, _, dx, _, _, rfl, g.obj, T.c_Grid, T.n_Grid_many_lines, gf_many, L, _, _, _, rfl, rfl, SqL.of g.lns, tab_at (Nat.lt_succ_self m), ?_⟩
    have em : ((m : Int) - 1).toNat = m - 1 := by omega
    refine ⟨_, rfl, p, _, dx, _, _, rfl, g.obj, T.c_Grid, T.n_Grid_many_lines, gf_many, _, _, rfl, rfl, _, rfl, (by omega), (by omega), ?_⟩
    rw [em]
    refine fun D hD => lcq_r (n := m - 1) (fun k => .int (s.T m (n + k) - s.d)) hD (Nat.le_trans (show m - 1 ≤ 100 by omega) (by decide)) (fun x hx H0 Nx Qe e k => ?_) fun H1 e1 hD1 => q _ _ e1 hD1
    have g1 := g.same e
    refine ⟨rfl, _, rfl, _, rfl, p, _, dx, _, _, rfl, g1.obj, T.c_Grid, T.n_Grid_many_columns, gf_cols, _, rfl, _, _, rfl, rfl, r m, _, ((n + x : Nat) : Int), _, rfl, by rw [Int.natCast_add], SqL.of (g1.row m (Nat.le_refl m)), tab_at (by omega), ?_⟩
    exact ⟨_, rfl, p, _, dx, _, _, rfl, g1.obj, T.c_Grid, T.n_Grid_scale, gf_scale, _, _, rfl, rfl, k _ (Same.refl _)⟩
end R35
namespace R35
open PySem PySem.Spec PyProof.Rows L2 RC
variable {P : Program} {w : World} {K : PySem.W.Frag} {mg : Str → Option Value} {base h : Heap}
def spRow (K : PySem.W.Frag) : Sp := fun vs H Q _ => ∃ (p a dx n m at_ : Nat) (f : Nat → V), vs = [.ref p, .ref a, .int at_] ∧ H p = some (.ins (He.ga K "Grid") dx [("many_columns", .int n), ("many_lines", .int m)]) ∧
  SqL K H a (tab n f) ∧ n ≤ 100 ∧ 0 < m ∧ m ≤ 9 ∧
  ∀ H' D, Same H H' → H D = none → H' D = some (.lst (tab (n + m + 1) fun j => if j < n then f j else if j < n + m then .int (if j - n = at_ then 1 else 0) else .int (if at_ + 1 = m then 1 else 0))) → Q (.ref D) H'
theorem ok_Grid_full_row (T : Ctx K mg h) : OkN P w K mg base 1 (He.ma K (He.ga K "Grid") "full_row") ["self", "factors", "at"] (spRow K) := by
  refine okN (K := K) T.f_Grid_full_row sc_Grid_full_row (fun _ _ _ _ _ _ us hl => match us, hl with | [_, _, _], _ => rfl) (fun vs H Q E h => ?_) (fun cdv A outer s H vs Q E hr h => ?_)
  · obtain ⟨p, a, dx, n, m, i, f, rfl, hp, hS, hn, h0, hm, q⟩ := h
    rfl
  · obtain ⟨p, a, dx, n, m, i, f, rfl, hp, hS, hn, h0, hm, q⟩ := h
    refine ⟨_, PSs.nox (pss_cons (ps_setLc (i := 3) (own := [("other", 4)]) (g := gName 4) (by rfl) sc_Grid_full_row.nd rfl rfl (sw_true rfl rfl rfl (by decide +kernel)) (pi_range1 (by rfl) T.b_range (pa_cons (pe_fld (pv 0) rfl) pa_nil)) (blkOk_by (own := [("other", 4)]) (N := N_Grid_full_row) (sc := defScope s_Grid_full_row) (by decide +kernel)) (fun _ _ _ _ _ => (pg_name (i := 4) sc_Grid_full_row.nd rfl (by first | exact .inl rfl | exact .inr rfl))) (fun _ _ _ _ _ => pts_nil) (fun _ _ _ _ _ => (pe_callTy call_int1 (by rfl) T.b_int (by decide +kernel) (pa_cons (pe_cmpR op_eq (pv 4) (pv 2) (nomark _)) pa_nil))))
      (pss_one (ps_ret (pe_lst (StX.pa_star (pv 1) (StX.pa_star (pv 3) (pa_cons (pe_callTy call_int1 (by rfl) T.b_int (by decide +kernel) (pa_cons (pe_cmpR op_eq (pv 2) (pe_op op_sub (pe_fld (pv 0) rfl) pe_int) (nomark _)) pa_nil)) pa_nil))))))), ?_⟩
    have em : ([("many_columns", V.int n), ("many_lines", V.int m)] : List (Str × V)).lookup ("many_lines" : Str) = some (.int m) := by
      rw [lookup_miss (by decide +kernel), lookup_hit]
    refine ⟨_, rfl, p, _, dx, _, _, rfl, hp, T.c_Grid, T.n_Grid_many_lines, em, _, rfl, (by omega), (by omega), fun D hD => lcq_r (n := m) (fun x => .int (if x = i then 1 else 0)) hD (Nat.le_trans hm (by decide)) (fun x hx H0 Nx Qe e k => ⟨rfl, _, rfl, _, rfl, rfl, .inr ⟨_, rfl, ?_⟩⟩) fun H1 e1 hD1 => ?_⟩
    · have k1 := k _ (Same.refl _)
      by_cases c : x = i
      · rw [if_pos c] at k1
        rw [decide_eq_true (show V.int (x : Nat) = V.int (i : Nat) by rw [c])]
        exact k1
      · rw [if_neg c] at k1
        rw [decide_eq_false (show ¬ V.int (x : Nat) = V.int (i : Nat) from fun z => c (Int.ofNat.inj (V.int.inj z)))]
        exact k1
    · refine ⟨_, rfl, a, _, rfl, .inr (Same.seqL e1 hS), _, rfl, D, _, rfl, .inr (SqL.of hD1), _, rfl, _, rfl, p, _, dx, _, _, rfl, e1 _ _ hp, T.c_Grid, T.n_Grid_many_lines, em, _, _, rfl, rfl, rfl, .inr ⟨_, rfl, ?_⟩⟩
      have ev : (if decide (V.int ((i : Nat) : Int) = V.int (((m : Nat) : Int) - 1)) = true then (1 : Int) else 0) = if i + 1 = m then 1 else 0 := by
        by_cases c : i + 1 = m
        · rw [if_pos c, if_pos (decide_eq_true (congrArg V.int (by omega)))]
        · rw [if_neg c, if_neg fun z => c (by
            have z := V.int.inj (of_decide_eq_true z)
            omega)]
      show (tab n f ++ (tab m _ ++ [V.int (if decide (V.int ((i : Nat) : Int) = V.int (((m : Nat) : Int) - 1)) = true then (1 : Int) else 0)])).length ≤ sizeLine ∧ _
      rw [ev, tab_one, tab_app, tab_app]
      refine ⟨by rw [tab_length]; exact Nat.le_trans (show n + (m + 1) ≤ 200 by omega) (by decide), fun l hl => q _ l (e1.trans (Same.new hl)) (e1.free hl) ?_⟩
      rw [upd_same, Nat.add_assoc]
      congr 2
      refine tab_congr fun j hj => ?_
      by_cases c1 : j < n
      · rw [if_pos c1, if_pos c1]
      · rw [if_neg c1, if_neg c1]
        by_cases c2 : j < n + m
        · rw [if_pos c2, if_pos (by omega)]
        · rw [if_neg c2, if_neg (by omega)]
theorem mid_row {n m : Nat} {f g : Nat → V} (h : ∀ j, j < n + m + 1 → f j = g j) : HO.lst (tab (n + m + 1) f) = .lst (tab (n + m + 1) g) := congrArg _ (tab_congr h)
def spTurn (K : PySem.W.Frag) : Sp := fun vs H Q _ => ∃ (p : Addr) (n m : Nat) (s : Sx.St) (dx L B : Addr) (r : Nat → Addr) (i c : Nat), vs = [.ref p, .int i, .int c] ∧ GrAt K H p n m s dx L B r ∧ Szd n m s ∧ i < m ∧ c < n ∧
  ∀ H' r', (∀ b o, b ≠ p → b ≠ L → b ≠ B → H b = some o → H' b = some o) → GrAt K H' p n m (Sx.turn m s i c) dx L B r' → Q .non H'
theorem ok_Grid_turn (T : Ctx K mg h) : OkN P w K mg base 1 (He.ma K (He.ga K "Grid") "turn") ["self", "at", "column"] (spTurn K) := by
  refine okN (K := K) T.f_Grid_turn sc_Grid_turn (fun _ _ _ _ _ _ us hl => match us, hl with | [_, _, _], _ => rfl) (fun vs H Q E h => ?_) (fun cdv A outer s H vs Q E hr h => ?_)
  · obtain ⟨p, n, m, s, dx, L, B, r, i, c, rfl, g, z, hi, hc, q⟩ := h
    rfl
  · obtain ⟨p, n, m, s, dx, L, B, r, i, c, rfl, g, z, hi, hc, q⟩ := h
    refine ⟨_, PSs.nox (pss_cons (ps_asg (pe_tup (pa_cons (pe_ix ix_list (pe_ix ix_list (pe_fld (pv 0) rfl) (pv 1) (fun _ _ => rfl)) (pv 2) (fun _ _ => rfl)) (pa_cons (pe_ix ix_list (pe_fld (pv 0) rfl) (pv 1) (fun _ _ => rfl)) pa_nil))) (pg_tup (n := 2) rfl (pgs_cons (pg_name (i := 3) sc_Grid_turn.nd rfl (by first | exact .inl rfl | exact .inr rfl)) (pgs_cons (pg_name (i := 4) sc_Grid_turn.nd rfl (by first | exact .inl rfl | exact .inr rfl)) pgs_nil))))
      (pss_cons (ps_for PassesOwn.never rfl (pi_range1 (by rfl) T.b_range (pa_cons (pe_op op_add (pe_fld (pv 0) rfl) pe_int) pa_nil)) (pg_name (i := 5) sc_Grid_turn.nd rfl (by first | exact .inl rfl | exact .inr rfl))
      (pss_one (ps_if (pt_cmpR op_ne (pv 5) (pv 1) (nomark _)) (pss_cons (ps_set (i := 6) sc_Grid_turn.nd rfl (by first | exact .inl rfl | exact .inr rfl) (pe_ix ix_list (pe_fld (pv 0) rfl) (pv 5) (fun _ _ => rfl)))
      (pss_cons (ps_set (i := 7) sc_Grid_turn.nd rfl (by first | exact .inl rfl | exact .inr rfl) (pe_ix ix_list (pv 6) (pv 2) (fun _ _ => rfl)))
      (pss_one (ps_asg (pe_lc (own := [("x", 8), ("y", 9)]) (by rfl) sc_Grid_turn.nd (pi_zipM false false (by rfl) T.b_zip (pa_cons (pv 6) (pa_cons (pv 4) pa_nil))) (blkOk_by (own := [("x", 8), ("y", 9)]) (N := N_Grid_turn) (sc := defScope s_Grid_turn) (by decide +kernel)) (fun _ _ _ _ _ => (pg_tupC (K := K) rfl (n := 2) rfl (pgs_cons (pg_name (i := 8) sc_Grid_turn.nd rfl (by first | exact .inl rfl | exact .inr rfl)) (pgs_cons (pg_name (i := 9) sc_Grid_turn.nd rfl (by first | exact .inl rfl | exact .inr rfl)) pgs_nil)))) (fun _ _ _ _ _ => pts_nil) (fun _ _ _ _ _ => (pe_op op_fdivW (pe_op op_sub (pe_op op_mulW (pv 3) (pv 8)) (pe_op op_mulW (pv 7) (pv 9))) (pe_fldC (K := K) rfl (pv 0) rfl)))) (pg_sub (pe_fld (pv 0) rfl) (pv 5) set_list))))) pss_nil)))
      (pss_cons (ps_fld (pv 0) (pv 3) rfl)
      (pss_one (ps_asg (pv 2) (pg_sub (pe_fld (pv 0) rfl) (pv 1) set_list)))))), ?_⟩
    have zn := z.n_
    have zm := z.m_
    have z0 := z.m0
    refine ⟨_, rfl, p, _, dx, _, _, rfl, g.obj, T.c_Grid, T.n_Grid_lines, gf_lines, _, rfl, L, _, _, _, rfl, rfl, SqL.of g.lns, tab_at (by omega), _, rfl, r i, _, _, _, rfl, rfl, SqL.of (g.row i (by omega)), tab_at (by omega), ?_⟩
    refine ⟨_, rfl, p, _, dx, _, _, rfl, g.obj, T.c_Grid, T.n_Grid_lines, gf_lines, _, rfl, L, _, _, _, rfl, rfl, SqL.of g.lns, tab_at (by omega), (by show 2 ≤ sizeLine; decide), fun t ht => ⟨t, _, rfl, SqT.of upd_same, rfl, _, _, rfl, _, _, rfl, rfl, ?_⟩⟩
    have e1 : Same H (upd H t (.tup [.int (s.T i c), .ref (r i)])) := Same.new ht
    have g1 := g.same e1
    have em : (((m : Nat) : Int) + 1).toNat = m + 1 := by omega
    refine ⟨_, rfl, p, _, dx, _, _, rfl, g1.obj, T.c_Grid, T.n_Grid_many_lines, gf_many, _, _, rfl, rfl, _, rfl, (by omega), (by omega), ?_⟩
    rw [em]
    have nw : ∀ a j : Nat, ∃ v : Int, v = (s.T i c * s.T a j - s.T a c * s.T i j) / s.d := fun a j => ⟨_, rfl⟩
    let md : Nat → Sx.St := fun k => ⟨fun a j => if a < k ∧ a ≠ i then (s.T i c * s.T a j - s.T a c * s.T i j) / s.d else s.T a j, s.bas, s.d⟩
    refine for_r (fun k σ H' => ∃ u v y r', σ = [some (.ref p), some (.int i), some (.int c), some (.int (s.T i c)), some (.ref (r i)), u, v, y, none, none] ∧ (∀ b o, b ≠ p → b ≠ L → b ≠ B → H b = some o → H' b = some o) ∧ GrAt K H' p n m (md k) dx L B r' ∧ r' i = r i)
      ⟨none, none, none, r, rfl, fun b o _ _ _ hb => e1 b o hb, ⟨g1.obj, g1.lns, fun a ha => ?_, g1.bas⟩, rfl⟩ (fun k σ H' hk P => ?_) fun σ H' P => ?_
    · rw [g1.row a ha]
      refine congrArg some (mid_row fun j hj => ?_)
      show V.int (s.T a j) = V.int (if a < 0 ∧ a ≠ i then (s.T i c * s.T a j - s.T a c * s.T i j) / s.d else s.T a j)
      rw [if_neg fun q => absurd q.1 (by omega)]
    · obtain ⟨u, v, y, r', rfl, fr, g2, hr'⟩ := P
      refine ⟨_, rfl, _, rfl, rfl, _, rfl, ?_⟩
      by_cases ek : k = i
      · refine iteNS (by rw [ek]) ⟨_, _, _, r', rfl, fr, ⟨g2.obj, g2.lns, fun a ha => ?_, g2.bas⟩, hr'⟩
        rw [g2.row a ha]
        refine congrArg some (mid_row fun j hj => ?_)
        show V.int (if a < k ∧ a ≠ i then (s.T i c * s.T a j - s.T a c * s.T i j) / s.d else s.T a j) = V.int (if a < k + 1 ∧ a ≠ i then (s.T i c * s.T a j - s.T a c * s.T i j) / s.d else s.T a j)
        by_cases c1 : a < k ∧ a ≠ i
        · rw [if_pos c1, if_pos ⟨by omega, c1.2⟩]
        · rw [if_neg c1, if_neg fun q => c1 ⟨by omega, q.2⟩]
      · refine iteNT (fun z => ek (Int.ofNat.inj (V.int.inj z))) ?_
        have rk : H' (r' k) = some (.lst (tab (n + m + 1) fun j => .int (s.T k j))) := by
          rw [g2.row k (by omega)]
          refine congrArg some (mid_row fun j hj => ?_)
          show V.int (if k < k ∧ k ≠ i then (s.T i c * s.T k j - s.T k c * s.T i j) / s.d else s.T k j) = _
          rw [if_neg fun q => absurd q.1 (by omega)]
        have ri : H' (r i) = some (.lst (tab (n + m + 1) fun j => .int (s.T i j))) := by
          rw [← hr', g2.row i (by omega)]
          refine congrArg some (mid_row fun j hj => ?_)
          show V.int (if i < k ∧ i ≠ i then (s.T i c * s.T i j - s.T i c * s.T i j) / s.d else s.T i j) = _
          rw [if_neg fun q => q.2 rfl]
        have mul : ∀ a j a' j' : Nat, a ≤ m → j ≤ n + m → a' ≤ m → j' ≤ n + m → CMulW (s.T a j) (s.T a' j') := fun a j a' j' h1 h2 h3 h4 => wide_mul (z.tz a h1 j h2) (z.tz a' h3 j' h4) (by decide) (by decide) (by decide)
        refine ⟨_, rfl, p, _, dx, _, _, rfl, g2.obj, T.c_Grid, T.n_Grid_lines, gf_lines, _, rfl, L, _, _, _, rfl, rfl, SqL.of g2.lns, tab_at (by omega), ?_⟩
        refine ⟨_, rfl, _, rfl, r' k, _, _, _, rfl, rfl, SqL.of rk, tab_at (by omega), ?_⟩
        refine ⟨_, rfl, _, rfl, r' k, r i, _, _, rfl, SqL.of rk, SqL.of ri, fun D hD => lcq_zip (n := n + m + 1) (ta := false) (tb := false) (fun j => .int (s.T k j)) (fun j => .int (s.T i j)) (fun j => .int ((s.T i c * s.T k j - s.T k c * s.T i j) / s.d)) hD (Nat.le_trans (show n + m + 1 ≤ 200 by omega) (by decide)) (SqL.of rk) (SqL.of ri) (fun x hx t0 H0 e0 ht0 H5 Nx Qe e5 kk => ?_) fun H6 e6 hD6 => ?_⟩
        · have o5 := e5 _ _ (Same.new ht0 _ _ (e0 _ _ g2.obj))
          refine ⟨t0, _, rfl, SqT.of (e5 _ _ upd_same), rfl, _, _, rfl, _, _, rfl, rfl, rfl, _, rfl, _, rfl, _, _, rfl, rfl, mul i c k x (by omega) (by omega) (by omega) (by omega), ?_⟩
          refine ⟨_, rfl, _, rfl, _, _, rfl, rfl, mul k c i x (by omega) (by omega) (by omega) (by omega), _, _, rfl, rfl, ?_⟩
          exact ⟨_, rfl, p, _, dx, _, _, rfl, o5, T.c_Grid, T.n_Grid_scale, gf_scale, _, _, rfl, rfl, wide_div z.d_ z.dz (by decide) (by decide), kk _ (Same.refl _)⟩
        · have g6 := g2.same e6
          have pL : p ≠ L := ne_of g6.obj g6.lns (by intro z; cases z)
          have rL : ∀ a, a ≤ m → r' a ≠ L := fun a ha => ne_of (g6.row a ha) g6.lns (tab_ne (by omega) (by omega) (by intro z; cases z))
          have bL : B ≠ L := ne_of g6.bas g6.lns (tab_ne (by omega) (by omega) (by intro z; cases z))
          have DL : D ≠ L := (ne_of_none g2.lns hD).symm
          refine ⟨_, rfl, p, _, dx, _, _, rfl, g6.obj, T.c_Grid, T.n_Grid_lines, gf_lines, _, rfl, L, _, _, _, rfl, rfl, g6.lns, ix_of (n := m + 1) (by omega) tab_length, ?_⟩
          refine ⟨_, _, _, fun a => if a = k then D else r' a, rfl, fun b o h1 h2 h3 hb => ?_, ⟨?_, ?_, fun a ha => ?_, ?_⟩, ?_⟩
          · rw [upd_ne h2]
            exact e6 _ _ (fr b o h1 h2 h3 hb)
          · rw [upd_ne pL]
            exact g6.obj
          · rw [upd_same, tab_set]
            refine congrArg some (congrArg HO.lst (tab_congr fun a ha => ?_))
            show (if a = k then V.ref D else V.ref (r' a)) = V.ref (if a = k then D else r' a)
            by_cases ca : a = k
            · rw [if_pos ca, if_pos ca]
            · rw [if_neg ca, if_neg ca]
          · show upd H6 L _ (if a = k then D else r' a) = _
            by_cases ca : a = k
            · rw [if_pos ca, upd_ne DL, hD6]
              refine congrArg some (mid_row fun j hj => ?_)
              show _ = V.int (if a < k + 1 ∧ a ≠ i then (s.T i c * s.T a j - s.T a c * s.T i j) / s.d else s.T a j)
              rw [if_pos ⟨by omega, by rw [ca]; exact ek⟩, ca]
            · rw [if_neg ca, upd_ne (rL a ha), g6.row a ha]
              refine congrArg some (mid_row fun j hj => ?_)
              show V.int (if a < k ∧ a ≠ i then (s.T i c * s.T a j - s.T a c * s.T i j) / s.d else s.T a j) = V.int (if a < k + 1 ∧ a ≠ i then (s.T i c * s.T a j - s.T a c * s.T i j) / s.d else s.T a j)
              by_cases c1 : a < k ∧ a ≠ i
              · rw [if_pos c1, if_pos ⟨by omega, c1.2⟩]
              · rw [if_neg c1, if_neg fun q => c1 ⟨by omega, q.2⟩]
          · rw [upd_ne bL]
            exact g6.bas
          · show (if i = k then D else r' i) = r i
            rw [if_neg (Ne.symm ek)]
            exact hr'
    · obtain ⟨u, v, y, r', rfl, fr, g2, hr'⟩ := P
      have pL : p ≠ L := ne_of g2.obj g2.lns (by intro z; cases z)
      have pB : p ≠ B := ne_of g2.obj g2.bas (by intro z; cases z)
      have bL : B ≠ L := ne_of g2.bas g2.lns (tab_ne (by omega) (by omega) (by intro z; cases z))
      have rB : ∀ a, a ≤ m → r' a ≠ B := fun a ha => ne_of (g2.row a ha) g2.bas (tab_nel (by omega))
      have rp : ∀ a, a ≤ m → r' a ≠ p := fun a ha => ne_of (g2.row a ha) g2.obj (by intro z; cases z)
      refine ⟨_, rfl, _, rfl, p, _, dx, _, rfl, g2.obj, T.c_Grid, T.n_Grid_scale, (by show 5 < 1000; decide), ?_⟩
      rw [gf_put]
      have b3 := (upd_ne (o := HO.ins (He.ga K "Grid") dx (gf n m L B (s.T i c))) pB.symm).trans g2.bas
      refine ⟨_, rfl, _, rfl, p, _, dx, _, _, rfl, upd_same, T.c_Grid, T.n_Grid_basis, gf_basis, _, rfl, B, _, _, _, rfl, rfl, b3, ix_of (n := m) hi tab_length, ?_⟩
      refine q _ r' (fun b o h1 h2 h3 hb => ?_) ⟨?_, ?_, fun a ha => ?_, ?_⟩
      · rw [upd_ne h3, upd_ne h1]
        exact fr b o h1 h2 h3 hb
      · rw [upd_ne pB, upd_same]
        rfl
      · rw [upd_ne bL.symm, upd_ne pL.symm]
        exact g2.lns
      · rw [upd_ne (rB a ha), upd_ne (rp a ha), g2.row a ha]
        refine congrArg some (mid_row fun j hj => ?_)
        show V.int (if a < m + 1 ∧ a ≠ i then (s.T i c * s.T a j - s.T a c * s.T i j) / s.d else s.T a j) = V.int (if a = i then s.T i j else (s.T i c * s.T a j - s.T a c * s.T i j) / s.d)
        by_cases c1 : a = i
        · rw [if_neg fun q => q.2 c1, if_pos c1, c1]
        · rw [if_pos ⟨by omega, c1⟩, if_neg c1]
      · rw [upd_same, tab_set]
        refine congrArg some (congrArg HO.lst (tab_congr fun a ha => ?_))
        show (if a = i then V.int c else V.int (s.bas a : Nat)) = V.int ((if a = i then c else s.bas a : Nat) : Int)
        by_cases c1 : a = i
        · rw [if_pos c1, if_pos c1]
        · rw [if_neg c1, if_neg c1]
end R35
namespace R35
open PySem PySem.Spec PyProof.Rows L2 RC
variable {P : Program} {w : World} {K : PySem.W.Frag} {mg : Str → Option Value} {base h : Heap}
/-- the bounds' columns -/
def Rf (F : Nat → List Int) (S : Nat → Bool) (many k j : Nat) : Int := if k < many then (F j).getD k 0 else if S j then 1 else 0
/-- the goal line at the start -/
theorem goal_first {R : Nat → Nat → Int} {n m j : Nat} (h0 : 0 < m) (hj : j < n + m + 1) :
    (if j < n then -(((List.range m).map fun k => R k j).sum) else if j < n + m then 0 else -1) = Sx.hlp n m j - Sx.sm (fun k => Sx.A0 R n m k j) m := by
  unfold Sx.hlp
  by_cases c1 : j < n
  · have e : Sx.sm (fun k => Sx.A0 R n m k j) m = Sx.sm (fun k => R k j) m := Sx.sm_congr fun k _ => by
      unfold Sx.A0
      rw [if_pos c1]
    rw [if_pos c1, if_neg (by omega), sum_sm, e]
    omega
  · rw [if_neg c1]
    by_cases c2 : j < n + m
    · rw [if_pos c2, if_pos (by omega), Sx.sm_one (i := j - n) (by omega) fun k hk hne => by
        unfold Sx.A0
        rw [if_neg c1, if_pos c2, if_neg (Ne.symm hne)]]
      unfold Sx.A0
      rw [if_neg c1, if_pos c2, if_pos rfl]
      rfl
    · rw [if_neg c2, if_neg (by omega), Sx.sm_one (i := m - 1) (by omega) fun k hk hne => by
        unfold Sx.A0
        rw [if_neg c1, if_neg c2, if_neg (by omega)]]
      unfold Sx.A0
      rw [if_neg c1, if_neg c2, if_pos (by omega)]
      rfl
theorem BsAt.but {H H' : Hp} {a q C dx : Addr} {t : Bool} {n many : Nat} {p : Nat → Addr} {F : Nat → List Int} {S : Nat → Bool} (B : BsAt K H a t n many p F S) (hq : H q = some (.ins C dx [])) (e : SameBut q H H') : BsAt K H' a t n many p F S :=
  ⟨seqB_but e hq (fun _ z => by cases z) (fun _ _ z => by cases z) (fun _ z => by cases z) B.lst, fun j hj => by
    obtain ⟨dx', t', h1, h2⟩ := B.itm j hj
    exact ⟨dx', t', e _ _ (ne_of h1 hq fun z => by injection z with _ _ e; cases e) h1, seqT_but e hq (fun _ z => by cases z) (fun _ _ z => by cases z) h2⟩, B.len⟩
def spGridInit (K : PySem.W.Frag) : Sp := fun vs H Q _ => ∃ (p a dx : Addr) (t : Bool) (n many : Nat) (pf : Nat → Addr) (F : Nat → List Int) (S : Nat → Bool), vs = [.ref p, .ref a, .int many] ∧ H p = some (.ins (He.ga K "Grid") dx []) ∧ n ≤ 100 ∧ many ≤ 8 ∧ BsAt K H a t n many pf F S ∧
  ∀ H' L B r, SameBut p H H' → H L = none → H B = none → GrAt K H' p n (many + 1) (Sx.first (Rf F S many) n (many + 1)) dx L B r → Q .non H'
theorem ok_Grid_init (T : Ctx K mg h) : OkN P w K mg base 2 (He.ma K (He.ga K "Grid") "__init__") ["self", "bounds", "many"] (spGridInit K) := by
  obtain ⟨_, G_Grid_full_row, b_Grid_full_row, k_Grid_full_row⟩ := ok_Grid_full_row (P := P) (w := w) (base := base) T
  refine okN (K := K) T.f_Grid_init sc_Grid_init (fun _ _ _ _ _ _ us hl => match us, hl with | [_, _, _], _ => rfl) (fun vs H Q E h => ?_) (fun cdv A outer s H vs Q E hr h => ?_)
  · obtain ⟨p, a, dx, t, n, many, pf, F, S, rfl, hp, hn, hm, B, q⟩ := h
    rfl
  · obtain ⟨p, a, dx, t, n, many, pf, F, S, rfl, hp, hn, hm, B, q⟩ := h
    refine ⟨_, PSs.nox (pss_cons (ps_fld (pv 0) (pe_callB call_len_seq (by rfl) T.b_len (by decide +kernel) (pa_cons (pv 1) pa_nil)) rfl)
      (pss_cons (ps_fld (pv 0) (pe_op op_add (pv 2) pe_int) rfl)
      (pss_cons (ps_set (i := 3) sc_Grid_init.nd rfl (by first | exact .inl rfl | exact .inr rfl) (pe_lc (own := [("at", 6)]) (g := gName 6) (by rfl) sc_Grid_init.nd (pi_range1 (by rfl) T.b_range (pa_cons (pv 2) pa_nil)) (blkOk_by (own := [("at", 6)]) (N := N_Grid_init) (sc := defScope s_Grid_init) (by decide +kernel)) (fun _ _ _ _ _ => (pg_name (i := 6) sc_Grid_init.nd rfl (by first | exact .inl rfl | exact .inr rfl))) (fun _ _ _ _ _ => pts_nil) (fun _ _ _ _ _ => (pe_lc (own := [("bound", 5)]) (g := gName 5) (by rfl) sc_Grid_init.nd (pi_seqBC (K := K) rfl t (pv 1)) (blkOk_by (own := [("bound", 5)]) (N := N_Grid_init) (sc := scOf (defScope s_Grid_init) (exOf (stAt (defBody s_Grid_init) [2]))) (by decide +kernel)) (fun _ _ _ _ _ => (pg_name (i := 5) sc_Grid_init.nd rfl (by first | exact .inl rfl | exact .inr rfl))) (fun _ _ _ _ _ => pts_nil) (fun _ _ _ _ _ => (pe_ix (ix_tupC (K := K) rfl) (pe_fldC (K := K) rfl (pv 5) rfl) (pv 6) (fun _ _ => rfl)))))))
      (pss_cons (ps_expr (pe_bm PySem.F.plainAttrs_list PySem.F.slot_list_append PySem.F.type_list_append mt_append (pv 3) (pa_cons (pe_lc (own := [("bound", 5)]) (g := gName 5) (by rfl) sc_Grid_init.nd (pi_seqB t (pv 1)) (blkOk_by (own := [("bound", 5)]) (N := N_Grid_init) (sc := defScope s_Grid_init) (by decide +kernel)) (fun _ _ _ _ _ => (pg_name (i := 5) sc_Grid_init.nd rfl (by first | exact .inl rfl | exact .inr rfl))) (fun _ _ _ _ _ => pts_nil) (fun _ _ _ _ _ => (pe_callTy call_int1 (by rfl) T.b_int (by decide +kernel) (pa_cons (pe_fldC (K := K) rfl (pv 5) rfl) pa_nil)))) pa_nil)))
      (pss_cons (ps_fld (pv 0) (pe_lc (own := [("at", 6)]) (g := gName 6) (by rfl) sc_Grid_init.nd (pi_range1 (by rfl) T.b_range (pa_cons (pe_fld (pv 0) rfl) pa_nil)) (blkOk_by (own := [("at", 6)]) (N := N_Grid_init) (sc := defScope s_Grid_init) (by decide +kernel)) (fun _ _ _ _ _ => (pg_name (i := 6) sc_Grid_init.nd rfl (by first | exact .inl rfl | exact .inr rfl))) (fun _ _ _ _ _ => pts_nil) (fun _ _ _ _ _ => (pe_meth (pv 0) T.c_Grid T.m_Grid_full_row G_Grid_full_row (hr.mono (by decide)) b_Grid_full_row .nil pass0 (pa_cons (pe_ix (ix_listC (K := K) rfl) (pv 3) (pv 6) (fun _ _ => rfl)) (pa_cons (pv 6) pa_nil))))) rfl)
      (pss_cons (ps_setLc (i := 4) (own := [("at", 6)]) (g := gName 6) (by rfl) sc_Grid_init.nd rfl rfl (sw_true rfl rfl rfl (by decide +kernel)) (pi_range1 (by rfl) T.b_range (pa_cons (pe_fld (pv 0) rfl) pa_nil)) (blkOk_by (own := [("at", 6)]) (N := N_Grid_init) (sc := defScope s_Grid_init) (by decide +kernel)) (fun _ _ _ _ _ => (pg_name (i := 6) sc_Grid_init.nd rfl (by first | exact .inl rfl | exact .inr rfl))) (fun _ _ _ _ _ => pts_nil) (fun _ _ _ _ _ => (pe_un un_neg (pe_callB (cr_sumC (K := K) rfl rfl) (by rfl) T.b_sum (by decide +kernel) (pa_cons (pe_lc (own := [("row", 7)]) (g := gName 7) (by rfl) sc_Grid_init.nd (pi_listC (K := K) rfl  (pv 3)) (blkOk_by (own := [("row", 7)]) (N := N_Grid_init) (sc := scOf (defScope s_Grid_init) (exOf (stAt (defBody s_Grid_init) [5]))) (by decide +kernel)) (fun _ _ _ _ _ => (pg_name (i := 7) sc_Grid_init.nd rfl (by first | exact .inl rfl | exact .inr rfl))) (fun _ _ _ _ _ => pts_nil) (fun _ _ _ _ _ => (pe_ix (ix_listC (K := K) rfl) (pv 7) (pv 6) (fun _ _ => rfl)))) pa_nil)))))
      (pss_cons (ps_expr (pe_bm PySem.F.plainAttrs_list PySem.F.slot_list_append PySem.F.type_list_append mt_append (pe_fld (pv 0) rfl) (pa_cons (pe_lst (StX.pa_star (pv 4) (StX.pa_star (pe_lc (own := [("at", 6)]) (g := gName 6) (by rfl) sc_Grid_init.nd (pi_range1 (by rfl) T.b_range (pa_cons (pe_fld (pv 0) rfl) pa_nil)) (blkOk_by (own := [("at", 6)]) (N := N_Grid_init) (sc := defScope s_Grid_init) (by decide +kernel)) (fun _ _ _ _ _ => (pg_name (i := 6) sc_Grid_init.nd rfl (by first | exact .inl rfl | exact .inr rfl))) (fun _ _ _ _ _ => pts_nil) (fun _ _ _ _ _ => pe_int)) (pa_cons (pe_un un_neg pe_int) pa_nil)))) pa_nil)))
      (pss_cons (ps_fld (pv 0) (pe_lc (own := [("at", 6)]) (g := gName 6) (by rfl) sc_Grid_init.nd (pi_range1 (by rfl) T.b_range (pa_cons (pe_fld (pv 0) rfl) pa_nil)) (blkOk_by (own := [("at", 6)]) (N := N_Grid_init) (sc := defScope s_Grid_init) (by decide +kernel)) (fun _ _ _ _ _ => (pg_name (i := 6) sc_Grid_init.nd rfl (by first | exact .inl rfl | exact .inr rfl))) (fun _ _ _ _ _ => pts_nil) (fun _ _ _ _ _ => (pe_op op_add (pe_fldC (K := K) rfl (pv 0) rfl) (pv 6)))) rfl)
      (pss_one (ps_fld (pv 0) pe_int rfl)))))))))), ?_⟩
    have sz : ∀ {k : Nat}, k ≤ 200 → k ≤ sizeLine := fun h => Nat.le_trans h (by decide)
    refine ⟨_, rfl, a, _, rfl, lenB B.lst, _, rfl, p, _, dx, _, rfl, hp, T.c_Grid, T.n_Grid_many_columns, (by show 0 < 1000; decide), ?_⟩
    rw [tab_length]
    refine ⟨_, rfl, _, _, rfl, rfl, _, rfl, p, _, dx, _, rfl, upd_same, T.c_Grid, T.n_Grid_many_lines, (by show 1 < 1000; decide), ?_⟩
    have fs2 : putF "many_lines" (V.int ((many : Int) + 1)) (putF "many_columns" (V.int (n : Nat)) []) = ([("many_columns", V.int (n : Nat)), ("many_lines", V.int ((many + 1 : Nat) : Int))] : List (Str × V)) := by
      rw [putF_nil, putF_miss (by decide +kernel), putF_nil]
      rfl
    rw [fs2]
    have lk_m : ([("many_columns", V.int (n : Nat)), ("many_lines", V.int ((many + 1 : Nat) : Int))] : List (Str × V)).lookup ("many_lines" : Str) = some (.int ((many + 1 : Nat) : Int)) := by
      rw [lookup_miss (by decide +kernel), lookup_hit]
    have lk_r : ([("many_columns", V.int (n : Nat)), ("many_lines", V.int ((many + 1 : Nat) : Int))] : List (Str × V)).lookup ("full_row" : Str) = none := by
      rw [lookup_miss (by decide +kernel), lookup_miss (by decide +kernel)]
      rfl
    generalize hH1 : upd (upd H p (HO.ins (He.ga K "Grid") dx (putF "many_columns" (V.int (n : Nat)) []))) p (HO.ins (He.ga K "Grid") dx [("many_columns", V.int (n : Nat)), ("many_lines", V.int ((many + 1 : Nat) : Int))]) = H1
    have e01 : SameBut p H H1 := by
      rw [← hH1]
      exact SameBut.put (SameBut.put (SameBut.refl _ _))
    have o1 : H1 p = some (.ins (He.ga K "Grid") dx [("many_columns", V.int (n : Nat)), ("many_lines", V.int ((many + 1 : Nat) : Int))]) := by
      rw [← hH1]
      exact upd_same
    have B1 := B.but hp e01
    -- rows
    refine ⟨_, rfl, _, rfl, (by omega), (by omega), fun D hD => lcx (walk_r (n := many)) (fun i H' => Same H1 H') (fun i v H' => ∃ r, v = .ref r ∧ r ≠ D ∧ H' r = some (.lst (tab n fun j => .int ((F j).getD i 0)))) hD (sz (by omega))
      (fun i H' o I => Same.upd I hD) (fun i v H' o ⟨r, e, hne, hr⟩ => ⟨r, e, hne, by rw [upd_ne hne]; exact hr⟩) (Same.refl _) (fun _ _ _ _ => True.intro) (fun i x H2 H3 acc Qe hi I hacc hlen Y k => ?_) mono_yes mono_name fun H2 acc I2 hacc hlen hp2 => ?_⟩
    · obtain ⟨rfl, rfl⟩ := Y
      refine ⟨rfl, _, rfl, a, rfl, ⟨_, (B1.same I).lst⟩, fun D2 hD2 => lcq_seqB (t := t) (n := n) (fun j => .ref (pf j)) (fun j => .int ((F j).getD i 0)) hD2 (sz (by omega)) (B1.same I).lst (fun j hj H5 Nx Qf e5 kk => ?_) fun H5 e5 hD5 => ?_⟩
      · obtain ⟨dx', t', h1, h2⟩ := (B1.same (I.trans e5)).itm j hj
        rw [tab_of] at h2
        exact ⟨rfl, _, rfl, pf j, _, dx', _, _, rfl, h1, T.c_Bound, T.n_Bound_form, bfs_form _ _, _, rfl, t', _, _, _, rfl, rfl, h2, tab_at (by rw [B1.len j hj]; exact hi), kk _ (Same.refl _)⟩
      · exact k (.ref D2) H5 (I.trans e5) (e5 _ _ hacc) ⟨D2, rfl, (ne_of_none hacc hD2).symm, hD5⟩ fun j u _ ⟨r, e, hne, hr⟩ => ⟨r, e, hne, e5 _ _ hr⟩
    obtain ⟨rr, rfl, hrr⟩ := acc_refs hlen hp2
    have B2 := B1.same I2
    -- rows.append(..)
    refine ⟨_, rfl, .inl ⟨rfl, _, SqL.of hacc⟩, _, rfl, a, rfl, ⟨_, B2.lst⟩, fun D3 hD3 => lcq_seqB (t := t) (n := n) (fun j => .ref (pf j)) (fun j => .int (if S j then 1 else 0)) hD3 (sz (by omega)) B2.lst (fun j hj H5 Nx Qf e5 kk => ?_) fun H4 e4 hD4 => ?_⟩
    · obtain ⟨dx', t', h1, h2⟩ := (B2.same e5).itm j hj
      exact ⟨rfl, _, rfl, pf j, _, dx', _, _, rfl, h1, T.c_Bound, T.n_Bound_is_strict, bfs_strict _ _, .inr ⟨_, rfl, kk _ (Same.refl _)⟩⟩
    refine ⟨D, _, _, rfl, rfl, e4 _ _ hacc, by rw [tab_length]; exact Nat.lt_of_le_of_lt (show many ≤ 8 by omega) (by decide), ?_⟩
    rw [tab_one (v := V.ref D3), tab_app]
    have m1 : ∀ i, i < many + 1 → ∃ r1 : Addr, r1 ≠ D ∧ (if i < many then V.ref (rr i) else V.ref D3) = .ref r1 ∧ H4 r1 = some (.lst (tab n fun j => .int (Rf F S many i j))) := fun i hi => by
      unfold Rf
      by_cases c : i < many
      · rw [if_pos c]
        refine ⟨rr i, (hrr i c).1, rfl, ?_⟩
        rw [e4 _ _ (hrr i c).2]
        refine congrArg some (congrArg HO.lst (tab_congr fun j hj => ?_))
        rw [if_pos c]
      · rw [if_neg c]
        refine ⟨D3, (ne_of_none hacc hD3).symm, rfl, ?_⟩
        rw [hD4]
        refine congrArg some (congrArg HO.lst (tab_congr fun j hj => ?_))
        rw [if_neg c]
    obtain ⟨r1, hr1, m2⟩ := acc_refs (n := many + 1) (acc := tab (many + 1) fun i => if i < many then V.ref (rr i) else V.ref D3) (R := fun i r => r ≠ D ∧ H4 r = some (.lst (tab n fun j => .int (Rf F S many i j)))) tab_length (fun i v hv => by
      obtain ⟨hi, rfl⟩ := tab_inv hv
      obtain ⟨x, h1, h2, h3⟩ := m1 i hi
      exact ⟨x, h2, h1, h3⟩)
    rw [hr1]
    generalize hH5 : upd H4 D (HO.lst (tab (many + 1) fun i => V.ref (r1 i))) = H5
    have e15 : Same H1 H5 := by
      rw [← hH5]
      exact Same.upd (I2.trans e4) hD
    have d5 : H5 D = some (.lst (tab (many + 1) fun i => .ref (r1 i))) := by
      rw [← hH5]
      exact upd_same
    have w5 : ∀ i, i < many + 1 → H5 (r1 i) = some (.lst (tab n fun j => .int (Rf F S many i j))) := fun i hi => by
      rw [← hH5, upd_ne (m2 i hi).1]
      exact (m2 i hi).2
    have o5 := e15 _ _ o1
    -- self.lines
    refine ⟨_, rfl, p, _, dx, _, _, rfl, o5, T.c_Grid, T.n_Grid_many_lines, lk_m, _, rfl, (by omega), (by omega), fun D6 hD6 => lcx (walk_r (n := many + 1)) (fun i H' => Same H5 H') (fun i v H' => ∃ r, v = .ref r ∧ r ≠ D6 ∧ H' r = some (.lst (tab (n + (many + 1) + 1) fun j => .int (Sx.A0 (Rf F S many) n (many + 1) i j)))) hD6 (sz (by omega))
      (fun i H' o I => Same.upd I hD6) (fun i v H' o ⟨r, e, hne, hr⟩ => ⟨r, e, hne, by rw [upd_ne hne]; exact hr⟩) (Same.refl _) (fun _ _ _ _ => True.intro) (fun i x H6 H7 acc Qe hi I hacc hlen Y k => ?_) mono_yes mono_name fun H6 acc I6 hacc6 hlen hp6 => ?_⟩
    · obtain ⟨rfl, rfl⟩ := Y
      refine ⟨rfl, _, rfl, p, dx, _, rfl, I _ _ o5, lk_r, _, rfl, _, rfl, D, _, _, _, rfl, rfl, SqL.of (I _ _ d5), tab_at hi, _, rfl, p, r1 i, dx, n, many + 1, i, _, rfl, I _ _ o5, SqL.of (I _ _ (w5 i hi)), hn, by omega, by omega, fun H8 D8 e8 n8 h8 => ?_⟩
      refine k (.ref D8) H8 (I.trans e8) (e8 _ _ hacc) ⟨D8, rfl, (ne_of_none hacc n8).symm, ?_⟩ fun j u _ ⟨r, e, hne, hr⟩ => ⟨r, e, hne, e8 _ _ hr⟩
      rw [h8]
      refine congrArg some (congrArg HO.lst (tab_congr fun j hj => ?_))
      unfold Sx.A0
      by_cases c1 : j < n
      · rw [if_pos c1, if_pos c1]
      · rw [if_neg c1, if_neg c1]
        by_cases c2 : j < n + (many + 1)
        · rw [if_pos c2, if_pos c2]
        · rw [if_neg c2, if_neg c2]
    obtain ⟨r2, rfl, hr2⟩ := acc_refs hlen hp6
    have o6 := I6 _ _ o5
    refine ⟨_, rfl, p, _, dx, _, rfl, o6, T.c_Grid, T.n_Grid_lines, (by show 2 < 1000; decide), ?_⟩
    have fs3 : putF "lines" (V.ref D6) [("many_columns", V.int (n : Nat)), ("many_lines", V.int ((many + 1 : Nat) : Int))] = ([("many_columns", V.int (n : Nat)), ("many_lines", V.int ((many + 1 : Nat) : Int)), ("lines", V.ref D6)] : List (Str × V)) := by
      rw [putF_miss (by decide +kernel), putF_miss (by decide +kernel), putF_nil]
    rw [fs3]
    have lk3 : ([("many_columns", V.int (n : Nat)), ("many_lines", V.int ((many + 1 : Nat) : Int)), ("lines", V.ref D6)] : List (Str × V)).lookup ("many_columns" : Str) = some (.int (n : Nat)) := lookup_hit _ _ _
    have lk4 : ([("many_columns", V.int (n : Nat)), ("many_lines", V.int ((many + 1 : Nat) : Int)), ("lines", V.ref D6)] : List (Str × V)).lookup ("lines" : Str) = some (.ref D6) := by
      rw [lookup_miss (by decide +kernel), lookup_miss (by decide +kernel), lookup_hit]
    have lk5 : ([("many_columns", V.int (n : Nat)), ("many_lines", V.int ((many + 1 : Nat) : Int)), ("lines", V.ref D6)] : List (Str × V)).lookup ("many_lines" : Str) = some (.int ((many + 1 : Nat) : Int)) := by
      rw [lookup_miss (by decide +kernel), lookup_hit]
    generalize hH7 : upd H6 p (HO.ins (He.ga K "Grid") dx [("many_columns", V.int (n : Nat)), ("many_lines", V.int ((many + 1 : Nat) : Int)), ("lines", V.ref D6)]) = H7
    have o7 : H7 p = some (.ins (He.ga K "Grid") dx [("many_columns", V.int (n : Nat)), ("many_lines", V.int ((many + 1 : Nat) : Int)), ("lines", V.ref D6)]) := by
      rw [← hH7]
      exact upd_same
    have e67 : SameBut p H6 H7 := by
      rw [← hH7]
      exact SameBut.put (SameBut.refl _ _)
    have np : ∀ {b : Addr} {xs : List V}, H6 b = some (.lst xs) → b ≠ p := fun hb => ne_of hb o6 fun z => by cases z
    have d7 := e67 _ _ (np (I6 _ _ d5)) (I6 _ _ d5)
    have w7 : ∀ i, i < many + 1 → H7 (r1 i) = some (.lst (tab n fun j => .int (Rf F S many i j))) := fun i hi => e67 _ _ (np (I6 _ _ (w5 i hi))) (I6 _ _ (w5 i hi))
    have l7 := e67 _ _ (np hacc6) hacc6
    have v7 : ∀ i, i < many + 1 → H7 (r2 i) = some (.lst (tab (n + (many + 1) + 1) fun j => .int (Sx.A0 (Rf F S many) n (many + 1) i j))) := fun i hi => e67 _ _ (np (hr2 i hi).2) (hr2 i hi).2
    -- goal
    refine ⟨_, rfl, p, _, dx, _, _, rfl, o7, T.c_Grid, T.n_Grid_many_columns, lk3, _, rfl, (by omega), (by omega), fun D8 hD8 => lcq_r (n := n) (fun j => .int (-(((List.range (many + 1)).map fun k => Rf F S many k j).sum))) hD8 (sz (by omega)) (fun j hj H8 Nx Qe e8 kk => ?_) fun H8 e8 hG8 => ?_⟩
    · refine ⟨rfl, _, rfl, D, rfl, ⟨_, SqL.of (e8 _ _ d7)⟩, fun D9 hD9 => lcq_list (n := many + 1) (fun i => .ref (r1 i)) (fun i => .int (Rf F S many i j)) hD9 (sz (by omega)) (SqL.of (e8 _ _ d7)) (fun i hi H9 Nx Qf e9 k9 => ?_) fun H9 e9 hD9' => ?_⟩
      · exact ⟨rfl, _, rfl, _, rfl, r1 i, _, _, _, rfl, rfl, SqL.of (e9 _ _ (e8 _ _ (w7 i hi))), tab_at hj, k9 _ (Same.refl _)⟩
      · refine ⟨D9, (List.range (many + 1)).map fun k => Rf F S many k j, rfl, ?_, _, rfl, kk _ e9⟩
        rw [tab_map]
        exact SqL.of hD9'
    have o8 := e8 _ _ o7
    -- self.lines.append(..)
    refine ⟨_, rfl, p, _, dx, _, _, rfl, o8, T.c_Grid, T.n_Grid_lines, lk4, .inl ⟨rfl, _, SqL.of (e8 _ _ l7)⟩, _, rfl, D8, _, rfl, .inr (SqL.of hG8), ?_⟩
    refine ⟨_, rfl, p, _, dx, _, _, rfl, o8, T.c_Grid, T.n_Grid_many_lines, lk5, _, rfl, (by omega), (by omega), fun D9 hD9 => lcq_r (n := many + 1) (fun _ => .int 0) hD9 (sz (by omega)) (fun x hx H' Nx Qe e k => ⟨rfl, k _ (Same.refl _)⟩) fun H9 e9 hZ => ?_⟩
    refine ⟨D9, _, rfl, .inr (SqL.of hZ), _, rfl, ?_⟩
    show (tab n _ ++ (tab (many + 1) (fun _ => V.int 0) ++ [V.int (-1)])).length ≤ sizeLine ∧ _
    rw [tab_one (v := V.int (-1)), tab_app, tab_app]
    refine ⟨by rw [tab_length]; exact sz (by omega), fun l hl => ⟨D6, _, _, rfl, rfl, Eq.trans (upd_ne (ne_of_none (e9 _ _ (e8 _ _ l7)) hl)) (e9 _ _ (e8 _ _ l7)), by rw [tab_length]; exact Nat.lt_of_le_of_lt (show many + 1 ≤ 9 by omega) (by decide), ?_⟩⟩
    rw [tab_one (v := V.ref l), tab_app]
    have e79 : Same H7 H9 := e8.trans e9
    have o9 := e79 _ _ o7
    have l9 := e79 _ _ l7
    have pl : p ≠ l := ne_of_none o9 hl
    have pD : p ≠ D6 := ne_of o9 l9 fun z => by cases z
    have lD : l ≠ D6 := (ne_of_none l9 hl).symm
    have r3 : (fun i => if i < many + 1 then V.ref (r2 i) else V.ref l) = fun i => V.ref (if i < many + 1 then r2 i else l) := by
      funext i
      by_cases c : i < many + 1
      · rw [if_pos c, if_pos c]
      · rw [if_neg c, if_neg c]
    rw [r3]
    generalize hH10 : upd (upd H9 l _) D6 _ = H10
    have o10 : H10 p = some (.ins (He.ga K "Grid") dx [("many_columns", V.int (n : Nat)), ("many_lines", V.int ((many + 1 : Nat) : Int)), ("lines", V.ref D6)]) := by
      rw [← hH10, upd_ne pD, upd_ne pl]
      exact o9
    have l10 : H10 D6 = some (.lst (tab (many + 1 + 1) fun i => .ref (if i < many + 1 then r2 i else l))) := by
      rw [← hH10]
      exact upd_same
    have v10 : ∀ i, i ≤ many + 1 → H10 (if i < many + 1 then r2 i else l) = some (.lst (tab (n + (many + 1) + 1) fun j => .int ((Sx.first (Rf F S many) n (many + 1)).T i j))) := fun i hi => by
      by_cases c : i < many + 1
      · rw [if_pos c, ← hH10, upd_ne (hr2 i c).1, upd_ne (ne_of_none (e79 _ _ (v7 i c)) hl), e79 _ _ (v7 i c)]
        refine congrArg some (congrArg HO.lst (tab_congr fun j hj => ?_))
        show _ = V.int (if i < many + 1 then _ else _)
        rw [if_pos c]
      · rw [if_neg c, ← hH10, upd_ne lD, upd_same]
        refine congrArg some (congrArg HO.lst (tab_congr fun j hj => ?_))
        show _ = V.int (if i < many + 1 then _ else Sx.hlp n (many + 1) j - Sx.sm (fun k => Sx.A0 (Rf F S many) n (many + 1) k j) (many + 1))
        rw [if_neg c, ← goal_first (by omega) hj]
        by_cases c1 : j < n
        · rw [if_pos c1, if_pos c1]
        · rw [if_neg c1, if_neg c1]
          by_cases c2 : j < n + (many + 1)
          · rw [if_pos c2, if_pos (by omega)]
          · rw [if_neg c2, if_neg (by omega)]
    have e010 : SameBut p H H10 := fun b o nb hb => by
      have h1 := e15 b o (e01 b o nb hb)
      have h6 := I6 b o h1
      rw [← hH10, upd_ne (ne_of_none h1 hD6), upd_ne (ne_of_none (e79 _ _ (e67 b o nb h6)) hl)]
      exact e79 _ _ (e67 b o nb h6)
    -- self.basis, self.scale
    refine ⟨_, rfl, p, _, dx, _, _, rfl, o10, T.c_Grid, T.n_Grid_many_lines, lk5, _, rfl, (by omega), (by omega), fun D11 hD11 => lcq_r (n := many + 1) (fun i => .int ((n : Int) + (i : Int))) hD11 (sz (by omega)) (fun x hx H' Nx Qe e k => ?_) fun H11 e11 hB => ?_⟩
    · exact ⟨rfl, _, rfl, p, _, dx, _, _, rfl, e _ _ o10, T.c_Grid, T.n_Grid_many_columns, lk3, _, rfl, _, _, rfl, rfl, k _ (Same.refl _)⟩
    refine ⟨_, rfl, p, _, dx, _, rfl, e11 _ _ o10, T.c_Grid, T.n_Grid_basis, (by show 3 < 1000; decide), ?_⟩
    have fs4 : putF "basis" (V.ref D11) [("many_columns", V.int (n : Nat)), ("many_lines", V.int ((many + 1 : Nat) : Int)), ("lines", V.ref D6)] = ([("many_columns", V.int (n : Nat)), ("many_lines", V.int ((many + 1 : Nat) : Int)), ("lines", V.ref D6), ("basis", V.ref D11)] : List (Str × V)) := by
      rw [putF_miss (by decide +kernel), putF_miss (by decide +kernel), putF_miss (by decide +kernel), putF_nil]
    rw [fs4]
    refine ⟨_, rfl, p, _, dx, _, rfl, upd_same, T.c_Grid, T.n_Grid_scale, (by show 4 < 1000; decide), ?_⟩
    have fs5 : putF "scale" (V.int 1) [("many_columns", V.int (n : Nat)), ("many_lines", V.int ((many + 1 : Nat) : Int)), ("lines", V.ref D6), ("basis", V.ref D11)] = gf n (many + 1) D6 D11 1 := by
      rw [putF_miss (by decide +kernel), putF_miss (by decide +kernel), putF_miss (by decide +kernel), putF_miss (by decide +kernel), putF_nil]
      rfl
    rw [fs5, upd_upd]
    have o11 := e11 _ _ o10
    have nq : ∀ {b : Addr} {xs : List V}, H11 b = some (.lst xs) → b ≠ p := fun hb => ne_of hb o11 fun z => by cases z
    have nH : ∀ {b : Addr}, b ≠ p → (∀ o, H10 b = some o → False) → H b = none := fun nb hb => by
      cases e : H _ with
      | none => rfl
      | some o => exact (hb o (e010 _ o nb e)).elim
    have nL : H D6 = none := by
      cases e : H D6 with
      | none => rfl
      | some o => exact absurd hD6 (by rw [e15 _ _ (e01 _ o pD.symm e)]; exact fun z => by cases z)
    have nB : H D11 = none := nH (nq hB) fun o h => by rw [hD11] at h; cases h
    refine q _ D6 D11 (fun i => if i < many + 1 then r2 i else l) (fun b o nb hb => ?_) nL nB ⟨upd_same, ?_, fun i hi => ?_, ?_⟩
    · rw [upd_ne nb]
      exact e11 _ _ (e010 b o nb hb)
    · rw [upd_ne pD.symm]
      exact e11 _ _ l10
    · have h := e11 _ _ (v10 i hi)
      rw [upd_ne (nq h)]
      exact h
    · rw [upd_ne (nq hB), hB]
      refine congrArg some (congrArg HO.lst (tab_congr fun j hj => ?_))
      show V.int ((n : Int) + (j : Int)) = V.int ((n + j : Nat) : Int)
      rw [Int.natCast_add]
end R35
namespace R35
open PySem PySem.Spec PyProof.Rows L2 RC
variable {P : Program} {w : World} {K : PySem.W.Frag} {mg : Str → Option Value} {base h : Heap}
/-- how great the numbers of a grid are at most -/
structure Sml (R : Nat → Nat → Int) (n m X : Nat) : Prop where
  n_ : n ≤ 100
  m0 : 0 < m
  m_ : m ≤ 9
  x1 : 1 ≤ X
  rz : ∀ k, k < m → ∀ j, j < n → (R k j).natAbs ≤ X
  bz : (m + 1) * Sx.bd X m < 2 ^ 1000
theorem szd_of {R : Nat → Nat → Int} {n m X : Nat} {s : Sx.St} (g : Sx.Good R n m s) (z : Sml R n m X) : Szd n m s := by
  have b : Sx.bd X m < 2 ^ 1000 := Nat.lt_of_le_of_lt (Nat.le_mul_of_pos_left _ (by omega)) z.bz
  refine ⟨z.n_, z.m0, z.m_, g.pos, Nat.lt_of_le_of_lt (g.abs_d z.x1 z.rz) b, fun i hi j hj => ?_⟩
  rcases Nat.lt_or_eq_of_le hi with e | e
  · exact Nat.lt_of_le_of_lt (g.abs z.x1 z.rz e hj) b
  · rw [e]
    exact Nat.lt_of_le_of_lt (g.abs_goal z.x1 z.rz hj) z.bz
/-! ### the end of the turns -/
theorem it_stays {n m : Nat} {s : Sx.St} {t : Nat} (h : Sx.ent n m (Sx.it n m s t) = none) : ∀ k, Sx.it n m s (t + k) = Sx.it n m s t
  | 0 => rfl
  | k + 1 => by
    show Sx.nxt n m (Sx.it n m s (t + k)) = _
    rw [it_stays h k, Sx.nxt_none h]
open Classical in
noncomputable def lastT (n m : Nat) (s : Sx.St) : Nat := if h : ∃ t, Sx.ent n m (Sx.it n m s t) = none then Classical.choose h else 0
noncomputable def last (n m : Nat) (s : Sx.St) : Sx.St := Sx.it n m s (lastT n m s)
theorem last_of {n m : Nat} {s : Sx.St} {t : Nat} (h : Sx.ent n m (Sx.it n m s t) = none) : Sx.it n m s t = last n m s := by
  have ex : ∃ t, Sx.ent n m (Sx.it n m s t) = none := ⟨t, h⟩
  have e : lastT n m s = Classical.choose ex := by
    unfold lastT
    rw [dif_pos ex]
  have h2 : Sx.ent n m (Sx.it n m s (lastT n m s)) = none := by
    rw [e]
    exact Classical.choose_spec ex
  unfold last
  rcases Nat.le_total t (lastT n m s) with c | c
  · have q := it_stays h (lastT n m s - t)
    rw [show t + (lastT n m s - t) = lastT n m s by omega] at q
    exact q.symm
  · have q := it_stays h2 (t - lastT n m s)
    rw [show lastT n m s + (t - lastT n m s) = t by omega] at q
    exact q
def spGoOn (K : PySem.W.Frag) : Sp := fun vs H Q _ => ∃ (H0 : Hp) (p n m : Nat) (s : Sx.St) (dx L B : Addr) (r : Nat → Addr) (R : Nat → Nat → Int) (X : Nat), vs = [.ref p] ∧ Same H0 H ∧ H0 p = none ∧ H0 L = none ∧ H0 B = none ∧ GrAt K H p n m s dx L B r ∧ Sx.Good R n m s ∧ Sml R n m X ∧
  ∀ H' r', Same H0 H' → GrAt K H' p n m (last n m s) dx L B r' → Sx.Good R n m (last n m s) → Sx.ent n m (last n m s) = none → Q .non H'
theorem ok_Grid_go_on (T : Ctx K mg h) : OkN P w K mg base 3 (He.ma K (He.ga K "Grid") "go_on") ["self"] (spGoOn K) := by
  obtain ⟨_, G_Grid_entering, b_Grid_entering, k_Grid_entering⟩ := ok_Grid_entering (P := P) (w := w) (base := base) T
  obtain ⟨_, G_Grid_turn, b_Grid_turn, k_Grid_turn⟩ := ok_Grid_turn (P := P) (w := w) (base := base) T
  obtain ⟨_, G_Grid_leaving, b_Grid_leaving, k_Grid_leaving⟩ := ok_Grid_leaving (P := P) (w := w) (base := base) T
  refine okN (K := K) T.f_Grid_go_on sc_Grid_go_on (fun _ _ _ _ _ _ us hl => match us, hl with | [_], _ => rfl) (fun vs H Q E h => ?_) (fun cdv A outer s H vs Q E hr h => ?_)
  · obtain ⟨H0, p, n, m, s, dx, L, B, r, R, X, rfl, e0, p0, l0, b0, g, gd, z, q⟩ := h
    rfl
  · obtain ⟨H0, p, n, m, s, dx, L, B, r, R, X, rfl, e0, p0, l0, b0, g, gd, z, q⟩ := h
    refine ⟨_, PSs.nox (pss_cons (ps_set (i := 1) sc_Grid_go_on.nd rfl (by first | exact .inl rfl | exact .inr rfl) (pe_meth0 (pv 0) T.c_Grid T.m_Grid_entering G_Grid_entering (hr.mono (by decide)) b_Grid_entering .nil pass0))
      (pss_one (ps_while PassesOwn.never (pt_cmpR op_notN (pv 1) pe_non (nomark _)) (pss_cons (ps_expr (pe_meth (pv 0) T.c_Grid T.m_Grid_turn G_Grid_turn (hr.mono (by decide)) b_Grid_turn .nil pass0 (pa_cons (pe_meth (pv 0) T.c_Grid T.m_Grid_leaving G_Grid_leaving (hr.mono (by decide)) b_Grid_leaving .nil pass0 (pa_cons (pv 1) pa_nil)) (pa_cons (pv 1) pa_nil))))
      (pss_one (ps_set (i := 1) sc_Grid_go_on.nd rfl (by first | exact .inl rfl | exact .inr rfl) (pe_meth0 (pv 0) T.c_Grid T.m_Grid_entering G_Grid_entering (hr.mono (by decide)) b_Grid_entering .nil pass0))))))), ?_⟩
    have no : ∀ {d : Int} {x : Str}, ¬ x = "many_columns" → ¬ x = "many_lines" → ¬ x = "lines" → ¬ x = "basis" → ¬ x = "scale" → (gf n m L B d).lookup x = none := fun h1 h2 h3 h4 h5 => gf_no h1 h2 h3 h4 h5
    refine ⟨_, rfl, p, dx, _, rfl, g.obj, no (by decide +kernel) (by decide +kernel) (by decide +kernel) (by decide +kernel) (by decide +kernel), p, n, m, s, dx, L, B, r, rfl, g, szd_of gd z, ?_⟩
    obtain ⟨t1, ht1⟩ := Sx.ends gd
    refine ⟨fun k σ H' => ∃ t r', t + k = t1 ∧ σ = [some (.ref p), some (optV (Sx.ent n m (Sx.it n m s t)))] ∧ Same H0 H' ∧ GrAt K H' p n m (Sx.it n m s t) dx L B r', ⟨t1, 0, r, Nat.zero_add _, rfl, e0, g⟩, fun k σ H' P => ?_⟩
    obtain ⟨t, r', ht, rfl, e1, g1⟩ := P
    have gd1 := Sx.it_good gd t
    refine ⟨_, rfl, rfl, _, rfl, ?_⟩
    cases ec : Sx.ent n m (Sx.it n m s t) with
    | none =>
      have el := last_of ec
      rw [el] at g1 gd1 ec
      exact iteNS rfl (q _ r' e1 g1 gd1 ec)
    | some c =>
      obtain ⟨hc, hneg, _⟩ := Sx.ent_some ec
      obtain ⟨r0, hr0⟩ := gd1.leaves hc hneg
      have hr0' := (Sx.lv_some hr0).1
      have kp : 0 < k := by
        rcases Nat.eq_zero_or_pos k with e | e
        · rw [e, Nat.add_zero] at ht
          rw [ht, ht1] at ec
          cases ec
        · exact e
      refine iteNT (fun z => by cases z) ⟨fun σ H' => ∃ t r', t + (k - 1) = t1 ∧ σ = [some (.ref p), some (optV (Sx.ent n m (Sx.it n m s t)))] ∧ Same H0 H' ∧ GrAt K H' p n m (Sx.it n m s t) dx L B r', fun σ' H' h => ⟨k - 1, by omega, h⟩, ?_⟩
      have z1 := szd_of gd1 z
      refine ⟨_, rfl, p, dx, _, rfl, g1.obj, no (by decide +kernel) (by decide +kernel) (by decide +kernel) (by decide +kernel) (by decide +kernel), ?_⟩
      refine ⟨_, rfl, p, dx, _, rfl, g1.obj, no (by decide +kernel) (by decide +kernel) (by decide +kernel) (by decide +kernel) (by decide +kernel), _, rfl, p, n, m, _, dx, L, B, r', c, rfl, g1, z1, hc, ?_⟩
      rw [hr0]
      refine ⟨_, rfl, p, n, m, _, dx, L, B, r', r0, c, rfl, g1, z1, hr0', hc, fun H2 r2 fr g2 => ?_⟩
      have e2 : Same H0 H2 := fun b o hb => fr b o (ne_of_none hb p0) (ne_of_none hb l0) (ne_of_none hb b0) (e1 b o hb)
      have en : Sx.turn m (Sx.it n m s t) r0 c = Sx.it n m s (t + 1) := (Sx.nxt_some ec hr0).symm
      rw [en] at g2
      have gd2 := Sx.it_good gd (t + 1)
      refine ⟨_, rfl, p, dx, _, rfl, g2.obj, no (by decide +kernel) (by decide +kernel) (by decide +kernel) (by decide +kernel) (by decide +kernel), p, n, m, _, dx, L, B, r2, rfl, g2, szd_of gd2 z, ?_⟩
      exact ⟨t + 1, r2, by omega, rfl, e2, g2⟩
/-! ### settled -/
structure ClashOk (n many : Nat) (F : Nat → List Int) (S : Nat → Bool) (ws : List Int) : Prop where
  len : ws.length = n
  pos : ∀ j, j < n → 0 ≤ ws.getD j 0
  sum : ∀ k, k < many → Sx.sm (fun j => ws.getD j 0 * (F j).getD k 0) n = 0
  str : ∃ j, j < n ∧ S j = true ∧ 0 < ws.getD j 0
  sml : ∀ x, x ∈ ws → x.natAbs < 2 ^ 1000
structure PointOk (n many : Nat) (F : Nat → List Int) (S : Nat → Bool) (cs : List Int) : Prop where
  len : cs.length = many
  val : ∀ j, j < n → 0 ≤ Sx.sm (fun k => (F j).getD k 0 * cs.getD k 0) many ∧ (S j = true → 0 < Sx.sm (fun k => (F j).getD k 0 * cs.getD k 0) many)
  sml : ∀ x, x ∈ cs → x.natAbs < 2 ^ 1001
theorem getD_map_range {n j : Nat} {f : Nat → Int} (h : j < n) : ((List.range n).map f).getD j 0 = f j := by
  rw [List.getD_eq_getElem?_getD, List.getElem?_map, range_get h]
  rfl
theorem low_get {ns : List Int} {g : Int} (e : ns = (low ns).map fun x => g * x) {j : Nat} (h : j < ns.length) : ns.getD j 0 = g * (low ns).getD j 0 := by
  have h2 : j < (low ns).length := by
    rw [low_length]
    exact h
  have q : ns.getD j 0 = ((low ns).map fun x => g * x).getD j 0 := by rw [← e]
  rw [q, List.getD_eq_getElem?_getD, List.getElem?_map, List.getElem?_eq_getElem h2, List.getD_eq_getElem?_getD, List.getElem?_eq_getElem h2]
  rfl
theorem mem_get {xs : List Int} {x : Int} (h : x ∈ xs) : ∃ j, j < xs.length ∧ x = xs.getD j 0 := by
  obtain ⟨j, hj, e⟩ := List.getElem_of_mem h
  refine ⟨j, hj, ?_⟩
  rw [List.getD_eq_getElem?_getD, List.getElem?_eq_getElem hj]
  exact e.symm
theorem pos_of_mul {g x : Int} (hg : 0 < g) (h : 0 < g * x) : 0 < x := by
  rcases Int.lt_trichotomy x 0 with c | c | c
  · have := Int.mul_neg_of_pos_of_neg hg c
    omega
  · rw [c, Int.mul_zero] at h
    omega
  · exact c
theorem nonneg_of_mul {g x : Int} (hg : 0 < g) (h : 0 ≤ g * x) : 0 ≤ x := by
  rcases Int.lt_or_le x 0 with c | c
  · have := Int.mul_neg_of_pos_of_neg hg c
    omega
  · exact c
theorem abs_of_mul {g x : Int} {B : Nat} (hg : 0 < g) (h : (g * x).natAbs < B) : x.natAbs < B := by
  rw [Int.natAbs_mul] at h
  exact Nat.lt_of_le_of_lt (Nat.le_mul_of_pos_left _ (by omega)) h
theorem clash_ok {n many X : Nat} {F : Nat → List Int} {S : Nat → Bool} {s : Sx.St} (g : Sx.Good (Rf F S many) n (many + 1) s) (z : Sml (Rf F S many) n (many + 1) X) (h0 : s.T (many + 1) (n + (many + 1)) = 0) :
    (∀ x, x ∈ (List.range n).map (Sx.fnd n (many + 1) s (many + 1)) → x.natAbs < 2 ^ 1000) ∧ ClashOk n many F S (low ((List.range n).map (Sx.fnd n (many + 1) s (many + 1)))) := by
  have zz := szd_of g z
  have hf : ∀ a j, a ≤ many + 1 → (Sx.fnd n (many + 1) s a j).natAbs < 2 ^ 1000 := by
    intro a
    induction a with
    | zero =>
      intro j _
      show (0 : Int).natAbs < 2 ^ 1000
      decide +kernel
    | succ a ih =>
      intro j ha
      show (if s.bas a = j then s.T a (n + (many + 1)) else Sx.fnd n (many + 1) s a j).natAbs < 2 ^ 1000
      split
      · exact zz.tz a (by omega) _ (Nat.le_refl _)
      · exact ih j (by omega)
  have hsm : ∀ x, x ∈ (List.range n).map (Sx.fnd n (many + 1) s (many + 1)) → x.natAbs < 2 ^ 1000 := fun x hx => by
    obtain ⟨j, _, rfl⟩ := List.mem_map.mp hx
    exact hf _ j (Nat.le_refl _)
  refine ⟨hsm, ?_⟩
  generalize hns : (List.range n).map (Sx.fnd n (many + 1) s (many + 1)) = ns at hsm ⊢
  have ln : ns.length = n := by rw [← hns, List.length_map, List.length_range]
  have val : ∀ j, j < n → ns.getD j 0 = Sx.wt n (many + 1) s j := fun j hj => by rw [← hns, getD_map_range hj, Sx.fnd_wt g]
  obtain ⟨c, hc, e⟩ := low_spec ns
  have lg : ∀ j, j < n → Sx.wt n (many + 1) s j = c * (low ns).getD j 0 := fun j hj => by rw [← val j hj, low_get e (by omega)]
  refine ⟨by rw [low_length, ln], fun j hj => nonneg_of_mul hc (by rw [← lg j hj]; exact Sx.wt_nonneg g j), fun k hk => ?_, ?_, fun x hx => ?_⟩
  · have q := Sx.wt_sum g h0 (k := k) (by omega)
    rw [if_neg (by omega)] at q
    have q2 : Sx.sm (fun j => c * ((low ns).getD j 0 * (F j).getD k 0)) n = 0 := by
      refine Eq.trans (Sx.sm_congr fun j hj => ?_) q
      rw [lg j hj]
      unfold Rf
      rw [if_pos hk, ← Int.mul_assoc, Int.mul_comm]
    rw [Sx.sm_mul] at q2
    exact (Int.mul_eq_zero.mp q2).resolve_left (by omega)
  · have q := Sx.wt_sum g h0 (k := many) (by omega)
    rw [if_pos rfl] at q
    have p := g.pos
    rw [← q] at p
    obtain ⟨j, hj, hp⟩ := Sx.sm_pos_some p
    refine ⟨j, hj, ?_⟩
    unfold Rf at hp
    rw [if_neg (by omega), lg j hj] at hp
    cases hS : S j with
    | false =>
      rw [hS] at hp
      simp at hp
    | true =>
      rw [hS] at hp
      exact ⟨rfl, pos_of_mul hc (by simpa using hp)⟩
  · obtain ⟨j, hj, rfl⟩ := mem_get hx
    rw [low_length] at hj
    refine abs_of_mul hc ?_
    rw [← low_get e hj]
    have hm : ns.getD j 0 ∈ ns := by
      rw [List.getD_eq_getElem?_getD, List.getElem?_eq_getElem hj]
      exact List.getElem_mem hj
    exact hsm _ hm
theorem point_ok {n many X : Nat} {F : Nat → List Int} {S : Nat → Bool} {s : Sx.St} (g : Sx.Good (Rf F S many) n (many + 1) s) (z : Sml (Rf F S many) n (many + 1) X) (h0 : s.T (many + 1) (n + (many + 1)) ≠ 0) (he : Sx.ent n (many + 1) s = none) :
    (∀ x, x ∈ (List.range many).map (fun k => s.T (many + 1) (n + k) - s.d) → x.natAbs < 2 ^ 1001) ∧ PointOk n many F S (low ((List.range many).map fun k => s.T (many + 1) (n + k) - s.d)) := by
  have zz := szd_of g z
  have hsm : ∀ x, x ∈ (List.range many).map (fun k => s.T (many + 1) (n + k) - s.d) → x.natAbs < 2 ^ 1001 := fun x hx => by
    obtain ⟨k, hk, rfl⟩ := List.mem_map.mp hx
    have hk' := List.mem_range.mp hk
    have h1 := zz.tz (many + 1) (Nat.le_refl _) (n + k) (by omega)
    have h2 := zz.dz
    have e : (2 : Nat) ^ 1001 = 2 ^ 1000 + 2 ^ 1000 := by rw [Nat.pow_succ]; omega
    rw [e]
    omega
  refine ⟨hsm, ?_⟩
  generalize hns : (List.range many).map (fun k => s.T (many + 1) (n + k) - s.d) = ns at hsm ⊢
  have ln : ns.length = many := by rw [← hns, List.length_map, List.length_range]
  have val : ∀ k, k < many → ns.getD k 0 = s.T (many + 1) (n + k) - s.d := fun k hk => by rw [← hns, getD_map_range hk]
  obtain ⟨c, hc, e⟩ := low_spec ns
  have neg := Sx.goal_neg g h0
  have key : ∀ j, j < n → c * Sx.sm (fun k => (F j).getD k 0 * (low ns).getD k 0) many = s.T (many + 1) j - Rf F S many many j * s.T (many + 1) (n + (many + 1)) := fun j hj => by
    have q := Sx.point_value g (by omega) hj
    rw [show many + 1 - 1 = many from rfl] at q
    rw [← q, ← Sx.sm_mul]
    refine Sx.sm_congr fun k hk => ?_
    rw [← val k hk, low_get e (by omega)]
    unfold Rf
    rw [if_pos hk, Int.mul_left_comm]
  refine ⟨by rw [low_length, ln], fun j hj => ?_, fun x hx => ?_⟩
  case refine_2 =>
    obtain ⟨j, hj, rfl⟩ := mem_get hx
    rw [low_length] at hj
    refine abs_of_mul hc ?_
    rw [← low_get e hj]
    exact hsm _ (getX_mem hj)
  have k1 := key j hj
  have k2 := Sx.ent_none he hj
  unfold Rf at k1
  rw [if_neg (by omega)] at k1
  cases hS : S j with
  | false =>
    rw [hS, if_neg Bool.false_ne_true, Int.zero_mul] at k1
    exact ⟨nonneg_of_mul hc (by omega), fun q => by cases q⟩
  | true =>
    rw [hS, if_pos rfl, Int.one_mul] at k1
    have k3 : 0 < c * Sx.sm (fun k => (F j).getD k 0 * (low ns).getD k 0) many := by
      omega
    have k4 := pos_of_mul hc k3
    exact ⟨Int.le_of_lt k4, fun _ => k4⟩
end R35
namespace R35
open PySem PySem.Spec PyProof.Rows L2 RC
variable {P : Program} {w : World} {K : PySem.W.Frag} {mg : Str → Option Value} {base h : Heap}
/-- the grid's end over these bounds; what it tells -/
noncomputable def endOf (n many : Nat) (F : Nat → List Int) (S : Nat → Bool) : Sx.St := last n (many + 1) (Sx.first (Rf F S many) n (many + 1))
def IsClash (n many : Nat) (F : Nat → List Int) (S : Nat → Bool) : Prop := (endOf n many F S).T (many + 1) (n + (many + 1)) = 0
noncomputable def clashOf (n many : Nat) (F : Nat → List Int) (S : Nat → Bool) : List Int := low ((List.range n).map (Sx.fnd n (many + 1) (endOf n many F S) (many + 1)))
noncomputable def pointOf (n many : Nat) (F : Nat → List Int) (S : Nat → Bool) : List Int := low ((List.range many).map fun k => (endOf n many F S).T (many + 1) (n + k) - (endOf n many F S).d)
def spSettled (K : PySem.W.Frag) : Sp := fun vs H Q _ => ∃ (a : Addr) (t : Bool) (n many : Nat) (pf : Nat → Addr) (F : Nat → List Int) (S : Nat → Bool) (X : Nat), vs = [.ref a, .int many] ∧ n ≤ 80 ∧ many ≤ 8 ∧ BsAt K H a t n many pf F S ∧ Sml (Rf F S many) n (many + 1) X ∧
  (∀ H' p, Same H H' → IsClash n many F S → PaperAt K (He.ga K "Clash") "weights" H' p (clashOf n many F S) → ClashOk n many F S (clashOf n many F S) → Q (.ref p) H') ∧
  ∀ H' p, Same H H' → ¬ IsClash n many F S → PaperAt K (He.ga K "Point") "counts" H' p (pointOf n many F S) → PointOk n many F S (pointOf n many F S) → Q (.ref p) H'
theorem fn_settled {fd : FuncData} (T : Ctx K mg h) (F : FunD K d_settled.name d_settled.qual d_settled.params d_settled.body d_settled.scope (d_settled.dvs K) (d_settled.kws K) (He.fAd K d_settled.at_) fd) : FnOk P w K mg base CX0 4 (He.ga K "settled") fd ["bounds", "many"] (spSettled K) := by
  obtain ⟨_, G_Point_init, b_Point_init, k_Point_init⟩ := ok_Point_init (P := P) (w := w) (base := base) T
  obtain ⟨_, G_lowered, b_lowered, k_lowered⟩ := ok_lowered (P := P) (w := w) (base := base) T
  obtain ⟨_, G_Grid_point_now, b_Grid_point_now, k_Grid_point_now⟩ := ok_Grid_point_now (P := P) (w := w) (base := base) T
  obtain ⟨_, G_Clash_init, b_Clash_init, k_Clash_init⟩ := ok_Clash_init (P := P) (w := w) (base := base) T
  obtain ⟨_, G_Grid_weights_now, b_Grid_weights_now, k_Grid_weights_now⟩ := ok_Grid_weights_now (P := P) (w := w) (base := base) T
  obtain ⟨_, G_Grid_go_on, b_Grid_go_on, k_Grid_go_on⟩ := ok_Grid_go_on (P := P) (w := w) (base := base) T
  obtain ⟨_, G_Grid_init, b_Grid_init, k_Grid_init⟩ := ok_Grid_init (P := P) (w := w) (base := base) T
  obtain ⟨_, G_need_bounds, b_need_bounds, k_need_bounds⟩ := ok_need_bounds (P := P) (w := w) (base := base) T
  refine F.ok sc_settled (fun vs H Q E h => ?_) (fun cdv A outer s H vs Q E hr h => ?_)
  · obtain ⟨a, t, n, many, pf, F, S, X, rfl, hn, hm, B, z, q1, q2⟩ := h
    rfl
  · obtain ⟨a, t, n, many, pf, F, S, X, rfl, hn, hm, B, z, q1, q2⟩ := h
    refine ⟨_, PSs.nox (pss_cons (ps_expr (pe_call G_need_bounds (hr.mono (by decide)) (by rfl) T.g_need_bounds k_need_bounds b_need_bounds .nil pass0 (pa_cons (pv 0) (pa_cons (pv 1) pa_nil))))
      (pss_cons (ps_set (i := 2) sc_settled.nd rfl (by first | exact .inl rfl | exact .inr rfl) (pe_make T.mk_Grid G_Grid_init (hr.mono (by decide)) (by rfl) T.g_Grid b_Grid_init .nil pass0 (pa_cons (pv 0) (pa_cons (pv 1) pa_nil))))
      (pss_cons (ps_expr (pe_meth0 (pv 2) T.c_Grid T.m_Grid_go_on G_Grid_go_on (hr.mono (by decide)) b_Grid_go_on .nil pass0))
      (pss_cons (ps_if (pt_cmpR op_eq (pe_ix ix_list (pe_ix ix_list (pe_fld (pv 2) rfl) (pe_fld (pv 2) rfl) (fun _ _ => rfl)) (pe_un un_neg pe_int) (fun _ _ => rfl)) pe_int (nomark _)) (pss_one (ps_ret (pe_make T.mk_Clash G_Clash_init (hr.mono (by decide)) (by rfl) T.g_Clash b_Clash_init .nil pass0 (pa_cons (pe_call G_lowered (hr.mono (by decide)) (by rfl) T.g_lowered k_lowered b_lowered .nil pass0 (pa_cons (pe_meth0 (pv 2) T.c_Grid T.m_Grid_weights_now G_Grid_weights_now (hr.mono (by decide)) b_Grid_weights_now .nil pass0) pa_nil)) pa_nil)))) pss_nil)
      (pss_one (ps_ret (pe_make T.mk_Point G_Point_init (hr.mono (by decide)) (by rfl) T.g_Point b_Point_init .nil pass0 (pa_cons (pe_call G_lowered (hr.mono (by decide)) (by rfl) T.g_lowered k_lowered b_lowered .nil pass0 (pa_cons (pe_meth0 (pv 2) T.c_Grid T.m_Grid_point_now G_Grid_point_now (hr.mono (by decide)) b_Grid_point_now .nil pass0) pa_nil)) pa_nil)))))))), ?_⟩
    have no : ∀ {n m : Nat} {L B : Addr} {d : Int} {x : Str}, ¬ x = "many_columns" → ¬ x = "many_lines" → ¬ x = "lines" → ¬ x = "basis" → ¬ x = "scale" → (gf n m L B d).lookup x = none := fun h1 h2 h3 h4 h5 => gf_no h1 h2 h3 h4 h5
    refine ⟨_, rfl, _, rfl, a, t, n, many, pf, F, S, rfl, hn, hm, B, fun H1 e1 => ?_⟩
    refine ⟨_, rfl, _, rfl, fun x dx hx hdx hne => ?_⟩
    have e1n : Same H1 (upd (upd H1 dx (.own x)) x (.ins (He.ga K "Grid") dx [])) := Same.upd (Same.new hdx) hx
    refine ⟨x, a, dx, t, n, many, pf, F, S, rfl, upd_same, by omega, hm, (B.same e1).same e1n, fun H2 L Bb r e2 hL hB g2 => ⟨rfl, ?_⟩⟩
    have e12 : Same H1 H2 := Same.ofNew hx hdx e2
    refine ⟨_, rfl, x, dx, _, rfl, g2.obj, no (by decide +kernel) (by decide +kernel) (by decide +kernel) (by decide +kernel) (by decide +kernel), H1, x, n, many + 1, _, dx, L, Bb, r, Rf F S many, X, rfl, e12, hx, e1n.free hL, e1n.free hB, g2, Sx.first_good _ _ _, z, fun H3 r3 e3 g3 gd he => ?_⟩
    have es : last n (many + 1) (Sx.first (Rf F S many) n (many + 1)) = endOf n many F S := rfl
    rw [es] at g3 gd he
    generalize hs0 : endOf n many F S = s at g3 gd he
    have zz := szd_of gd z
    refine ⟨_, rfl, x, _, dx, _, _, rfl, g3.obj, T.c_Grid, T.n_Grid_lines, gf_lines, _, rfl, x, _, dx, _, _, rfl, g3.obj, T.c_Grid, T.n_Grid_many_lines, gf_many, L, _, _, _, rfl, rfl, SqL.of g3.lns, tab_at (by omega), _, rfl, r3 (many + 1), _, _, _, rfl, rfl, SqL.of (g3.row (many + 1) (Nat.le_refl _)), tab_last, rfl, _, rfl, ite2 (fun c => ?_) (fun c => ?_)⟩
    · have c0 : s.T (many + 1) (n + (many + 1)) = 0 := V.int.inj (of_decide_eq_true c)
      obtain ⟨hs, ok⟩ := clash_ok gd z c0
      refine ⟨_, rfl, x, dx, _, rfl, g3.obj, no (by decide +kernel) (by decide +kernel) (by decide +kernel) (by decide +kernel) (by decide +kernel), x, n, many + 1, s, dx, L, Bb, r3, rfl, g3, zz, fun H4 D e4 hD => ?_⟩
      refine ⟨D, (List.range n).map (Sx.fnd n (many + 1) s (many + 1)), rfl, by rw [List.length_map, List.length_range]; omega, ?_, fun v hv => Nat.lt_trans (hs v hv) (Nat.pow_lt_pow_right (by decide) (by decide)), fun H5 u e5 ht => ?_⟩
      · rw [tab_map]
        exact SqL.of hD
      · refine fun y dy hy hdy hne2 => ⟨y, dy, .ref u, rfl, upd_same, rfl, ?_⟩
        have n1 : Same H5 (upd (upd (upd H5 dy (.own y)) y (.ins (He.ga K "Clash") dy [])) y (.ins (He.ga K "Clash") dy [("weights", .ref u)])) := Same.upd (Same.upd (Same.new hdy) hy) hy
        refine q1 _ y (e1.trans (e3.trans (e4.trans (e5.trans n1)))) (by unfold IsClash; rw [hs0]; exact c0) ⟨dy, u, upd_same, SqT.of ?_⟩ ?_
        · unfold clashOf
          rw [hs0]
          exact n1 _ _ ht
        · unfold clashOf
          rw [hs0]
          exact ok
    · have c0 : s.T (many + 1) (n + (many + 1)) ≠ 0 := fun z => c (decide_eq_true (congrArg V.int z))
      obtain ⟨hs, ok⟩ := point_ok gd z c0 he
      refine ⟨_, rfl, x, dx, _, rfl, g3.obj, no (by decide +kernel) (by decide +kernel) (by decide +kernel) (by decide +kernel) (by decide +kernel), x, n, many + 1, s, dx, L, Bb, r3, rfl, g3, zz, fun H4 D e4 hD => ?_⟩
      refine ⟨D, (List.range many).map (fun k => s.T (many + 1) (n + k) - s.d), rfl, by rw [List.length_map, List.length_range]; omega, ?_, fun v hv => Nat.lt_trans (hs v hv) (Nat.pow_lt_pow_right (by decide) (by decide)), fun H5 u e5 ht => ?_⟩
      · rw [tab_map]
        exact SqL.of hD
      · refine fun y dy hy hdy hne2 => ⟨y, dy, .ref u, rfl, upd_same, rfl, ?_⟩
        have n1 : Same H5 (upd (upd (upd H5 dy (.own y)) y (.ins (He.ga K "Point") dy [])) y (.ins (He.ga K "Point") dy [("counts", .ref u)])) := Same.upd (Same.upd (Same.new hdy) hy) hy
        refine q2 _ y (e1.trans (e3.trans (e4.trans (e5.trans n1)))) (by unfold IsClash; rw [hs0]; exact c0) ⟨dy, u, upd_same, SqT.of ?_⟩ ?_
        · unfold pointOf
          rw [hs0]
          exact n1 _ _ ht
        · unfold pointOf
          rw [hs0]
          exact ok
/-- settled, callable by keywords too -/
theorem ok_settled (T : Ctx K mg h) : ∃ fd, FnOk P w K mg base CX0 4 (He.ga K "settled") fd ["bounds", "many"] (spSettled K) ∧ Binds K fd ["bounds", "many"] [] ∧ PySem.W.keepIn K (.ref (He.ga K "settled")) = true ∧ KBinds K fd ["bounds", "many"] ["bounds", "many"] kwOnly kwOnly := by
  obtain ⟨fd, F⟩ := T.f_settled
  exact ⟨fd, fn_settled T F, F.bindsN (fun _ _ _ _ _ _ us hl => match us, hl with | [_, _], _ => rfl), F.kp, kbinds0 F (by decide) fun _ _ _ _ _ _ ws hl => match ws, hl with | [_, _], _ => rfl⟩
end R35
namespace R35
open PySem PySem.Spec PyProof.Rows L2 RC
variable {P : Program} {w : World} {K : PySem.W.Frag} {mg : Str → Option Value} {base h : Heap}
/-! ### the pen -/
/-- at p a pen, its cells at c, of which at most B draws are made -/
def Pen (H : Hp) (p c : Addr) (B : Nat) : Prop := ∃ (b : Nat) (r : Int) (ns : List Int), H p = some (.lst [.ref c, .int b, .int r]) ∧ H c = some (.lst (ns.map V.int)) ∧ ns.length ≤ 63 ∧ b ≤ B
theorem Pen.same {H H' : Hp} {p c : Addr} {B : Nat} (h : Pen H p c B) (e : Same H H') : Pen H' p c B := by
  obtain ⟨b, r, ns, h1, h2, h3, h4⟩ := h
  exact ⟨b, r, ns, e _ _ h1, e _ _ h2, h3, h4⟩
theorem Pen.mono {H : Hp} {p c : Addr} {B B' : Nat} (h : Pen H p c B) (e : B ≤ B') : Pen H p c B' := by
  obtain ⟨b, r, ns, h1, h2, h3, h4⟩ := h
  exact ⟨b, r, ns, h1, h2, h3, Nat.le_trans h4 e⟩
theorem Pen.has {H : Hp} {p c : Addr} {B : Nat} (h : Pen H p c B) : ∃ xs ys, H p = some (.lst xs) ∧ H c = some (.lst ys) := by
  obtain ⟨b, r, ns, h1, h2, _⟩ := h
  exact ⟨_, _, h1, h2⟩
/-- the pen stands beside an object that is changed -/
theorem Pen.upd {H : Hp} {p c q : Addr} {o : HO} {B : Nat} (h : Pen H p c B) (e1 : p ≠ q) (e2 : c ≠ q) : Pen (L2.upd H q o) p c B := by
  obtain ⟨b, r, ns, h1, h2, h3, h4⟩ := h
  exact ⟨b, r, ns, by rw [upd_ne e1]; exact h1, by rw [upd_ne e2]; exact h2, h3, h4⟩
def spPen (K : PySem.W.Frag) : Sp := fun vs H Q _ => ∃ (a : Addr) (ns : List Int), vs = [.ref a] ∧ SqL K H a (ns.map V.int) ∧ ns.length ≤ 63 ∧ ∀ H' p c, Same H H' → H p = none → H c = none → Pen H' p c 0 → Q (.ref p) H'
theorem ok_law_pen (T : Ctx K mg h) : OkN P w K mg base 1 (He.ga K "_law_pen") ["_law_script"] (spPen K) := by
  refine okN (K := K) T.f_law_pen sc_law_pen (fun _ _ _ _ _ _ us hl => match us, hl with | [_], _ => rfl) (fun vs H Q E h => ?_) (fun cdv A outer s H vs Q E hr h => ?_)
  · obtain ⟨a, ns, rfl, hS, hl, q⟩ := h
    rfl
  · obtain ⟨a, ns, rfl, hS, hl, q⟩ := h
    refine ⟨_, PSs.nox (pss_one (ps_ret (pe_lst (pa_cons (pe_callTy call_list_of (by rfl) T.b_list (by decide +kernel) (pa_cons (pe_slice sl_list (pv 0) po_none (po_some pe_int)) pa_nil)) (pa_cons pe_int (pa_cons pe_int pa_nil)))))), ?_⟩
    refine ⟨_, rfl, _, rfl, a, _, rfl, hS, fun u hu => ⟨u, _, rfl, .inl (SqL.of upd_same), fun v hv => ⟨(by show 3 ≤ sizeLine; decide), fun p hp => ?_⟩⟩⟩
    have ec : ∃ ms : List Int, cutV (ns.map V.int) none (some 63) = ms.map V.int ∧ ms.length ≤ 63 := by
      unfold cutV
      rw [← List.map_drop, ← List.map_take]
      exact ⟨_, rfl, Nat.le_trans (List.length_take_le' _ _) (Nat.le_trans (by rw [List.length_drop]; exact Nat.sub_le _ _) hl)⟩
    obtain ⟨ms, e1, e2⟩ := ec
    refine q _ p v (((Same.new hu).trans (Same.new hv)).trans (Same.new hp)) (((Same.new hu).trans (Same.new hv)).free hp) ((Same.new hu).free hv) ⟨0, 0, ms, upd_same, ?_, e2, Nat.le_refl _⟩
    rw [upd_ne (ne_of_none upd_same hp), upd_same, e1]
theorem draw_a (x : Int) {b : Nat} (h : b < 2 ^ 20) : (x % 2147483579 + 62511 * (b : Int) + 687).natAbs < 2 ^ 64 := by omega
theorem draw_b (y : Int) {j : Int} : CMul (y % 2147483543) j := .inl ⟨by omega, by omega⟩
theorem draw_c (y : Int) {b : Nat} (h : b < 2 ^ 20) : (y % 2147483543 * (2 * (b : Int) + 109) + 71671 * (b : Int) * (b : Int) + 81).natAbs < 2 ^ 64 := by
  have h1 : 0 ≤ y % 2147483543 := by omega
  have h2 : y % 2147483543 ≤ 2147483543 := by omega
  generalize y % 2147483543 = u at h1 h2
  have a1 : u * (2 * (b : Int) + 109) ≤ 2147483543 * 3000000 := Int.mul_le_mul h2 (by omega) (by omega) (by omega)
  have a0 : 0 ≤ u * (2 * (b : Int) + 109) := Int.mul_nonneg h1 (by omega)
  have c1 : 71671 * (b : Int) * (b : Int) ≤ 80000000000 * 1048576 := Int.mul_le_mul (by omega) (by omega) (by omega) (by omega)
  have c0 : 0 ≤ 71671 * (b : Int) * (b : Int) := Int.mul_nonneg (by omega) (by omega)
  omega
def spDraw (K : PySem.W.Frag) : Sp := fun vs H Q _ => ∃ (p c : Addr) (B m : Nat), vs = [.ref p, .int m] ∧ Pen H p c B ∧ B < 2 ^ 20 ∧ 0 < m ∧ m ≤ 1000 ∧ ∀ H' d, SameBut p H H' → Pen H' p c (B + 1) → d < m → Q (.int (d : Nat)) H'
theorem ok_law_draw (T : Ctx K mg h) : OkN P w K mg base 1 (He.ga K "_law_draw") ["_law_pen_here", "_law_many"] (spDraw K) := by
  refine okN (K := K) T.f_law_draw sc_law_draw (fun _ _ _ _ _ _ us hl => match us, hl with | [_, _], _ => rfl) (fun vs H Q E h => ?_) (fun cdv A outer s H vs Q E hr h => ?_)
  · obtain ⟨p, c, B, m, rfl, hP, hB, h0, hm, q⟩ := h
    rfl
  · obtain ⟨p, c, B, m, rfl, hP, hB, h0, hm, q⟩ := h
    refine ⟨_, PSs.nox (pss_cons (ps_if (pt_cmpR op_gt (pe_ix ix_list (pv 0) pe_int (fun _ _ => rfl)) pe_int (nomark _)) (pss_cons (ps_set (i := 2) sc_law_draw.nd rfl (by first | exact .inl rfl | exact .inr rfl) (pe_op op_mod (pe_callTy call_int1 (by rfl) T.b_int (by decide +kernel) (pa_cons (pe_ix ix_list (pv 0) pe_int (fun _ _ => rfl)) pa_nil)) (pv 1)))
      (pss_cons (ps_asg (pe_op op_fdiv (pe_callTy call_int1 (by rfl) T.b_int (by decide +kernel) (pa_cons (pe_ix ix_list (pv 0) pe_int (fun _ _ => rfl)) pa_nil)) (pv 1)) (pg_sub (pv 0) pe_int set_list))
      (pss_one (ps_ret (pv 2))))) pss_nil)
      (pss_cons (ps_set (i := 3) sc_law_draw.nd rfl (by first | exact .inl rfl | exact .inr rfl) (pe_ix ix_list (pv 0) pe_int (fun _ _ => rfl)))
      (pss_cons (ps_asg (pe_op op_add (pv 3) pe_int) (pg_sub (pv 0) pe_int set_list))
      (pss_cons (ps_set (i := 4) sc_law_draw.nd rfl (by first | exact .inl rfl | exact .inr rfl) (pe_op op_add (pe_op op_mul pe_int (pv 3)) pe_int))
      (pss_cons (ps_if (pt_cmpR (op_neDZ hr.units) (pe_ix ix_list (pv 0) pe_int (fun _ _ => rfl)) (pe_lst pa_nil) (nomark _)) (pss_one (ps_set (i := 4) sc_law_draw.nd rfl (by first | exact .inl rfl | exact .inr rfl) (pe_ix ix_list (pe_ix ix_list (pv 0) pe_int (fun _ _ => rfl)) (pe_op op_mod (pe_callTy call_int1 (by rfl) T.b_int (by decide +kernel) (pa_cons (pv 3) pa_nil)) (pe_callB call_len_seq (by rfl) T.b_len (by decide +kernel) (pa_cons (pe_ix ix_list (pv 0) pe_int (fun _ _ => rfl)) pa_nil))) (fun _ _ => rfl)))) pss_nil)
      (pss_cons (ps_if (PW.pt (pw_and (pt_cmpR op_lt (pv 3) (pe_callB call_len_seq (by rfl) T.b_len (by decide +kernel) (pa_cons (pe_ix ix_list (pv 0) pe_int (fun _ _ => rfl)) pa_nil)) (nomark _)) (pw_and1 (pt_cmpR op_ge (pe_callB call_abs (by rfl) T.b_abs (by decide +kernel) (pa_cons (pv 4) pa_nil)) (pe_op op_pow pe_int pe_int) (nomark _))))) (pss_cons (ps_set (i := 5) sc_law_draw.nd rfl (by first | exact .inl rfl | exact .inr rfl) (pe_op op_add (pe_op op_mul pe_int (pe_op op_sub (pe_callB call_abs (by rfl) T.b_abs (by decide +kernel) (pa_cons (pv 4) pa_nil)) (pe_op op_pow pe_int pe_int))) (pe_callTy call_int1 (by rfl) T.b_int (by decide +kernel) (pa_cons (pe_cmpR op_lt (pv 4) pe_int (nomark _)) pa_nil))))
      (pss_cons (ps_asg (pe_op op_fdiv (pe_callTy call_int1 (by rfl) T.b_int (by decide +kernel) (pa_cons (pv 5) pa_nil)) (pv 1)) (pg_sub (pv 0) pe_int set_list))
      (pss_one (ps_ret (pe_op op_mod (pe_callTy call_int1 (by rfl) T.b_int (by decide +kernel) (pa_cons (pv 5) pa_nil)) (pv 1)))))) pss_nil)
      (pss_cons (ps_set (i := 6) sc_law_draw.nd rfl (by first | exact .inl rfl | exact .inr rfl) (pe_op op_mod (pe_callTy call_int1 (by rfl) T.b_int (by decide +kernel) (pa_cons (pe_op op_pow (pe_op op_add (pe_op op_add (pe_op op_mod (pe_callTy call_int1 (by rfl) T.b_int (by decide +kernel) (pa_cons (pv 4) pa_nil)) pe_int) (pe_op op_mul pe_int (pv 3))) pe_int) pe_int) pa_nil)) pe_int))
      (pss_cons (ps_set (i := 6) sc_law_draw.nd rfl (by first | exact .inl rfl | exact .inr rfl) (pe_op op_mod (pe_callTy call_int1 (by rfl) T.b_int (by decide +kernel) (pa_cons (pe_op op_pow (pe_op op_add (pe_op op_add (pe_op op_mul (pv 6) (pe_op op_add (pe_op op_mul pe_int (pv 3)) pe_int)) (pe_op op_mul (pe_op op_mul pe_int (pv 3)) (pv 3))) pe_int) pe_int) pa_nil)) pe_int))
      (pss_one (ps_ret (pe_op op_mod (pe_callTy call_int1 (by rfl) T.b_int (by decide +kernel) (pa_cons (pe_op op_fdiv (pv 6) pe_int) pa_nil)) (pv 1)))))))))))), ?_⟩
    obtain ⟨b, r, ns, hp, hc, hl, hb⟩ := hP
    have ncp : c ≠ p := fun z => by
      rw [z, hp] at hc
      have e := HO.lst.inj (Option.some.inj hc)
      cases ns with
      | nil => cases e
      | cons x r => cases e
    have q' : ∀ H' (x : Int), SameBut p H H' → Pen H' p c (B + 1) → Q (.int (x % (m : Int))) H' := fun H' x a b => by
      obtain ⟨d, e1, e2⟩ := emod_nat x h0
      rw [e1]
      exact q H' d a b e2
    have m0 : (0 : Int) < (m : Int) := by omega
    refine ⟨_, rfl, p, _, 2, _, rfl, rfl, SqL.of hp, rfl, _, _, rfl, rfl, _, rfl, ite2 (fun k => ?_) (fun k => ?_)⟩
    · refine ⟨_, rfl, p, _, 2, _, rfl, rfl, SqL.of hp, rfl, .inl ⟨_, rfl, _, rfl, _, _, rfl, rfl, m0, ?_⟩⟩
      refine ⟨_, rfl, p, _, 2, _, rfl, rfl, SqL.of hp, rfl, .inl ⟨_, rfl, _, rfl, _, _, rfl, rfl, ⟨by omega, by omega⟩, ?_⟩⟩
      refine ⟨_, rfl, p, _, 2, 2, rfl, rfl, hp, rfl, _, rfl, ?_⟩
      refine q' _ r (SameBut.put (SameBut.refl _ _)) ⟨b, r / (m : Int), ns, upd_same, ?_, hl, by omega⟩
      rw [upd_ne ncp]
      exact hc
    · -- a cell of the script, or one made of the place
      refine ⟨_, rfl, p, _, 1, _, rfl, rfl, SqL.of hp, rfl, ?_⟩
      refine ⟨_, rfl, _, _, rfl, rfl, _, rfl, p, _, 1, 1, rfl, rfl, hp, rfl, ?_⟩
      refine ⟨_, rfl, _, _, rfl, rfl, .inl ⟨by decide, by decide⟩, _, _, rfl, rfl, ?_⟩
      generalize hH1 : upd H p _ = H1
      have hp1 : H1 p = some (.lst [.ref c, .int ((b : Int) + 1), .int r]) := by
        rw [← hH1]
        exact upd_same
      have hc1 : H1 c = some (.lst (ns.map V.int)) := by
        rw [← hH1, upd_ne ncp]
        exact hc
      have e1 : SameBut p H H1 := by
        rw [← hH1]
        exact SameBut.put (SameBut.refl _ _)
      refine ⟨_, rfl, p, _, 0, _, rfl, rfl, SqL.of hp1, rfl, Nat.zero_le _, fun l hl2 => ?_⟩
      have n2 : Same H1 (upd H1 l (.lst [])) := Same.new hl2
      refine neNil (SqL.of (n2 _ _ hc1)) (SqL.of upd_same) (dp_ints ns) (shaped_ints ns) ⟨_, rfl, ?_⟩
      generalize upd H1 l (HO.lst []) = H2 at n2
      have hp2 := n2 _ _ hp1
      have hc2 := n2 _ _ hc1
      have e2 : SameBut p H H2 := e1.trans (SameBut.of n2)
      have fin : ∀ r' : Int, Pen (upd H2 p (.lst [.ref c, .int ((b : Int) + 1), .int r'])) p c (B + 1) := fun r' => ⟨b + 1, r', ns, upd_same, by rw [upd_ne ncp]; exact hc2, hl, by omega⟩
      have fin2 : Pen H2 p c (B + 1) := ⟨b + 1, r, ns, hp2, hc2, hl, by omega⟩
      have cp : CPow 10 18 := ⟨by decide, by decide, by decide⟩
      refine ite2 (fun k => ?a) (fun k => ?b)
      case' a =>
        have hne : 0 < ns.length := by
          cases ns with
          | nil => cases k
          | cons x r => exact Nat.succ_pos _
        obtain ⟨i, ei, hi⟩ := emod_nat (b : Int) hne
        have hlen : (((ns.map V.int).length : Nat) : Int) = (ns.length : Nat) := by rw [List.length_map]
        have at_ : atI (ns.map V.int) ((b : Int) % (((ns.map V.int).length : Nat) : Int)) = some (.int (ns[i])) := by
          rw [hlen, ei]
          exact atI_nat (by rw [List.getElem?_map, List.getElem?_eq_getElem hi]; rfl)
        refine ⟨_, rfl, p, _, 0, _, rfl, rfl, SqL.of hp2, rfl, _, rfl, .inl ⟨_, rfl, _, rfl, p, _, 0, _, rfl, rfl, SqL.of hp2, rfl, c, _, rfl, .inl (SqL.of hc2), _, _, rfl, rfl, ?_, c, _, _, _, rfl, rfl, SqL.of hc2, at_, ?_⟩⟩
        · rw [hlen]
          omega
      all_goals
        refine ⟨_, rfl, _, rfl, p, _, 0, _, rfl, rfl, SqL.of hp2, rfl, c, _, rfl, .inl (SqL.of hc2), _, _, rfl, rfl, _, rfl, ite2 (fun k2 => ?_) (fun k2 => ?_)⟩
        case' refine_1 =>
          refine ⟨_, rfl, _, rfl, _, _, rfl, rfl, cp, _, _, rfl, rfl, _, rfl, ite2 (fun k3 => ?_) (fun k3 => ?_)⟩
          · refine ⟨_, rfl, _, rfl, _, _, rfl, rfl, cp, _, _, rfl, rfl, _, _, rfl, rfl, .inl ⟨by decide, by decide⟩, _, rfl, _, _, rfl, rfl, .inr ⟨_, rfl, _, _, rfl, rfl, ?_⟩⟩
            refine ⟨_, rfl, .inl ⟨_, rfl, _, rfl, _, _, rfl, rfl, ⟨by omega, by omega⟩, _, rfl, p, _, 2, 2, rfl, rfl, hp2, rfl, ?_⟩⟩
            exact ⟨_, rfl, .inl ⟨_, rfl, _, rfl, _, _, rfl, rfl, m0, q' _ _ (SameBut.put e2) (fin _)⟩⟩
        all_goals
          refine ⟨_, rfl, .inl ⟨_, rfl, _, _, rfl, rfl, (by show (0 : Int) < 2147483579; decide), _, rfl, _, _, rfl, rfl, .inl ⟨by decide, by decide⟩, _, _, rfl, rfl, _, _, rfl, rfl, _, _, rfl, rfl, ⟨by decide, by decide, draw_a _ (by omega)⟩, .inl ⟨_, rfl, _, _, rfl, rfl, (by show (0 : Int) < 2147483543; decide), ?_⟩⟩⟩
          refine ⟨_, rfl, _, rfl, _, _, rfl, rfl, .inl ⟨by decide, by decide⟩, _, _, rfl, rfl, _, _, rfl, rfl, draw_b _, _, rfl, _, _, rfl, rfl, .inl ⟨by decide, by decide⟩, _, rfl, _, _, rfl, rfl, .inr ⟨by omega, by omega⟩, _, _, rfl, rfl, _, _, rfl, rfl, _, _, rfl, rfl, ⟨by decide, by decide, draw_c _ (by omega)⟩, .inl ⟨_, rfl, _, _, rfl, rfl, (by show (0 : Int) < 2147483647; decide), ?_⟩⟩
          exact ⟨_, rfl, _, _, rfl, rfl, ⟨by decide, by decide⟩, .inl ⟨_, rfl, _, rfl, _, _, rfl, rfl, m0, q' _ _ e2 fin2⟩⟩
end R35
namespace R35
open PySem PySem.Spec PyProof.Rows L2 RC
variable {P : Program} {w : World} {K : PySem.W.Frag} {mg : Str → Option Value} {base h : Heap}
def spPick (K : PySem.W.Frag) : Sp := fun vs H Q _ => ∃ (p c a : Addr) (B : Nat) (xs : List V), vs = [.ref p, .ref a] ∧ Pen H p c B ∧ B < 2 ^ 20 ∧ H a = some (.lst xs) ∧ a ≠ p ∧ 0 < xs.length ∧ xs.length ≤ 1000 ∧
  ∀ H' v, SameBut p H H' → Pen H' p c (B + 1) → v ∈ xs → Q v H'
theorem ok_law_pick (T : Ctx K mg h) : OkN P w K mg base 2 (He.ga K "_law_pick") ["_law_pen_here", "_law_some"] (spPick K) := by
  obtain ⟨_, G_law_draw, b_law_draw, k_law_draw⟩ := ok_law_draw (P := P) (w := w) (base := base) T
  refine okN (K := K) T.f_law_pick sc_law_pick (fun _ _ _ _ _ _ us hl => match us, hl with | [_, _], _ => rfl) (fun vs H Q E h => ?_) (fun cdv A outer s H vs Q E hr h => ?_)
  · obtain ⟨p, c, a, B, xs, rfl, hP, hB, ha, hne, h0, hl, q⟩ := h
    rfl
  · obtain ⟨p, c, a, B, xs, rfl, hP, hB, ha, hne, h0, hl, q⟩ := h
    refine ⟨_, PSs.nox (pss_one (ps_ret (pe_ix ix_list (pv 1) (pe_call G_law_draw (hr.mono (by decide)) (by rfl) T.g_law_draw k_law_draw b_law_draw .nil pass0 (pa_cons (pv 0) (pa_cons (pe_callB call_len_seq (by rfl) T.b_len (by decide +kernel) (pa_cons (pv 1) pa_nil)) pa_nil))) (fun _ _ => rfl)))), ?_⟩
    refine ⟨_, rfl, _, rfl, _, rfl, a, _, rfl, .inl (SqL.of ha), p, c, B, xs.length, rfl, hP, hB, h0, hl, fun H' d e P' hd => ?_⟩
    exact ⟨a, xs, _, xs[d], rfl, rfl, SqL.of (e _ _ hne ha), atI_nat (List.getElem?_eq_getElem hd), q _ _ e P' (List.getElem_mem hd)⟩
def spFactor (K : PySem.W.Frag) : Sp := fun vs H Q _ => ∃ (p c : Addr) (B : Nat), vs = [.ref p] ∧ Pen H p c B ∧ B + 2 < 2 ^ 20 ∧ ∀ H' (x : Int), SameBut p H H' → Pen H' p c (B + 2) → x.natAbs ≤ 20 → Q (.int x) H'
theorem ok_law_factor (T : Ctx K mg h) : OkN P w K mg base 3 (He.ga K "_law_factor") ["_law_pen_here"] (spFactor K) := by
  obtain ⟨_, G_law_pick, b_law_pick, k_law_pick⟩ := ok_law_pick (P := P) (w := w) (base := base) T
  obtain ⟨_, G_law_draw, b_law_draw, k_law_draw⟩ := ok_law_draw (P := P) (w := w) (base := base) T
  refine okN (K := K) T.f_law_factor sc_law_factor (fun _ _ _ _ _ _ us hl => match us, hl with | [_], _ => rfl) (fun vs H Q E h => ?_) (fun cdv A outer s H vs Q E hr h => ?_)
  · obtain ⟨p, c, B, rfl, hP, hB, q⟩ := h
    rfl
  · obtain ⟨p, c, B, rfl, hP, hB, q⟩ := h
    refine ⟨_, PSs.nox (pss_one (ps_ret (pe_call G_law_pick (hr.mono (by decide)) (by rfl) T.g_law_pick k_law_pick b_law_pick .nil pass0 (pa_cons (pv 0) (pa_cons (pe_lst (pa_cons pe_int (pa_cons pe_int (pa_cons pe_int (pa_cons (pe_un un_neg pe_int) (pa_cons pe_int (pa_cons (pe_un un_neg pe_int) (pa_cons pe_int (pa_cons (pe_un un_neg pe_int) (pa_cons (pe_op op_sub (pe_call G_law_draw (hr.mono (by decide)) (by rfl) T.g_law_draw k_law_draw b_law_draw .nil pass0 (pa_cons (pv 0) (pa_cons pe_int pa_nil))) pe_int) pa_nil)))))))))) pa_nil))))), ?_⟩
    refine ⟨_, rfl, _, rfl, _, rfl, _, rfl, _, rfl, p, c, B, 40, rfl, hP, by omega, by decide, by decide, fun H1 d e1 P1 hd => ?_⟩
    refine ⟨_, _, rfl, rfl, (by show 9 ≤ sizeLine; decide), fun l hl => ?_⟩
    obtain ⟨ys, _, hy, _⟩ := P1.has
    have e2 : Same H1 (upd H1 l (.lst [.int 0, .int 0, .int 1, .int (-1), .int 2, .int (-2), .int 3, .int (-5), .int ((d : Int) - 20)])) := Same.new hl
    refine ⟨p, c, l, B + 1, _, rfl, P1.same e2, by omega, upd_same, (ne_of_none hy hl).symm, (by show 0 < 9; decide), (by show 9 ≤ 1000; decide), fun H2 v e3 P2 hv => ?_⟩
    have big : ∃ x : Int, v = .int x ∧ x.natAbs ≤ 20 := by
      simp only [List.mem_cons, List.not_mem_nil, or_false] at hv
      rcases hv with e | e | e | e | e | e | e | e | e <;> exact ⟨_, e, by omega⟩
    obtain ⟨x, rfl, hx⟩ := big
    exact q _ x ((e1.trans (SameBut.of e2)).trans e3) P2 hx
def spForm (K : PySem.W.Frag) : Sp := fun vs H Q _ => ∃ (p c : Addr) (B m : Nat), vs = [.ref p, .int m] ∧ Pen H p c B ∧ B + 2 * m + 2 < 2 ^ 20 ∧ m ≤ 8 ∧
  ∀ H' t (fs : List Int), SameBut p H H' → Pen H' p c (B + 2 * m) → H t = none → H' t = some (.tup (fs.map V.int)) → fs.length = m → (∀ f, f ∈ fs → f.natAbs ≤ 20) → Q (.ref t) H'
theorem ok_law_form (T : Ctx K mg h) : OkN P w K mg base 4 (He.ga K "_law_form") ["_law_pen_here", "_law_many"] (spForm K) := by
  obtain ⟨_, G_law_factor, b_law_factor, k_law_factor⟩ := ok_law_factor (P := P) (w := w) (base := base) T
  refine okN (K := K) T.f_law_form sc_law_form (fun _ _ _ _ _ _ us hl => match us, hl with | [_, _], _ => rfl) (fun vs H Q E h => ?_) (fun cdv A outer s H vs Q E hr h => ?_)
  · obtain ⟨p, c, B, m, rfl, hP, hB, hm, q⟩ := h
    rfl
  · obtain ⟨p, c, B, m, rfl, hP, hB, hm, q⟩ := h
    refine ⟨_, PSs.nox (pss_one (ps_ret (pe_callTy call_tuple_of (by rfl) T.b_tuple (by decide +kernel) (pa_cons (pe_lc (own := [("_law_k", 2)]) (g := gName 2) (by rfl) sc_law_form.nd (pi_range1 (by rfl) T.b_range (pa_cons (pv 1) pa_nil)) (blkOk_by (own := [("_law_k", 2)]) (N := N_law_form) (sc := defScope s_law_form) (by decide +kernel)) (fun _ _ _ _ _ => (pg_name (i := 2) sc_law_form.nd rfl (by first | exact .inl rfl | exact .inr rfl))) (fun _ _ _ _ _ => pts_nil) (fun _ _ _ _ _ => (pe_call G_law_factor (hr.mono (by decide)) (by rfl) T.g_law_factor k_law_factor b_law_factor .nil pass0 (pa_cons (pv 0) pa_nil)))) pa_nil)))), ?_⟩
    obtain ⟨_, _, hpx, hcx⟩ := hP.has
    refine ⟨_, rfl, _, rfl, by omega, by omega, fun D hD => lcx (walk_r (n := m)) (fun i H' => SameBut p H H' ∧ Pen H' p c (B + 2 * i)) (fun i v H' => ∃ x : Int, v = .int x ∧ x.natAbs ≤ 20) hD (Nat.le_trans hm (by decide))
      (fun i H' o I => ⟨I.1.upd hD, I.2.upd (ne_of_none hpx hD) (ne_of_none hcx hD)⟩) (fun i v H' o h => h) ⟨SameBut.refl _ _, hP⟩ (fun _ _ _ _ => True.intro) (fun i x H2 H3 acc Qe hi I hacc hlen Y k => ?_) mono_yes mono_name fun H2 acc I2 hacc hlen hp2 => ?_⟩
    · obtain ⟨rfl, rfl⟩ := Y
      refine ⟨rfl, _, rfl, p, c, B + 2 * i, rfl, I.2, by omega, fun H4 x e4 P4 hx => ?_⟩
      exact k _ H4 ⟨I.1.trans e4, P4⟩ (e4 _ _ (ne_of_none hpx hD).symm hacc) ⟨x, rfl, hx⟩ fun _ _ _ h => h
    · obtain ⟨fs, rfl, fl, fb⟩ := acc_ints (R := fun x => x.natAbs ≤ 20) hlen hp2
      refine ⟨D, _, rfl, .inl ⟨SqL.of hacc, fun t ht => ?_⟩⟩
      obtain ⟨_, _, hp2', _⟩ := I2.2.has
      have nt : t ≠ p := (ne_of_none hp2' ht).symm
      have t0 : H t = none := by
        cases hx : H t with
        | none => rfl
        | some o => rw [I2.1 _ _ nt hx] at ht; cases ht
      exact q _ t fs (I2.1.trans (SameBut.of (Same.new ht))) (I2.2.same (Same.new ht)) t0 upd_same fl fb
def spValue (K : PySem.W.Frag) : Sp := fun vs H Q _ => ∃ (a b : Addr) (tb : Bool) (fs xs : List Int), vs = [.ref a, .ref b] ∧ SqT K H a (fs.map V.int) ∧ SqB K H b (xs.map V.int) tb ∧ fs.length = xs.length ∧ fs.length ≤ 100 ∧ (∀ f, f ∈ fs → f.natAbs < 2 ^ 60) ∧
  ∀ H', Same H H' → Q (.int (dot fs xs)) H'
theorem ok_law_value (T : Ctx K mg h) : OkN P w K mg base 1 (He.ga K "_law_value") ["_law_form_here", "_law_numbers"] (spValue K) := by
  refine okN (K := K) T.f_law_value sc_law_value (fun _ _ _ _ _ _ us hl => match us, hl with | [_, _], _ => rfl) (fun vs H Q E h => ?_) (fun cdv A outer s H vs Q E hr h => ?_)
  · obtain ⟨a, b, tb, fs, xs, rfl, hF, hX, hlen, hl, hz, q⟩ := h
    rfl
  · obtain ⟨a, b, tb, fs, xs, rfl, hF, hX, hlen, hl, hz, q⟩ := h
    refine ⟨_, PSs.nox (pss_one (ps_ret (pe_callB (cr_sum rfl) (by rfl) T.b_sum (by decide +kernel) (pa_cons (pe_lc (own := [("_law_one", 2), ("_law_other", 3)]) (by rfl) sc_law_value.nd (pi_zipM true tb (by rfl) T.b_zip (pa_cons (pv 0) (pa_cons (pv 1) pa_nil))) (blkOk_by (own := [("_law_one", 2), ("_law_other", 3)]) (N := N_law_value) (sc := defScope s_law_value) (by decide +kernel)) (fun _ _ _ _ _ => (pg_tupC (K := K) rfl (n := 2) rfl (pgs_cons (pg_name (i := 2) sc_law_value.nd rfl (by first | exact .inl rfl | exact .inr rfl)) (pgs_cons (pg_name (i := 3) sc_law_value.nd rfl (by first | exact .inl rfl | exact .inr rfl)) pgs_nil)))) (fun _ _ _ _ _ => pts_nil) (fun _ _ _ _ _ => (pe_callTy call_int1 (by rfl) T.b_int (by decide +kernel) (pa_cons (pe_op op_mul (pv 2) (pv 3)) pa_nil)))) pa_nil)))), ?_⟩
    rw [tab_of] at hF hX
    rw [← hlen] at hX
    refine ⟨_, rfl, _, rfl, a, b, _, _, rfl, hF, hX, fun D hD => lcq_zip (n := fs.length) (ta := true) (tb := tb) (fun k => .int (fs.getD k 0)) (fun k => .int (xs.getD k 0)) (fun k => .int (fs.getD k 0 * xs.getD k 0)) hD (Nat.le_trans hl (by decide)) hF hX (fun k hk T0 H0 e0 hT H1 Nx Qe e1 kk => ?_) fun H1 e1 hD1 => ?_⟩
    · have hs : (fs.getD k 0).natAbs < 2 ^ 60 := by
        rw [List.getD_eq_getElem?_getD, List.getElem?_eq_getElem hk]
        exact hz _ (List.getElem_mem hk)
      exact ⟨T0, _, rfl, SqT.of (e1 _ _ upd_same), rfl, _, _, rfl, _, _, rfl, rfl, rfl, _, rfl, _, rfl, _, _, rfl, rfl, .inl ⟨by omega, by omega⟩, .inl ⟨_, rfl, kk _ (Same.refl _)⟩⟩
    · refine ⟨D, (List.range fs.length).map (fun k => fs.getD k 0 * xs.getD k 0), rfl, ?_, ?_⟩
      · rw [tab_map]
        exact SqL.of hD1
      · rw [sum_sm]
        exact q _ e1
end R35
namespace R35
open PySem PySem.Spec PyProof.Rows L2 RC
variable {P : Program} {w : World} {K : PySem.W.Frag} {mg : Str → Option Value} {base h : Heap}
/-! ### the law's own bounds: pairs of a form and whether strict -/
structure Lb where
  tp : Addr
  tf : Addr
  f : List Int
  s : Bool
def dz : Lb := ⟨0, 0, [], false⟩
def zF (zs : List Lb) (j : Nat) : List Int := (zs.getD j dz).f
def zS (zs : List Lb) (j : Nat) : Bool := (zs.getD j dz).s
def ItmAt (K : PySem.W.Frag) (H : Hp) (z : Lb) : Prop := H z.tp = some (.tup [.ref z.tf, .bl z.s]) ∧ H z.tf = some (.tup (z.f.map V.int))
theorem ItmAt.same {H H' : Hp} {z : Lb} (i : ItmAt K H z) (e : Same H H') : ItmAt K H' z := ⟨e _ _ i.1, e _ _ i.2⟩
theorem ItmAt.but {H H' : Hp} {z : Lb} {p : Addr} {xs : List V} (i : ItmAt K H z) (hp : H p = some (.lst xs)) (e : SameBut p H H') : ItmAt K H' z :=
  ⟨e _ _ (ne_of i.1 hp fun q => by cases q) i.1, e _ _ (ne_of i.2 hp fun q => by cases q) i.2⟩
structure LbsAt (K : PySem.W.Frag) (H : Hp) (a : Addr) (zs : List Lb) : Prop where
  lst : H a = some (.lst (zs.map fun z => V.ref z.tp))
  itm : ∀ z, z ∈ zs → ItmAt K H z
theorem LbsAt.same {H H' : Hp} {a : Addr} {zs : List Lb} (l : LbsAt K H a zs) (e : Same H H') : LbsAt K H' a zs := ⟨e _ _ l.lst, fun z hz => (l.itm z hz).same e⟩
theorem LbsAt.but {H H' : Hp} {a p : Addr} {zs : List Lb} {xs : List V} (l : LbsAt K H a zs) (hp : H p = some (.lst xs)) (hne : a ≠ p) (e : SameBut p H H') : LbsAt K H' a zs := ⟨e _ _ hne l.lst, fun z hz => (l.itm z hz).but hp e⟩
/-- all bounds hold at the numbers cs -/
def Keeps (zs : List Lb) (cs : List Int) : Prop := ∀ z, z ∈ zs → 0 ≤ dot z.f cs ∧ (z.s = true → 0 < dot z.f cs)
def badB (z : Lb) (xs : List Int) : Bool := decide (dot z.f xs < 0) || (z.s && decide (dot z.f xs = 0))
def holdsB (zs : List Lb) (xs : List Int) : Bool := zs.all fun z => !badB z xs
theorem bad_no {z : Lb} {xs : List Int} : badB z xs = false ↔ 0 ≤ dot z.f xs ∧ (z.s = true → 0 < dot z.f xs) := by
  unfold badB
  rw [Bool.or_eq_false_iff, decide_eq_false_iff_not, Bool.and_eq_false_iff, decide_eq_false_iff_not]
  constructor
  · rintro ⟨h1, h2⟩
    refine ⟨by omega, fun hs => ?_⟩
    rcases h2 with h | h
    · rw [hs] at h
      cases h
    · omega
  · rintro ⟨h1, h2⟩
    refine ⟨by omega, ?_⟩
    cases hs : z.s with
    | false => exact .inl rfl
    | true =>
      have := h2 hs
      exact .inr (by omega)
theorem holdsB_iff {zs : List Lb} {xs : List Int} : holdsB zs xs = true ↔ Keeps zs xs := by
  unfold holdsB Keeps
  rw [List.all_eq_true]
  constructor
  · intro h z hz
    exact bad_no.mp (by simpa using h z hz)
  · intro h z hz
    have := bad_no.mpr (h z hz)
    simpa using this
def spHolds (K : PySem.W.Frag) : Sp := fun vs H Q _ => ∃ (a b : Addr) (tb : Bool) (zs : List Lb) (xs : List Int), vs = [.ref a, .ref b] ∧ LbsAt K H a zs ∧ SqB K H b (xs.map V.int) tb ∧ xs.length ≤ 100 ∧
  (∀ z, z ∈ zs → z.f.length = xs.length ∧ ∀ f, f ∈ z.f → f.natAbs < 2 ^ 60) ∧ ∀ H', Same H H' → Q (.bl (holdsB zs xs)) H'
theorem ok_law_holds (T : Ctx K mg h) : OkN P w K mg base 2 (He.ga K "_law_holds") ["_law_bounds", "_law_numbers"] (spHolds K) := by
  obtain ⟨_, G_law_value, b_law_value, k_law_value⟩ := ok_law_value (P := P) (w := w) (base := base) T
  refine okN (K := K) T.f_law_holds sc_law_holds (fun _ _ _ _ _ _ us hl => match us, hl with | [_, _], _ => rfl) (fun vs H Q E h => ?_) (fun cdv A outer s H vs Q E hr h => ?_)
  · obtain ⟨a, b, tb, zs, xs, rfl, hL, hX, hl, hz, q⟩ := h
    rfl
  · obtain ⟨a, b, tb, zs, xs, rfl, hL, hX, hl, hz, q⟩ := h
    refine ⟨_, PSs.nox (pss_cons (ps_for PassesOwn.never rfl (pi_list (pv 0)) (pg_tup (n := 2) rfl (pgs_cons (pg_name (i := 2) sc_law_holds.nd rfl (by first | exact .inl rfl | exact .inr rfl)) (pgs_cons (pg_name (i := 3) sc_law_holds.nd rfl (by first | exact .inl rfl | exact .inr rfl)) pgs_nil)))
      (pss_cons (ps_set (i := 4) sc_law_holds.nd rfl (by first | exact .inl rfl | exact .inr rfl) (pe_call G_law_value (hr.mono (by decide)) (by rfl) T.g_law_value k_law_value b_law_value .nil pass0 (pa_cons (pv 2) (pa_cons (pv 1) pa_nil))))
      (pss_one (ps_if (PW.pt (pw_or (pt_cmpR op_lt (pv 4) pe_int (nomark _)) (pw_or1 (PW.pt (pw_and (pt_val (pv 3)) (pw_and1 (pt_cmpR op_eq (pv 4) pe_int (nomark _)))))))) (pss_one (ps_ret pe_bl)) pss_nil))))
      (pss_one (ps_ret pe_bl))), ?_⟩
    refine ⟨_, rfl, a, rfl, ⟨_, SqL.of hL.lst⟩, for_list (xs := zs.map fun z => V.ref z.tp) (fun i σ H' => Same H H' ∧ (∀ z, z ∈ zs.take i → badB z xs = false) ∧ ∃ u v y, σ = [some (.ref a), some (.ref b), u, v, y]) ⟨Same.refl _, (fun z h => by rw [List.take_zero] at h; cases h), _, _, _, rfl⟩ (fun i σ H' _ P => SqL.of (P.1 _ _ hL.lst)) (fun i x σ H' hx P => ?_) fun σ H' P => ?_⟩
    · obtain ⟨e, h0, u, v, y, rfl⟩ := P
      rw [List.getElem?_map] at hx
      cases hi : zs[i]? with
      | none => rw [hi] at hx; cases hx
      | some z =>
        rw [hi] at hx
        cases hx
        have hm := List.mem_of_getElem? hi
        have it := (hL.itm z hm).same e
        obtain ⟨h1, h2⟩ := hz z hm
        have bad : badB z xs = true → holdsB zs xs = false := fun hb => by
          unfold holdsB
          rw [List.all_eq_false]
          exact ⟨z, hm, by rw [hb]; decide⟩
        refine ⟨z.tp, _, rfl, SqT.of it.1, rfl, _, _, rfl, _, _, rfl, rfl, _, rfl, _, rfl, z.tf, b, tb, z.f, xs, rfl, SqT.of it.2, Same.seqB e hX, h1, by omega, h2, fun H2 e2 => ?_⟩
        have out : badB z xs = true → Q (.bl false) H2 := fun hb => by
          have q2 := q _ (e.trans e2)
          rw [bad hb] at q2
          exact q2
        have go : ∀ b' : Bool, badB z xs = false → (Same H H2 ∧ (∀ y, y ∈ zs.take (i + 1) → badB y xs = false) ∧ ∃ u v y, [some (V.ref a), some (.ref b), some (.ref z.tf), some (.bl b'), some (.int (dot z.f xs))] = [some (V.ref a), some (.ref b), u, v, y]) := fun b' hb => by
          refine ⟨e.trans e2, fun y hy => ?_, _, _, _, rfl⟩
          rw [take_succ hi] at hy
          rcases List.mem_append.mp hy with k | k
          · exact h0 y k
          · rw [List.mem_singleton.mp k]
            exact hb
        refine ⟨_, rfl, _, _, rfl, rfl, _, rfl, ite2 (fun k => ?_) (fun k => ?_)⟩
        · exact iteT (out (by unfold badB; rw [k, Bool.true_or]))
        · have k1 : decide (dot z.f xs < 0) = false := Bool.eq_false_iff.mpr k
          refine ⟨_, rfl, _, rfl, ?_⟩
          cases hs : z.s with
          | false => exact iteF (iteF (go _ (by unfold badB; rw [k1, hs]; rfl)))
          | true =>
            refine iteT ⟨_, rfl, rfl, _, rfl, ?_⟩
            by_cases c : dot z.f xs = 0
            · exact iteD (congrArg V.int c) (out (by unfold badB; rw [k1, hs, decide_eq_true c]; rfl))
            · exact iteDF (fun w => c (V.int.inj w)) (go _ (by unfold badB; rw [k1, hs, decide_eq_false c]; rfl))
    · obtain ⟨e, h0, u, v, y, rfl⟩ := P
      rw [List.length_map, List.take_length] at h0
      have ht : holdsB zs xs = true := by
        unfold holdsB
        rw [List.all_eq_true]
        intro z hz
        rw [h0 z hz]
        rfl
      rw [ht] at q
      exact q _ e
def spAsBounds (K : PySem.W.Frag) : Sp := fun vs H Q _ => ∃ (a : Addr) (zs : List Lb) (many : Nat), vs = [.ref a] ∧ LbsAt K H a zs ∧ zs.length ≤ 100 ∧ many ≤ 8 ∧ (∀ z, z ∈ zs → z.f.length = many) ∧
  ∀ H' D pf, Same H H' → H D = none → H' D = some (.lst (tab zs.length fun j => V.ref (pf j))) → BsAt K H' D false zs.length many pf (zF zs) (zS zs) → Q (.ref D) H'
theorem ok_law_as_bounds (T : Ctx K mg h) : OkN P w K mg base 5 (He.ga K "_law_as_bounds") ["_law_bounds"] (spAsBounds K) := by
  obtain ⟨_, G_Bound_init, b_Bound_init, k_Bound_init⟩ := ok_Bound_init (P := P) (w := w) (base := base) T
  refine okN (K := K) T.f_law_as_bounds sc_law_as_bounds (fun _ _ _ _ _ _ us hl => match us, hl with | [_], _ => rfl) (fun vs H Q E h => ?_) (fun cdv A outer s H vs Q E hr h => ?_)
  · obtain ⟨a, zs, many, rfl, hL, hl, hm, hz, q⟩ := h
    rfl
  · obtain ⟨a, zs, many, rfl, hL, hl, hm, hz, q⟩ := h
    refine ⟨_, PSs.nox (pss_one (ps_ret (pe_lc (own := [("_law_form_here", 1), ("_law_is_so", 2)]) (by rfl) sc_law_as_bounds.nd (pi_list (pv 0)) (blkOk_by (own := [("_law_form_here", 1), ("_law_is_so", 2)]) (N := N_law_as_bounds) (sc := defScope s_law_as_bounds) (by decide +kernel)) (fun _ _ _ _ _ => (pg_tupC (K := K) rfl (n := 2) rfl (pgs_cons (pg_name (i := 1) sc_law_as_bounds.nd rfl (by first | exact .inl rfl | exact .inr rfl)) (pgs_cons (pg_name (i := 2) sc_law_as_bounds.nd rfl (by first | exact .inl rfl | exact .inr rfl)) pgs_nil)))) (fun _ _ _ _ _ => pts_nil) (fun _ _ _ _ _ => (pe_make T.mk_Bound G_Bound_init (hr.mono (by decide)) (by rfl) T.g_Bound b_Bound_init .nil pass0 (pa_cons (pv 1) (pa_cons (pv 2) pa_nil))))))), ?_⟩
    have lst : H a = some (.lst (tab zs.length fun j => V.ref (zs.getD j dz).tp)) := by
      rw [← tab_list dz fun z => V.ref z.tp]
      exact hL.lst
    refine ⟨_, rfl, a, rfl, ⟨_, SqL.of lst⟩, fun D hD => lcx (walk_list (xs := tab zs.length fun j => V.ref (zs.getD j dz).tp)) (fun i H' => Same H H') (fun i v H' => ∃ r, v = .ref r ∧ r ≠ D ∧ ∃ dx, H' r = some (.ins (He.ga K "Bound") dx (bfs (zs.getD i dz).tf (zS zs i)))) hD (by rw [tab_length]; exact Nat.le_trans hl (by decide))
      (fun i H' o I => Same.upd I hD) (fun i v H' o ⟨r, e, hne, dx, hr⟩ => ⟨r, e, hne, dx, by rw [upd_ne hne]; exact hr⟩) (Same.refl _) (fun i H' _ I => SqL.of (I _ _ lst)) (fun i x H2 H3 acc Qe hi I hacc hlen Y k => ?_) mono_yes mono_pair fun H2 acc I2 hacc hlen hp2 => ?_⟩
    · rw [tab_length] at hi
      obtain ⟨rfl, hx⟩ := Y
      obtain ⟨_, rfl⟩ := tab_inv hx
      have hm' := getX_mem (d := dz) hi
      have it := (hL.itm _ hm').same I
      refine ⟨(zs.getD i dz).tp, _, rfl, SqT.of it.1, rfl, _, _, rfl, _, _, rfl, rfl, rfl, _, rfl, _, rfl, fun x dx hx hdx hne => ⟨x, dx, (zs.getD i dz).tf, (zs.getD i dz).f, (zs.getD i dz).s, rfl, by rw [hz _ hm']; exact hm, ?_, upd_same, fun H4 e4 h4 => ⟨rfl, ?_⟩⟩⟩
      · exact SqT.of (Same.upd (Same.new hdx) hx _ _ it.2)
      · have e34 := Same.ofNew hx hdx e4
        exact k (.ref x) H4 (I.trans e34) (e34 _ _ hacc) ⟨x, rfl, (ne_of_none hacc hx).symm, dx, h4⟩ fun j u _ ⟨r, e, hne, dx, hr⟩ => ⟨r, e, hne, dx, e34 _ _ hr⟩
    · obtain ⟨pf, rfl, hpf⟩ := acc_refs hlen hp2
      rw [tab_length] at hacc hpf
      refine q _ D pf I2 hD hacc ⟨SqL.of hacc, fun j hj => ?_, fun j hj => hz _ (getX_mem hj)⟩
      obtain ⟨_, dx, h⟩ := hpf j hj
      exact ⟨dx, _, h, SqT.of ((hL.itm _ (getX_mem hj)).same I2).2⟩
end R35
namespace R35
open PySem PySem.Spec PyProof.Rows L2 RC
variable {P : Program} {w : World} {K : PySem.W.Frag} {mg : Str → Option Value} {base h : Heap}
/-! ### clashes -/
theorem dp_lbs {H : Hp} : ∀ {zs : List Lb}, (∀ z, z ∈ zs → ItmAt K H z) → DpAll K H (zs.map fun z => V.ref z.tp) (zs.map fun z => PyData.tuple [.tuple (z.f.map PyData.int), .bool z.s])
  | [], _ => .nil
  | z :: r, h => .cons (.tup (SqT.of (h z (List.mem_cons_self ..)).1) (.cons (.tup (SqT.of (h z (List.mem_cons_self ..)).2) (dp_ints _)) (.cons (.bl _) .nil))) (dp_lbs fun y hy => h y (List.mem_cons_of_mem _ hy))
theorem shaped_lbs (zs : List Lb) : SeqAt.shaped (.list (zs.map fun z => PyData.tuple [.tuple (z.f.map PyData.int), .bool z.s])) = true := (shaped_seq (k := 2) (fun d hd => by
  obtain ⟨z, _, rfl⟩ := List.mem_map.mp hd
  have h1 : PyData.canLayAll0 (z.f.map PyData.int) = true := lay_all fun d hd => by
    obtain ⟨n, _, rfl⟩ := List.mem_map.mp hd
    simp only [PyData.canLay0]
  have h2 : PyData.depthAll (z.f.map PyData.int) ≤ 0 := depth_all fun d hd => by
    obtain ⟨n, _, rfl⟩ := List.mem_map.mp hd
    simp only [PyData.depth]
    omega
  refine ⟨?_, ?_⟩
  · simp only [PyData.canLay0, PyData.canLayAll0, h1, Bool.and_self]
  · simp only [PyData.depth, PyData.depthAll]
    omega) (by decide)).1
theorem ones_dp {H : Hp} : ∀ n : Nat, DpAll K H (List.replicate n (V.int 1)) (List.replicate n (PyData.int 1))
  | 0 => .nil
  | n + 1 => by
    rw [List.replicate_succ, List.replicate_succ]
    exact .cons (.int 1) (ones_dp n)
theorem ones_shaped (n : Nat) : SeqAt.shaped (.list (List.replicate n (PyData.int 1))) = true := by
  have e : List.replicate n (PyData.int 1) = (List.replicate n (1 : Int)).map PyData.int := by rw [List.map_replicate]
  rw [e]
  exact shaped_ints _
def spClashes (K : PySem.W.Frag) : Sp := fun vs H Q _ => ∃ (a b : Addr) (zs : List Lb) (ws : List Int) (many : Nat), vs = [.ref a, .ref b] ∧ LbsAt K H a zs ∧ SqT K H b (ws.map V.int) ∧ 0 < zs.length ∧ zs.length ≤ 100 ∧ many ≤ 8 ∧
  (∀ z, z ∈ zs → z.f.length = many ∧ ∀ f, f ∈ z.f → f.natAbs < 2 ^ 60) ∧ ClashOk zs.length many (zF zs) (zS zs) ws ∧ ∀ H', Same H H' → Q (.bl true) H'
theorem ok_law_clashes (T : Ctx K mg h) : OkN P w K mg base 1 (He.ga K "_law_clashes") ["_law_bounds", "_law_weights"] (spClashes K) := by
  refine okN (K := K) T.f_law_clashes sc_law_clashes (fun _ _ _ _ _ _ us hl => match us, hl with | [_, _], _ => rfl) (fun vs H Q E h => ?_) (fun cdv A outer s H vs Q E hr h => ?_)
  · obtain ⟨a, b, zs, ws, many, rfl, hL, hW, h0, hl, hm, hz, ok, q⟩ := h
    rfl
  · obtain ⟨a, b, zs, ws, many, rfl, hL, hW, h0, hl, hm, hz, ok, q⟩ := h
    refine ⟨_, PSs.nox (pss_cons (ps_if (PW.pt (pw_or (pt_not (pt_val (pe_callB call_isiZ (by rfl) T.b_isinstance (by decide +kernel) (pa_cons (pv 1) (pa_cons (pe_bltn (v := .ty "tuple") (by rfl) T.b_tuple rfl rfl) pa_nil))))) (pw_or1 (pt_cmpR op_ne (pe_callB call_len_seq (by rfl) T.b_len (by decide +kernel) (pa_cons (pv 1) pa_nil)) (pe_callB call_len_seq (by rfl) T.b_len (by decide +kernel) (pa_cons (pv 0) pa_nil)) (nomark _))))) (pss_one (ps_ret pe_bl)) pss_nil)
      (pss_cons (ps_if (pt_cmpR (op_neDZ hr.units) (pe_lc (own := [("_law_one", 4)]) (g := gName 4) (by rfl) sc_law_clashes.nd (pi_tup (pv 1)) (blkOk_by (own := [("_law_one", 4)]) (N := N_law_clashes) (sc := defScope s_law_clashes) (by decide +kernel)) (fun _ _ _ _ _ => (pg_name (i := 4) sc_law_clashes.nd rfl (by first | exact .inl rfl | exact .inr rfl))) (fun _ _ _ _ _ => (pts_one (PW.pt (pw_or (pt_cmpR op_ne (pe_callB SkE.call_repr_int (by rfl) T.b_repr (by decide +kernel) (pa_cons (pv 4) pa_nil)) (pe_callB SkE.call_repr_int (by rfl) T.b_repr (by decide +kernel) (pa_cons (pe_callTy call_int1 (by rfl) T.b_int (by decide +kernel) (pa_cons (pv 4) pa_nil)) pa_nil)) (nomark _)) (pw_or1 (pt_cmpR op_lt (pv 4) pe_int (nomark _))))))) (fun _ _ _ _ _ => (pv 4))) (pe_lst pa_nil) (nomark _)) (pss_one (ps_ret pe_bl)) pss_nil)
      (pss_cons (ps_set (i := 2) sc_law_clashes.nd rfl (by first | exact .inl rfl | exact .inr rfl) (pe_ifExp (pt_cmpR (op_neDZ hr.units) (pv 0) (pe_lst pa_nil) (nomark _)) (pe_callB call_len_seq (by rfl) T.b_len (by decide +kernel) (pa_cons (pe_ix ix_tup (pe_ix ix_list (pv 0) pe_int (fun _ _ => rfl)) pe_int (fun _ _ => rfl)) pa_nil)) pe_int))
      (pss_cons (ps_for PassesOwn.never rfl (pi_range1 (by rfl) T.b_range (pa_cons (pv 2) pa_nil)) (pg_name (i := 3) sc_law_clashes.nd rfl (by first | exact .inl rfl | exact .inr rfl))
      (pss_one (ps_if (pt_cmpR op_ne (pe_callB (cr_sum rfl) (by rfl) T.b_sum (by decide +kernel) (pa_cons (pe_lc (own := [("_law_one", 4), ("_law_bound", 5)]) (by rfl) sc_law_clashes.nd (pi_zipM true false (by rfl) T.b_zip (pa_cons (pv 1) (pa_cons (pv 0) pa_nil))) (blkOk_by (own := [("_law_one", 4), ("_law_bound", 5)]) (N := N_law_clashes) (sc := defScope s_law_clashes) (by decide +kernel)) (fun _ _ _ _ _ => (pg_tupC (K := K) rfl (n := 2) rfl (pgs_cons (pg_name (i := 4) sc_law_clashes.nd rfl (by first | exact .inl rfl | exact .inr rfl)) (pgs_cons (pg_name (i := 5) sc_law_clashes.nd rfl (by first | exact .inl rfl | exact .inr rfl)) pgs_nil)))) (fun _ _ _ _ _ => pts_nil) (fun _ _ _ _ _ => (pe_callTy call_int1 (by rfl) T.b_int (by decide +kernel) (pa_cons (pe_op op_mul (pv 4) (pe_ix (ix_tupC (K := K) rfl) (pe_ix (ix_tupC (K := K) rfl) (pv 5) pe_int (fun _ _ => rfl)) (pv 3) (fun _ _ => rfl))) pa_nil)))) pa_nil)) pe_int (nomark _)) (pss_one (ps_ret pe_bl)) pss_nil)))
      (pss_one (ps_ret (pe_cmpR (op_neDZ hr.units) (pe_lc (own := [("_law_one", 4), ("_law_bound", 5)]) (by rfl) sc_law_clashes.nd (pi_zipM true false (by rfl) T.b_zip (pa_cons (pv 1) (pa_cons (pv 0) pa_nil))) (blkOk_by (own := [("_law_one", 4), ("_law_bound", 5)]) (N := N_law_clashes) (sc := defScope s_law_clashes) (by decide +kernel)) (fun _ _ _ _ _ => (pg_tupC (K := K) rfl (n := 2) rfl (pgs_cons (pg_name (i := 4) sc_law_clashes.nd rfl (by first | exact .inl rfl | exact .inr rfl)) (pgs_cons (pg_name (i := 5) sc_law_clashes.nd rfl (by first | exact .inl rfl | exact .inr rfl)) pgs_nil)))) (fun _ _ _ _ _ => (pts_one (PW.pt (pw_and (pt_val (pe_ix (ix_tupC (K := K) rfl) (pv 5) pe_int (fun _ _ => rfl))) (pw_and1 (pt_cmpR op_gt (pv 4) pe_int (nomark _))))))) (fun _ _ _ _ _ => pe_int)) (pe_lst pa_nil) (nomark _)))))))), ?_⟩
    have lst : H a = some (.lst (tab zs.length fun j => V.ref (zs.getD j dz).tp)) := by
      rw [← tab_list dz fun z => V.ref z.tp]
      exact hL.lst
    have wt : SqT K H b (tab zs.length fun j => V.int (ws.getD j 0)) := by
      rw [← ok.len, ← tab_of]
      exact hW
    refine ⟨_, rfl, isiY (tyT hW) (by decide +kernel) ⟨_, rfl, iteF ⟨_, rfl, b, _, rfl, .inr hW, _, rfl, a, _, rfl, .inl (SqL.of hL.lst), rfl, _, rfl, iteNS (by rw [List.length_map, List.length_map, ok.len]) ?_⟩⟩⟩
    -- the weights are whole numbers, none below 0
    refine ⟨_, rfl, b, rfl, ⟨_, hW⟩, fun D hD => lcp_tup ws V.int (fun _ => false) (fun _ => .non) hD (by rw [ok.len]; exact Nat.le_trans hl (by decide)) hW (fun x hx H' Nx Qe e k1 k2 => ?_) fun H1 e1 hD1 => ?_⟩
    · have lg : x.natAbs.log2 < 1920 := log_of (ok.sml x hx) (by decide) (by decide)
      obtain ⟨j, hj, rfl⟩ := mem_get hx
      have ps := ok.pos j (by rw [← ok.len]; exact hj)
      exact ⟨rfl, _, rfl, _, rfl, lg, _, rfl, .inl ⟨_, rfl, _, rfl, lg, rfl, _, rfl, iteNS rfl ⟨_, rfl, _, _, rfl, rfl, _, rfl, iteDF (by omega) (k2 rfl _ (Same.refl _))⟩⟩⟩
    rw [filter_none fun _ _ => rfl] at hD1
    refine ⟨Nat.zero_le _, fun l hl2 => neNil (SqL.of (Same.new hl2 _ _ hD1)) (SqL.of upd_same) .nil rfl ⟨_, rfl, iteF ?_⟩⟩
    have e2 : Same H (upd H1 l (.lst [])) := e1.trans (Same.new hl2)
    generalize upd H1 l (HO.lst []) = H2 at e2
    have hL2 := hL.same e2
    -- how many
    refine ⟨_, rfl, Nat.zero_le _, fun l2 hl3 => neNil (SqL.of ((hL2.same (Same.new hl3)).lst)) (SqL.of upd_same) (dp_lbs (hL2.same (Same.new hl3)).itm) (shaped_lbs zs) ⟨_, rfl, ?_⟩⟩
    have ne : (!(zs.map fun z => V.ref z.tp).isEmpty) = true := by
      cases zs with
      | nil => exact absurd h0 (by decide)
      | cons z r => rfl
    rw [ne]
    have e3 : Same H (upd H2 l2 (.lst [])) := e2.trans (Same.new hl3)
    generalize upd H2 l2 (HO.lst []) = H3 at e3
    have hL3 := hL.same e3
    have i0 := hL3.itm _ (getX_mem (d := dz) h0)
    have l0 := (hz _ (getX_mem (d := dz) h0)).1
    have at0 : atI (zs.map fun z => V.ref z.tp) 0 = some (.ref (zs.getD 0 dz).tp) := by
      rw [tab_list dz fun z => V.ref z.tp]
      exact tab_at h0
    refine iteT ⟨_, rfl, a, _, _, _, rfl, rfl, SqL.of hL3.lst, at0, _, _, 0, _, rfl, rfl, SqT.of i0.1, rfl, _, _, rfl, .inr (SqT.of i0.2), ?_⟩
    rw [List.length_map, l0]
    refine ⟨_, rfl, _, rfl, (by omega), (by omega), for_r (fun i σ H' => Same H H' ∧ ∃ u x y, σ = [some (.ref a), some (.ref b), some (.int (many : Nat)), u, x, y]) ⟨e3, _, _, _, rfl⟩ (fun i σ H' hi P => ?_) fun σ H' P => ?_⟩
    · obtain ⟨e, u, x, y, rfl⟩ := P
      have hi : i < many := hi
      refine ⟨_, rfl, _, rfl, b, a, _, _, rfl, Same.seqT e wt, SqL.of (e _ _ lst), fun D4 hD4 => lcq_zip (n := zs.length) (ta := true) (tb := false) (fun j => .int (ws.getD j 0)) (fun j => .ref (zs.getD j dz).tp) (fun j => .int (ws.getD j 0 * (zF zs j).getD i 0)) hD4 (Nat.le_trans hl (by decide)) (Same.seqT e wt) (SqL.of (e _ _ lst)) (fun j hj T0 H0 e0 hT H5 Nx Qe e5 kk => ?_) fun H5 e5 hD5 => ?_⟩
      · have hmj := getX_mem (d := dz) hj
        have it := (hL.itm _ hmj).same (e.trans (e0.trans ((Same.new hT).trans e5)))
        obtain ⟨z1, z2⟩ := hz _ hmj
        have ft := SqT.of (K := K) it.2
        rw [tab_of] at ft
        have fs : ((zs.getD j dz).f.getD i 0).natAbs < 2 ^ 60 := z2 _ (getX_mem (by rw [z1]; exact hi))
        exact ⟨T0, _, rfl, SqT.of (e5 _ _ upd_same), rfl, _, _, rfl, _, _, rfl, rfl, rfl, _, rfl, _, rfl, _, _, 0, _, rfl, rfl, SqT.of it.1, rfl, _, rfl, _, _, _, _, rfl, rfl, ft, tab_at (by rw [z1]; exact hi), _, _, rfl, rfl, .inr ⟨by omega, by omega⟩, .inl ⟨_, rfl, kk _ (Same.refl _)⟩⟩
      · refine ⟨D4, (List.range zs.length).map (fun j => ws.getD j 0 * (zF zs j).getD i 0), rfl, ?_, rfl, _, rfl, iteNS (by rw [sum_sm, ok.sum i hi]) ⟨e.trans e5, _, _, _, rfl⟩⟩
        rw [tab_map]
        exact SqL.of hD5
    · obtain ⟨e, u, x, y, rfl⟩ := P
      refine ⟨_, rfl, _, rfl, b, a, _, _, rfl, Same.seqT e wt, SqL.of (e _ _ lst), fun D4 hD4 => lcp_zip (ta := true) (tb := false) (List.range zs.length) (fun j => .int (ws.getD j 0)) (fun j => .ref (zs.getD j dz).tp) (fun j => zS zs j && decide (ws.getD j 0 > 0)) (fun _ => .int 1) hD4 (by rw [List.length_range]; exact Nat.le_trans hl (by decide)) (Same.seqT e wt) (SqL.of (e _ _ lst)) (fun j hj T0 H0 e0 hT H5 Nx Qe e5 k1 k2 => ?_) fun H5 e5 hD5 => ?_⟩
      · have hj := List.mem_range.mp hj
        have it := (hL.itm _ (getX_mem (d := dz) hj)).same (e.trans (e0.trans ((Same.new hT).trans e5)))
        refine ⟨T0, _, rfl, SqT.of (e5 _ _ upd_same), rfl, _, _, rfl, _, _, rfl, rfl, rfl, _, rfl, _, _, 1, _, rfl, rfl, SqT.of it.1, rfl, _, rfl, ?_⟩
        have es : (zs.getD j dz).s = zS zs j := rfl
        rw [es]
        cases hs : zS zs j with
        | false => exact iteF (iteF (k2 (by rw [hs]; rfl) _ (Same.refl _)))
        | true =>
          refine iteT ⟨_, rfl, _, _, rfl, rfl, _, rfl, ?_⟩
          by_cases c : ws.getD j 0 > 0
          · exact iteD c (k1 (by rw [hs, decide_eq_true c]; rfl) _ (Same.refl _))
          · exact iteDF c (k2 (by rw [hs, decide_eq_false c]; rfl) _ (Same.refl _))
      · refine ⟨Nat.zero_le _, fun l4 hl4 => ?_⟩
        rw [List.map_const'] at hD5
        refine neNil (SqL.of (Same.new hl4 _ _ hD5)) (SqL.of upd_same) (ones_dp _) (ones_shaped _) ?_
        obtain ⟨j, hj, s1, p1⟩ := ok.str
        have hm1 : j ∈ (List.range zs.length).filter fun j => zS zs j && decide (ws.getD j 0 > 0) := List.mem_filter.mpr ⟨List.mem_range.mpr hj, by rw [s1, decide_eq_true p1]; rfl⟩
        have hn : (!(List.replicate ((List.range zs.length).filter fun j => zS zs j && decide (ws.getD j 0 > 0)).length (V.int 1)).isEmpty) = true := by
          have : 0 < ((List.range zs.length).filter fun j => zS zs j && decide (ws.getD j 0 > 0)).length := List.length_pos_of_mem hm1
          cases hx : ((List.range zs.length).filter fun j => zS zs j && decide (ws.getD j 0 > 0)).length with
          | zero => omega
          | succ n => rfl
        rw [hn]
        exact q _ (e.trans (e5.trans (Same.new hl4)))
end R35
namespace R35
open PySem PySem.Spec PyProof.Rows L2 RC
variable {P : Program} {w : World} {K : PySem.W.Frag} {mg : Str → Option Value} {base h : Heap}
theorem acc_of {α : Type} {f : α → V} {n : Nat} {acc : List V} {R : α → Prop} (hl : acc.length = n) (h : ∀ (i : Nat) (v : V), acc[i]? = some v → ∃ z : α, v = f z ∧ R z) : ∃ zs : List α, acc = zs.map f ∧ zs.length = n ∧ ∀ z, z ∈ zs → R z := by
  induction acc generalizing n with
  | nil => exact ⟨[], rfl, hl, fun x hx => by cases hx⟩
  | cons v r ih =>
    obtain ⟨x, e, hx⟩ := h 0 v rfl
    obtain ⟨xs, e2, e3, h2⟩ := ih (n := r.length) rfl fun i u hu => h (i + 1) u hu
    refine ⟨x :: xs, by rw [e, e2]; rfl, by rw [← hl, List.length_cons, List.length_cons, e3], fun y hy => ?_⟩
    rcases List.mem_cons.mp hy with q | q
    · rw [q]
      exact hx
    · exact h2 y q
/-! ### drawn bounds -/
def spPlain (K : PySem.W.Frag) : Sp := fun vs H Q _ => ∃ (p c : Addr) (B m most : Nat), vs = [.ref p, .int m, .int most] ∧ Pen H p c B ∧ B + 500 < 2 ^ 20 ∧ m ≤ 8 ∧ most ≤ 20 ∧
  ∀ H' D zs, SameBut p H H' → Pen H' p c (B + 500) → D ≠ p → LbsAt K H' D zs → zs.length ≤ most → (∀ z, z ∈ zs → z.f.length = m ∧ ∀ f, f ∈ z.f → f.natAbs ≤ 20) → Q (.ref D) H'
theorem ok_law_plain_bounds (T : Ctx K mg h) : OkN P w K mg base 5 (He.ga K "_law_plain_bounds") ["_law_pen_here", "_law_many", "_law_most"] (spPlain K) := by
  obtain ⟨_, G_law_draw, b_law_draw, k_law_draw⟩ := ok_law_draw (P := P) (w := w) (base := base) T
  obtain ⟨_, G_law_form, b_law_form, k_law_form⟩ := ok_law_form (P := P) (w := w) (base := base) T
  obtain ⟨_, G_law_pick, b_law_pick, k_law_pick⟩ := ok_law_pick (P := P) (w := w) (base := base) T
  refine okN (K := K) T.f_law_plain_bounds sc_law_plain_bounds (fun _ _ _ _ _ _ us hl => match us, hl with | [_, _, _], _ => rfl) (fun vs H Q E h => ?_) (fun cdv A outer s H vs Q E hr h => ?_)
  · obtain ⟨p, c, B, m, most, rfl, hP, hB, hm, hmo, q⟩ := h
    rfl
  · obtain ⟨p, c, B, m, most, rfl, hP, hB, hm, hmo, q⟩ := h
    refine ⟨_, PSs.nox (pss_one (ps_ret (pe_lc (own := [("_law_k", 3)]) (g := gName 3) (by rfl) sc_law_plain_bounds.nd (pi_range1 (by rfl) T.b_range (pa_cons (pe_call G_law_draw (hr.mono (by decide)) (by rfl) T.g_law_draw k_law_draw b_law_draw .nil pass0 (pa_cons (pv 0) (pa_cons (pe_op op_add (pv 2) pe_int) pa_nil))) pa_nil)) (blkOk_by (own := [("_law_k", 3)]) (N := N_law_plain_bounds) (sc := defScope s_law_plain_bounds) (by decide +kernel)) (fun _ _ _ _ _ => (pg_name (i := 3) sc_law_plain_bounds.nd rfl (by first | exact .inl rfl | exact .inr rfl))) (fun _ _ _ _ _ => pts_nil) (fun _ _ _ _ _ => (pe_tup (pa_cons (pe_call G_law_form (hr.mono (by decide)) (by rfl) T.g_law_form k_law_form b_law_form .nil pass0 (pa_cons (pv 0) (pa_cons (pv 1) pa_nil))) (pa_cons (pe_call G_law_pick (hr.mono (by decide)) (by rfl) T.g_law_pick k_law_pick b_law_pick .nil pass0 (pa_cons (pv 0) (pa_cons (pe_lst (pa_cons pe_bl (pa_cons pe_bl pa_nil))) pa_nil))) pa_nil))))))), ?_⟩
    refine ⟨_, rfl, _, rfl, _, _, rfl, rfl, p, c, B, most + 1, rfl, hP, by omega, by omega, by omega, fun H1 d e1 P1 hd => ⟨_, rfl, by omega, by omega, ?_⟩⟩
    obtain ⟨_, _, hp1, hc1⟩ := P1.has
    refine fun D hD => lcx (walk_r (n := d)) (fun j H' => SameBut p H1 H' ∧ Pen H' p c (B + 1 + 17 * j)) (fun j v H' => ∃ z : Lb, v = .ref z.tp ∧ z.tp ≠ D ∧ z.tf ≠ D ∧ ItmAt K H' z ∧ z.f.length = m ∧ ∀ f, f ∈ z.f → f.natAbs ≤ 20) hD (Nat.le_trans (show d ≤ 20 by omega) (by decide))
      (fun j H' o I => ⟨I.1.upd hD, I.2.upd (ne_of_none hp1 hD) (ne_of_none hc1 hD)⟩) (fun j v H' o ⟨z, e, z1, z2, it, r⟩ => ⟨z, e, z1, z2, ⟨by rw [upd_ne z1]; exact it.1, by rw [upd_ne z2]; exact it.2⟩, r⟩) ⟨SameBut.refl _ _, P1⟩ (fun _ _ _ _ => True.intro) (fun j x H2 H3 acc Qe hj I hacc hlen Y k => ?_) mono_yes mono_name fun H2 acc I2 hacc hlen hp2 => ?_
    · obtain ⟨rfl, rfl⟩ := Y
      have nDp : D ≠ p := (ne_of_none hp1 hD).symm
      refine ⟨rfl, _, rfl, _, rfl, p, c, B + 1 + 17 * j, m, rfl, I.2, by omega, hm, fun H4 t fs e4 P4 t0 ht fl fb => ?_⟩
      refine ⟨_, rfl, (by show 2 ≤ sizeLine; decide), fun l hl => ?_⟩
      obtain ⟨_, _, hp4, _⟩ := P4.has
      have n5 : Same H4 (upd H4 l (.lst [.bl true, .bl false])) := Same.new hl
      refine ⟨p, c, l, B + 1 + 17 * j + 2 * m, _, rfl, P4.same n5, by omega, upd_same, (ne_of_none hp4 hl).symm, (by show 0 < 2; decide), (by show 2 ≤ 1000; decide), fun H5 v e5 P5 hv => ?_⟩
      have big : ∃ s : Bool, v = .bl s := by
        simp only [List.mem_cons, List.not_mem_nil, or_false] at hv
        rcases hv with e | e <;> exact ⟨_, e⟩
      obtain ⟨s, rfl⟩ := big
      refine ⟨(by show 2 ≤ sizeLine; decide), fun u hu => ?_⟩
      have e35 : SameBut p H3 H5 := (e4.trans (SameBut.of n5)).trans e5
      have n6 : Same H5 (upd H5 u (.tup [.ref t, .bl s])) := Same.new hu
      have ntp : t ≠ p := ne_of ht hp4 fun q => by cases q
      have hacc5 := e35 _ _ nDp hacc
      have ht5 := e5 _ _ ntp (n5 _ _ ht)
      obtain ⟨_, _, hp3, _⟩ := I.2.has
      exact k (.ref u) _ ⟨I.1.trans (e35.trans (SameBut.of n6)), (P5.same n6).mono (by omega)⟩ (n6 _ _ hacc5) ⟨⟨u, t, fs, s⟩, rfl, (ne_of_none hacc5 hu).symm, ne_of ht5 hacc5 (fun q => by cases q), ⟨upd_same, n6 _ _ ht5⟩, fl, fb⟩
        fun i y _ ⟨z, e, z1, z2, it, r⟩ => ⟨z, e, z1, z2, (it.but hp3 e35).same n6, r⟩
    · obtain ⟨zs, rfl, zl, hz⟩ := acc_of (f := fun z : Lb => V.ref z.tp) hlen fun j v hv => by
        obtain ⟨z, e, _, _, r⟩ := hp2 j v hv
        exact ⟨z, e, r⟩
      exact q _ D zs (e1.trans I2.1) (I2.2.mono (by omega)) (ne_of_none hp1 hD).symm ⟨hacc, fun z h => (hz z h).1⟩ (by omega) fun z h => (hz z h).2
/-! ### the looks -/
def Small (n : Nat) (F : Nat → List Int) : Prop := ∀ j, j < n → ∀ f, f ∈ F j → f.natAbs < 2 ^ 60
def spShowsPoint (K : PySem.W.Frag) : Sp := fun vs H Q _ => ∃ (a v : Addr) (n many : Nat) (pf : Nat → Addr) (F : Nat → List Int) (S : Nat → Bool), vs = [.ref a, .int many, .ref v] ∧ n ≤ 80 ∧ many ≤ 8 ∧ BsAt K H a false n many pf F S ∧ Small n F ∧
  ((∃ xs, PaperAt K (He.ga K "Point") "counts" H v xs ∧ PointOk n many F S xs ∧ ∀ H', Same H H' → Q (.bl true) H') ∨ (∃ xs, PaperAt K (He.ga K "Clash") "weights" H v xs ∧ ∀ H', Same H H' → Q (.bl false) H'))
theorem ok_shows_point (T : Ctx K mg h) : OkN P w K mg base 5 (He.ga K "shows_point") ["bounds", "many", "value"] (spShowsPoint K) := by
  obtain ⟨_, G_Bound_call, b_Bound_call, k_Bound_call⟩ := ok_Bound_call (P := P) (w := w) (base := base) T
  obtain ⟨_, G_are_ints, b_are_ints, k_are_ints⟩ := ok_are_ints (P := P) (w := w) (base := base) T
  obtain ⟨_, G_need_bounds, b_need_bounds, k_need_bounds⟩ := ok_need_bounds (P := P) (w := w) (base := base) T
  refine okN (K := K) T.f_shows_point sc_shows_point (fun _ _ _ _ _ _ us hl => match us, hl with | [_, _, _], _ => rfl) (fun vs H Q E h => ?_) (fun cdv A outer s H vs Q E hr h => ?_)
  · obtain ⟨a, v, n, many, pf, F, S, rfl, hn, hm, B, hz, q⟩ := h
    rfl
  · obtain ⟨a, v, n, many, pf, F, S, rfl, hn, hm, B, hz, q⟩ := h
    refine ⟨_, PSs.nox (pss_cons (ps_expr (pe_call G_need_bounds (hr.mono (by decide)) (by rfl) T.g_need_bounds k_need_bounds b_need_bounds .nil pass0 (pa_cons (pv 0) (pa_cons (pv 1) pa_nil))))
      (pss_cons (ps_if (PW.pt (pw_or (pt_not (pt_val (pe_callB call_isiZ (by rfl) T.b_isinstance (by decide +kernel) (pa_cons (pv 2) (pa_cons (pe_glob (v := .ref (He.ga K "Point")) (by rfl) T.g_Point rfl) pa_nil))))) (pw_or (pt_not (pt_val (pe_callB call_isiZ (by rfl) T.b_isinstance (by decide +kernel) (pa_cons (pe_fld (pv 2) rfl) (pa_cons (pe_bltn (v := .ty "tuple") (by rfl) T.b_tuple rfl rfl) pa_nil))))) (pw_or1 (pt_cmpR op_ne (pe_callB call_len_seq (by rfl) T.b_len (by decide +kernel) (pa_cons (pe_fld (pv 2) rfl) pa_nil)) (pv 1) (nomark _)))))) (pss_one (ps_ret pe_bl)) pss_nil)
      (pss_one (ps_ret (pe_and (pe_call G_are_ints (hr.mono (by decide)) (by rfl) T.g_are_ints k_are_ints b_are_ints .nil pass0 (pa_cons (pe_fld (pv 2) rfl) pa_nil)) (pe_one (pe_cmpR (op_eqDZ hr.units) (pe_lc (own := [("bound", 3)]) (g := gName 3) (by rfl) sc_shows_point.nd (pi_list (pv 0)) (blkOk_by (own := [("bound", 3)]) (N := N_shows_point) (sc := defScope s_shows_point) (by decide +kernel)) (fun _ _ _ _ _ => (pg_name (i := 3) sc_shows_point.nd rfl (by first | exact .inl rfl | exact .inr rfl))) (fun _ _ _ _ _ => (pts_one (pt_not (pt_val (pe_callI (pv 3) T.cal_Bound G_Bound_call b_Bound_call (hr.mono (by decide)) pass0 (pa_cons (pe_fldC (K := K) rfl (pv 2) rfl) pa_nil)))))) (fun _ _ _ _ _ => (pv 3))) (pe_lst pa_nil) (nomark _)))))))), ?_⟩
    refine ⟨_, rfl, _, rfl, a, false, n, many, pf, F, S, rfl, hn, hm, B, fun H1 e1 => ?_⟩
    rcases q with ⟨xs, pa, ok, q⟩ | ⟨xs, pa, q⟩
    · obtain ⟨dx, t, hv, ht⟩ := pa.same e1
      refine ⟨_, rfl, isiC (tyIns T.ty_Point T.c_Point hv) ⟨_, rfl, iteF ⟨_, rfl, v, _, dx, _, _, rfl, hv, T.c_Point, T.n_Point_counts, lookup_hit _ _ _, isiY (tyT ht) (by decide +kernel) ⟨_, rfl, iteF ?_⟩⟩⟩⟩
      refine ⟨_, rfl, v, _, dx, _, _, rfl, hv, T.c_Point, T.n_Point_counts, lookup_hit _ _ _, t, _, rfl, .inr ht, _, rfl, rfl, _, rfl, iteNS (by rw [List.length_map, ok.len]) ?_⟩
      refine ⟨_, rfl, v, _, dx, _, _, rfl, hv, T.c_Point, T.n_Point_counts, lookup_hit _ _ _, t, xs, rfl, by rw [ok.len]; omega, ht, fun H2 e2 => ⟨_, rfl, iteT ?_⟩⟩
      have B2 := (B.same e1).same e2
      refine ⟨_, rfl, a, rfl, ⟨_, B2.lst⟩, fun D hD => lcp_list (List.range n) (fun j => .ref (pf j)) (fun _ => false) (fun _ => .non) hD (by rw [List.length_range]; exact Nat.le_trans hn (by decide)) B2.lst (fun j hj H' Nx Qe e k1 k2 => ?_) fun H3 e3 hD3 => ?_⟩
      · have hj := List.mem_range.mp hj
        have e4 := e2.trans e
        obtain ⟨db, tb, hb, hT⟩ := (B.same (e1.trans e4)).itm j hj
        have vl := ok.val j hj
        refine ⟨rfl, _, rfl, pf j, rfl, _, rfl, v, _, dx, _, _, rfl, e4 _ _ hv, T.c_Point, T.n_Point_counts, lookup_hit _ _ _, db, _, hb, pf j, db, tb, t, F j, xs, S j, rfl, hb, hT, Same.seqT e4 ht, by rw [B.len j hj, ok.len], by rw [B.len j hj]; omega, hz j hj, fun H5 e5 => ⟨_, rfl, ?_⟩⟩
        have dv : Sx.sm (fun k => (F j).getD k 0 * xs.getD k 0) many = dot (F j) xs := by
          unfold dot
          rw [B.len j hj]
        rw [dv] at vl
        have ev : (if S j = true then decide (dot (F j) xs > 0) else decide (dot (F j) xs ≥ 0)) = true := by
          cases hs : S j with
          | true => exact decide_eq_true (vl.2 hs)
          | false => exact decide_eq_true vl.1
        rw [ev]
        exact iteF (k2 rfl _ e5)
      · rw [filter_none fun _ _ => rfl] at hD3
        exact ⟨Nat.zero_le _, fun l hl => eqNil (SqL.of (Same.new hl _ _ hD3)) (SqL.of upd_same) .nil rfl (q _ (e1.trans (e2.trans (e3.trans (Same.new hl)))))⟩
    · obtain ⟨dx, t, hv, ht⟩ := pa.same e1
      exact ⟨_, rfl, isiO (tyIns T.ty_Clash T.c_Clash hv) T.nk_Clash_Point ⟨_, rfl, iteT (iteT (q _ e1))⟩⟩
def spAreClashing (K : PySem.W.Frag) : Sp := fun vs H Q _ => ∃ (a u : Addr) (n many : Nat) (pf : Nat → Addr) (F : Nat → List Int) (S : Nat → Bool) (ws : List Int), vs = [.ref a, .ref u, .int many] ∧ n ≤ 80 ∧ many ≤ 8 ∧ BsAt K H a false n many pf F S ∧ Small n F ∧ SqT K H u (ws.map V.int) ∧ ClashOk n many F S ws ∧
  ∀ H', Same H H' → Q (.bl true) H'
theorem ok_are_clashing (T : Ctx K mg h) : OkN P w K mg base 2 (He.ga K "are_clashing") ["bounds", "weights", "many"] (spAreClashing K) := by
  obtain ⟨_, G_value_at, b_value_at, k_value_at⟩ := ok_value_at (P := P) (w := w) (base := base) T
  obtain ⟨_, G_is_int, b_is_int, k_is_int⟩ := ok_is_int (P := P) (w := w) (base := base) T
  refine okN (K := K) T.f_are_clashing sc_are_clashing (fun _ _ _ _ _ _ us hl => match us, hl with | [_, _, _], _ => rfl) (fun vs H Q E h => ?_) (fun cdv A outer s H vs Q E hr h => ?_)
  · obtain ⟨a, u, n, many, pf, F, S, ws, rfl, hn, hm, B, hz, hW, ok, q⟩ := h
    rfl
  · obtain ⟨a, u, n, many, pf, F, S, ws, rfl, hn, hm, B, hz, hW, ok, q⟩ := h
    refine ⟨_, PSs.nox (pss_cons (ps_if (PW.pt (pw_or (pt_not (pt_val (pe_callB call_isiZ (by rfl) T.b_isinstance (by decide +kernel) (pa_cons (pv 1) (pa_cons (pe_bltn (v := .ty "tuple") (by rfl) T.b_tuple rfl rfl) pa_nil))))) (pw_or1 (pt_cmpR op_ne (pe_callB call_len_seq (by rfl) T.b_len (by decide +kernel) (pa_cons (pv 1) pa_nil)) (pe_callB call_len_seq (by rfl) T.b_len (by decide +kernel) (pa_cons (pv 0) pa_nil)) (nomark _))))) (pss_one (ps_ret pe_bl)) pss_nil)
      (pss_cons (ps_if (pt_cmpR (op_neDZ hr.units) (pe_lc (own := [("one", 4)]) (g := gName 4) (by rfl) sc_are_clashing.nd (pi_tup (pv 1)) (blkOk_by (own := [("one", 4)]) (N := N_are_clashing) (sc := defScope s_are_clashing) (by decide +kernel)) (fun _ _ _ _ _ => (pg_name (i := 4) sc_are_clashing.nd rfl (by first | exact .inl rfl | exact .inr rfl))) (fun _ _ _ _ _ => (pts_one (PW.pt (pw_or (pt_not (pt_val (pe_call G_is_int (hr.mono (by decide)) (by rfl) T.g_is_int k_is_int b_is_int .nil pass0 (pa_cons (pv 4) pa_nil)))) (pw_or1 (pt_cmpR op_lt (pv 4) pe_int (nomark _))))))) (fun _ _ _ _ _ => (pv 4))) (pe_lst pa_nil) (nomark _)) (pss_one (ps_ret pe_bl)) pss_nil)
      (pss_cons (ps_for PassesOwn.never rfl (pi_range1 (by rfl) T.b_range (pa_cons (pv 2) pa_nil)) (pg_name (i := 3) sc_are_clashing.nd rfl (by first | exact .inl rfl | exact .inr rfl))
      (pss_one (ps_if (pt_cmpR op_ne (pe_call G_value_at (hr.mono (by decide)) (by rfl) T.g_value_at k_value_at b_value_at .nil pass0 (pa_cons (pe_lc (own := [("bound", 5)]) (g := gName 5) (by rfl) sc_are_clashing.nd (pi_list (pv 0)) (blkOk_by (own := [("bound", 5)]) (N := N_are_clashing) (sc := defScope s_are_clashing) (by decide +kernel)) (fun _ _ _ _ _ => (pg_name (i := 5) sc_are_clashing.nd rfl (by first | exact .inl rfl | exact .inr rfl))) (fun _ _ _ _ _ => pts_nil) (fun _ _ _ _ _ => (pe_ix (ix_tupC (K := K) rfl) (pe_fldC (K := K) rfl (pv 5) rfl) (pv 3) (fun _ _ => rfl)))) (pa_cons (pv 1) pa_nil))) pe_int (nomark _)) (pss_one (ps_ret pe_bl)) pss_nil)))
      (pss_one (ps_ret (pe_cmpR (op_neDZ hr.units) (pe_lc (own := [("bound", 5), ("weight", 6)]) (by rfl) sc_are_clashing.nd (pi_zipM false true (by rfl) T.b_zip (pa_cons (pv 0) (pa_cons (pv 1) pa_nil))) (blkOk_by (own := [("bound", 5), ("weight", 6)]) (N := N_are_clashing) (sc := defScope s_are_clashing) (by decide +kernel)) (fun _ _ _ _ _ => (pg_tupC (K := K) rfl (n := 2) rfl (pgs_cons (pg_name (i := 5) sc_are_clashing.nd rfl (by first | exact .inl rfl | exact .inr rfl)) (pgs_cons (pg_name (i := 6) sc_are_clashing.nd rfl (by first | exact .inl rfl | exact .inr rfl)) pgs_nil)))) (fun _ _ _ _ _ => (pts_one (PW.pt (pw_and (pt_val (pe_fldC (K := K) rfl (pv 5) rfl)) (pw_and1 (pt_cmpR op_gt (pv 6) pe_int (nomark _))))))) (fun _ _ _ _ _ => pe_int)) (pe_lst pa_nil) (nomark _))))))), ?_⟩
    have wt : SqT K H u (tab n fun j => V.int (ws.getD j 0)) := by
      rw [← ok.len, ← tab_of]
      exact hW
    refine ⟨_, rfl, isiY (tyT hW) (by decide +kernel) ⟨_, rfl, iteF ⟨_, rfl, u, _, rfl, .inr hW, _, rfl, a, _, rfl, .inl B.lst, rfl, _, rfl, iteNS (by rw [List.length_map, tab_length, ok.len]) ?_⟩⟩⟩
    refine ⟨_, rfl, u, rfl, ⟨_, hW⟩, fun D hD => lcp_tup ws V.int (fun _ => false) (fun _ => .non) hD (by rw [ok.len]; exact Nat.le_trans hn (by decide)) hW (fun x hx H' Nx Qe e k1 k2 => ?_) fun H1 e1 hD1 => ?_⟩
    · obtain ⟨j, hj, rfl⟩ := mem_get hx
      have ps := ok.pos j (by rw [← ok.len]; exact hj)
      exact ⟨rfl, _, rfl, _, rfl, _, rfl, iteF ⟨_, rfl, _, _, rfl, rfl, _, rfl, iteDF (by omega) (k2 rfl _ (Same.refl _))⟩⟩
    rw [filter_none fun _ _ => rfl] at hD1
    refine ⟨Nat.zero_le _, fun l hl2 => neNil (SqL.of (Same.new hl2 _ _ hD1)) (SqL.of upd_same) .nil rfl ⟨_, rfl, iteF ?_⟩⟩
    have e2 : Same H (upd H1 l (.lst [])) := e1.trans (Same.new hl2)
    generalize upd H1 l (HO.lst []) = H2 at e2
    refine ⟨_, rfl, _, rfl, (by omega), (by omega), for_r (fun i σ H' => Same H H' ∧ ∃ x, σ = [some (.ref a), some (.ref u), some (.int (many : Nat)), x, none, none, none]) ⟨e2, _, rfl⟩ (fun i σ H' hi P => ?_) fun σ H' P => ?_⟩
    · obtain ⟨e, x, rfl⟩ := P
      have hi : i < many := hi
      have B3 := B.same e
      refine ⟨_, rfl, a, rfl, ⟨_, B3.lst⟩, fun D4 hD4 => lcq_list (n := n) (fun j => .ref (pf j)) (fun j => .int ((F j).getD i 0)) hD4 (Nat.le_trans hn (by decide)) B3.lst (fun j hj H5 Nx Qe e5 kk => ?_) fun H5 e5 hD5 => ?_⟩
      · obtain ⟨db, tb, hb, hT⟩ := (B3.same e5).itm j hj
        rw [tab_of] at hT
        exact ⟨rfl, _, rfl, pf j, _, db, _, _, rfl, hb, T.c_Bound, T.n_Bound_form, bfs_form _ _, _, rfl, tb, _, _, _, rfl, rfl, hT, tab_at (by rw [B.len j hj]; exact hi), kk _ (Same.refl _)⟩
      · refine ⟨_, rfl, D4, u, false, true, (List.range n).map (fun j => (F j).getD i 0), ws, rfl, ?_, Same.seqT (e.trans e5) hW, by rw [List.length_map, List.length_range, ok.len], by rw [List.length_map, List.length_range]; omega, fun f hf => ?_, fun H6 e6 => ⟨rfl, _, rfl, iteNS (congrArg V.int ?_) ⟨e.trans (e5.trans e6), _, rfl⟩⟩⟩
        · rw [tab_map]
          exact SqL.of hD5
        · obtain ⟨j, hj, rfl⟩ := List.mem_map.mp hf
          have hj := List.mem_range.mp hj
          exact hz j hj _ (getX_mem (by rw [B.len j hj]; exact hi))
        · unfold dot
          rw [List.length_map, List.length_range]
          refine Eq.trans (Sx.sm_congr fun j hj => ?_) (ok.sum i hi)
          rw [getD_map_range hj, Int.mul_comm]
    · obtain ⟨e, x, rfl⟩ := P
      have B3 := B.same e
      refine ⟨_, rfl, _, rfl, a, u, _, _, rfl, B3.lst, Same.seqT e wt, fun D4 hD4 => lcp_zip (ta := false) (tb := true) (List.range n) (fun j => .ref (pf j)) (fun j => .int (ws.getD j 0)) (fun j => S j && decide (ws.getD j 0 > 0)) (fun _ => .int 1) hD4 (by rw [List.length_range]; exact Nat.le_trans hn (by decide)) B3.lst (Same.seqT e wt) (fun j hj T0 H0 e0 hT H5 Nx Qe e5 k1 k2 => ?_) fun H5 e5 hD5 => ?_⟩
      · have hj := List.mem_range.mp hj
        obtain ⟨db, tb, hb, _⟩ := (B3.same (e0.trans ((Same.new hT).trans e5))).itm j hj
        refine ⟨T0, _, rfl, SqT.of (e5 _ _ upd_same), rfl, _, _, rfl, _, _, rfl, rfl, rfl, _, rfl, pf j, _, db, _, _, rfl, hb, T.c_Bound, T.n_Bound_is_strict, bfs_strict _ _, _, rfl, ?_⟩
        cases hs : S j with
        | false => exact iteF (iteF (k2 (by rw [hs]; rfl) _ (Same.refl _)))
        | true =>
          refine iteT ⟨_, rfl, _, _, rfl, rfl, _, rfl, ?_⟩
          by_cases c : ws.getD j 0 > 0
          · exact iteD c (k1 (by rw [hs, decide_eq_true c]; rfl) _ (Same.refl _))
          · exact iteDF c (k2 (by rw [hs, decide_eq_false c]; rfl) _ (Same.refl _))
      · refine ⟨Nat.zero_le _, fun l4 hl4 => ?_⟩
        rw [List.map_const'] at hD5
        refine neNil (SqL.of (Same.new hl4 _ _ hD5)) (SqL.of upd_same) (ones_dp _) (ones_shaped _) ?_
        obtain ⟨j, hj, s1, p1⟩ := ok.str
        have hm1 : j ∈ (List.range n).filter fun j => S j && decide (ws.getD j 0 > 0) := List.mem_filter.mpr ⟨List.mem_range.mpr hj, by rw [s1, decide_eq_true p1]; rfl⟩
        have hne : (!(List.replicate ((List.range n).filter fun j => S j && decide (ws.getD j 0 > 0)).length (V.int 1)).isEmpty) = true := by
          have : 0 < ((List.range n).filter fun j => S j && decide (ws.getD j 0 > 0)).length := List.length_pos_of_mem hm1
          cases hx : ((List.range n).filter fun j => S j && decide (ws.getD j 0 > 0)).length with
          | zero => omega
          | succ n => rfl
        rw [hne]
        exact q _ (e.trans (e5.trans (Same.new hl4)))
def spShowsClash (K : PySem.W.Frag) : Sp := fun vs H Q _ => ∃ (a v : Addr) (n many : Nat) (pf : Nat → Addr) (F : Nat → List Int) (S : Nat → Bool), vs = [.ref a, .int many, .ref v] ∧ n ≤ 80 ∧ many ≤ 8 ∧ BsAt K H a false n many pf F S ∧ Small n F ∧
  ((∃ ws, PaperAt K (He.ga K "Clash") "weights" H v ws ∧ ClashOk n many F S ws ∧ ∀ H', Same H H' → Q (.bl true) H') ∨ (∃ xs, PaperAt K (He.ga K "Point") "counts" H v xs ∧ ∀ H', Same H H' → Q (.bl false) H'))
theorem ok_shows_clash (T : Ctx K mg h) : OkN P w K mg base 4 (He.ga K "shows_clash") ["bounds", "many", "value"] (spShowsClash K) := by
  obtain ⟨_, G_are_clashing, b_are_clashing, k_are_clashing⟩ := ok_are_clashing (P := P) (w := w) (base := base) T
  obtain ⟨_, G_need_bounds, b_need_bounds, k_need_bounds⟩ := ok_need_bounds (P := P) (w := w) (base := base) T
  refine okN (K := K) T.f_shows_clash sc_shows_clash (fun _ _ _ _ _ _ us hl => match us, hl with | [_, _, _], _ => rfl) (fun vs H Q E h => ?_) (fun cdv A outer s H vs Q E hr h => ?_)
  · obtain ⟨a, v, n, many, pf, F, S, rfl, hn, hm, B, hz, q⟩ := h
    rfl
  · obtain ⟨a, v, n, many, pf, F, S, rfl, hn, hm, B, hz, q⟩ := h
    refine ⟨_, PSs.nox (pss_cons (ps_expr (pe_call G_need_bounds (hr.mono (by decide)) (by rfl) T.g_need_bounds k_need_bounds b_need_bounds .nil pass0 (pa_cons (pv 0) (pa_cons (pv 1) pa_nil))))
      (pss_one (ps_ret (pe_and (pe_callB call_isiZ (by rfl) T.b_isinstance (by decide +kernel) (pa_cons (pv 2) (pa_cons (pe_glob (v := .ref (He.ga K "Clash")) (by rfl) T.g_Clash rfl) pa_nil))) (pe_one (pe_call G_are_clashing (hr.mono (by decide)) (by rfl) T.g_are_clashing k_are_clashing b_are_clashing .nil pass0 (pa_cons (pv 0) (pa_cons (pe_fld (pv 2) rfl) (pa_cons (pv 1) pa_nil))))))))), ?_⟩
    refine ⟨_, rfl, _, rfl, a, false, n, many, pf, F, S, rfl, hn, hm, B, fun H1 e1 => ?_⟩
    rcases q with ⟨ws, pa, ok, q⟩ | ⟨xs, pa, q⟩
    · obtain ⟨dx, t, hv, ht⟩ := pa.same e1
      exact ⟨_, rfl, isiC (tyIns T.ty_Clash T.c_Clash hv) ⟨_, rfl, iteT ⟨_, rfl, _, rfl, v, _, dx, _, _, rfl, hv, T.c_Clash, T.n_Clash_weights, lookup_hit _ _ _, _, rfl, a, t, n, many, pf, F, S, ws, rfl, hn, hm, B.same e1, hz, ht, ok, fun H2 e2 => q _ (e1.trans e2)⟩⟩⟩
    · obtain ⟨dx, t, hv, ht⟩ := pa.same e1
      exact ⟨_, rfl, isiO (tyIns T.ty_Point T.c_Point hv) T.nk_Point_Clash ⟨_, rfl, iteF (q _ e1)⟩⟩
end R35
namespace R35
open PySem PySem.Spec PyProof.Rows L2 RC
variable {P : Program} {w : World} {K : PySem.W.Frag} {mg : Str → Option Value} {base h : Heap}
theorem sml_of {zs : List Lb} {m : Nat} (hn : zs.length ≤ 100) (hm : m ≤ 8) (hz : ∀ z, z ∈ zs → z.f.length = m ∧ ∀ f, f ∈ z.f → f.natAbs ≤ 1200000000000000) : Sml (Rf (zF zs) (zS zs) m) zs.length (m + 1) 1200000000000000 := by
  refine ⟨hn, by omega, by omega, by decide, fun k hk j hj => ?_, ?_⟩
  · obtain ⟨h1, h2⟩ := hz _ (getX_mem (d := dz) hj)
    unfold Rf
    by_cases c : k < m
    · rw [if_pos c]
      exact h2 _ (getX_mem (show k < (zs.getD j dz).f.length by rw [h1]; exact c))
    · rw [if_neg c]
      split <;> decide
  · have : m = 0 ∨ m = 1 ∨ m = 2 ∨ m = 3 ∨ m = 4 ∨ m = 5 ∨ m = 6 ∨ m = 7 ∨ m = 8 := by omega
    rcases this with e | e | e | e | e | e | e | e | e <;> rw [e] <;> decide +kernel
theorem keeps_of {zs : List Lb} {m : Nat} {cs : List Int} (hz : ∀ z, z ∈ zs → z.f.length = m) (ok : PointOk zs.length m (zF zs) (zS zs) cs) : Keeps zs cs := fun z hm => by
  obtain ⟨j, hj, e⟩ := List.getElem_of_mem hm
  have ez : zs.getD j dz = z := by rw [List.getD_eq_getElem?_getD, List.getElem?_eq_getElem hj]; exact e
  have v := ok.val j hj
  unfold zF zS at v
  rw [ez] at v
  unfold dot
  rw [hz z hm]
  exact v
theorem no_clash {zs : List Lb} {m : Nat} {xs ws : List Int} (hz : ∀ z, z ∈ zs → z.f.length = m) (k : Keeps zs xs) (ok : ClashOk zs.length m (zF zs) (zS zs) ws) : False := by
  refine Sx.never_both (n := zs.length) (q := m) (F := fun j k => (zF zs j).getD k 0) (str := zS zs) (p := fun k => xs.getD k 0) (wts := fun j => ws.getD j 0) (fun j hj => ?_) ok.pos ok.sum ok.str
  have hm := getX_mem (d := dz) hj
  have v := k _ hm
  unfold dot at v
  rw [hz _ hm] at v
  exact v
theorem BsAt.byPen {H H' : Hp} {a p : Addr} {n many : Nat} {pf : Nat → Addr} {F : Nat → List Int} {S : Nat → Bool} {xs : List V} (B : BsAt K H a false n many pf F S) (hl : H a = some (.lst (tab n fun j => V.ref (pf j)))) (hp : H p = some (.lst xs)) (hne : a ≠ p) (e : SameBut p H H') : BsAt K H' a false n many pf F S :=
  ⟨SqL.of (e _ _ hne hl), fun j hj => by
    obtain ⟨dx, t, h1, h2⟩ := B.itm j hj
    exact ⟨dx, t, e _ _ (ne_of h1 hp fun q => by cases q) h1, seqT_but e hp (fun _ q => by cases q) (fun _ _ q => by cases q) h2⟩, B.len⟩
theorem PaperAt.but {C : Addr} {f : Str} {H H' : Hp} {p q : Addr} {xs : List Int} {ys : List V} (h : PaperAt K C f H p xs) (hp : H q = some (.lst ys)) (e : SameBut q H H') : PaperAt K C f H' p xs := by
  obtain ⟨dx, t, h1, h2⟩ := h
  exact ⟨dx, t, e _ _ (ne_of h1 hp fun q => by cases q) h1, seqT_but e hp (fun _ q => by cases q) (fun _ _ q => by cases q) h2⟩
/-- lists of equal bounds -/
theorem same_bounds {H : Hp} {a b : Addr} {n many : Nat} {pf qf : Nat → Addr} {F : Nat → List Int} {S : Nat → Bool} (ha : H a = some (.lst (tab n fun j => V.ref (pf j)))) (hb : H b = some (.lst (tab n fun j => V.ref (qf j)))) (A : BsAt K H a false n many pf F S) (B : BsAt K H b false n many qf F S) : DList (DIns (He.ga K "Bound") (BdEq K)) (.ref a) (.ref b) H := by
  refine ⟨a, b, _, _, rfl, rfl, ha, hb, by rw [tab_length, tab_length], fun i x y hx hy => ?_⟩
  obtain ⟨hi, rfl⟩ := tab_inv hx
  obtain ⟨_, rfl⟩ := tab_inv hy
  obtain ⟨dx, t, h1, h2⟩ := A.itm i hi
  obtain ⟨dy, u, h3, h4⟩ := B.itm i hi
  exact ⟨pf i, qf i, dx, dy, _, _, rfl, rfl, h1, h3, dx, dy, t, u, F i, S i, h1, h3, h2, h4⟩
theorem fork {ta tb : TE} {σ : L2.St} {H1 : Hp} {C : VK} {c : Bool} {R : V → Hp → Prop} (h1 : c = true → ∀ Q : VK, (∀ v H, R v H → Q v H) → ta σ H1 Q) (h2 : c = false → ∀ Q : VK, (∀ v H, R v H → Q v H) → tb σ H1 Q) (go : ∀ v H, R v H → C v H) : if c = true then ta σ H1 C else tb σ H1 C := by
  cases c with
  | true => exact h1 rfl C go
  | false => exact h2 rfl C go
def spRight (K : PySem.W.Frag) : Sp := fun vs H Q _ => ∃ (p c D : Addr) (B many : Nat) (zs : List Lb), vs = [.ref p, .ref D, .int many] ∧ Pen H p c B ∧ B + 200 < 2 ^ 20 ∧ many ≤ 5 ∧ D ≠ p ∧ LbsAt K H D zs ∧ zs.length ≤ 9 ∧ (∀ z, z ∈ zs → z.f.length = many ∧ ∀ f, f ∈ z.f → f.natAbs ≤ 20) ∧
  ∀ H', SameBut p H H' → Pen H' p c (B + 200) → Q (.bl true) H'
theorem ok_law_settled_right (T : Ctx K mg h) : OkN P w K mg base 6 (He.ga K "_law_settled_right") ["_law_pen_here", "_law_bounds", "_law_many"] (spRight K) := by
  obtain ⟨_, G_shows_point, b_shows_point, k_shows_point⟩ := ok_shows_point (P := P) (w := w) (base := base) T
  obtain ⟨_, G_shows_clash, b_shows_clash, k_shows_clash⟩ := ok_shows_clash (P := P) (w := w) (base := base) T
  obtain ⟨_, G_law_holds, b_law_holds, k_law_holds⟩ := ok_law_holds (P := P) (w := w) (base := base) T
  obtain ⟨_, G_law_draw, b_law_draw, k_law_draw⟩ := ok_law_draw (P := P) (w := w) (base := base) T
  obtain ⟨_, G_law_clashes, b_law_clashes, k_law_clashes⟩ := ok_law_clashes (P := P) (w := w) (base := base) T
  obtain ⟨_, G_Clash_bool, b_Clash_bool, k_Clash_bool⟩ := ok_Clash_bool (P := P) (w := w) (base := base) T
  obtain ⟨_, G_Point_bool, b_Point_bool, k_Point_bool⟩ := ok_Point_bool (P := P) (w := w) (base := base) T
  obtain ⟨_, G_Bound_eq, b_Bound_eq, k_Bound_eq⟩ := ok_Bound_eq (P := P) (w := w) (base := base) T
  obtain ⟨_, G_Clash_eq, b_Clash_eq, k_Clash_eq⟩ := ok_Clash_eq (P := P) (w := w) (base := base) T
  obtain ⟨_, G_Point_eq, b_Point_eq, k_Point_eq⟩ := ok_Point_eq (P := P) (w := w) (base := base) T
  obtain ⟨_, G_settled, b_settled, k_settled, kb_settled⟩ := ok_settled (P := P) (w := w) (base := base) T
  obtain ⟨_, G_law_as_bounds, b_law_as_bounds, k_law_as_bounds⟩ := ok_law_as_bounds (P := P) (w := w) (base := base) T
  refine okN (K := K) T.f_law_settled_right sc_law_settled_right (fun _ _ _ _ _ _ us hl => match us, hl with | [_, _, _], _ => rfl) (fun vs H Q E h => ?_) (fun cdv A outer s H vs Q E hr h => ?_)
  · obtain ⟨p, c, D, B, many, zs, rfl, hP, hB, hm, hne, hL, hl, hz, q⟩ := h
    rfl
  · obtain ⟨p, c, D, B, many, zs, rfl, hP, hB, hm, hne, hL, hl, hz, q⟩ := h
    refine ⟨_, PSs.nox (pss_cons (ps_par (i := 3) (j := 4) rfl sc_law_settled_right.nd rfl rfl (by decide) rfl rfl (pa_cons (pe_call G_law_as_bounds (hr.mono (by decide)) (by rfl) T.g_law_as_bounds k_law_as_bounds b_law_as_bounds .nil pass0 (pa_cons (pv 1) pa_nil)) (pa_cons (pe_call G_law_as_bounds (hr.mono (by decide)) (by rfl) T.g_law_as_bounds k_law_as_bounds b_law_as_bounds .nil pass0 (pa_cons (pv 1) pa_nil)) pa_nil)) rfl)
      (pss_cons (ps_set (i := 5) sc_law_settled_right.nd rfl (by first | exact .inl rfl | exact .inr rfl) (pe_ifExp (pt_cmpR op_eq (pe_call G_law_draw (hr.mono (by decide)) (by rfl) T.g_law_draw k_law_draw b_law_draw .nil pass0 (pa_cons (pv 0) (pa_cons pe_int pa_nil))) pe_int (nomark _)) (pe_callTy call_tuple_of (by rfl) T.b_tuple (by decide +kernel) (pa_cons (pv 3) pa_nil)) (pv 3)))
      (pss_cons (ps_set (i := 6) sc_law_settled_right.nd rfl (by first | exact .inl rfl | exact .inr rfl) (pe_call G_settled (hr.mono (by decide)) (by rfl) T.g_settled k_settled b_settled .nil pass0 (pa_cons (pv 5) (pa_cons (pv 2) pa_nil))))
      (pss_cons (ps_if (PW.pt (pw_or (pt_cmpR (op_neG (rnG_list (mon_ins (R := BdEq K) fun _ _ _ _ e h => BdEq.ext e h) (eqG_ins G_Bound_eq T.eq_Bound.eq T.eq_Bound.fn b_Bound_eq pass0)) (hr.mono (by decide))) (pv 3) (pv 4) (nomark _)) (pw_or (pt_cmpR (opr_or (op_neO G_Point_eq (hr.mono (by decide)) T.eq_Point b_Point_eq pass0) (op_neO G_Clash_eq (hr.mono (by decide)) T.eq_Clash b_Clash_eq pass0)) (pe_call G_settled (hr.mono (by decide)) (by rfl) T.g_settled k_settled b_settled .nil pass0 (pa_cons (pv 5) (pa_cons (pv 2) pa_nil))) (pv 6) (nomark _)) (pw_or1 (pt_cmpR (op_neG (rnG_list (mon_ins (R := BdEq K) fun _ _ _ _ e h => BdEq.ext e h) (eqG_ins G_Bound_eq T.eq_Bound.eq T.eq_Bound.fn b_Bound_eq pass0)) (hr.mono (by decide))) (pv 3) (pv 4) (nomark _)))))) (pss_one (ps_ret pe_bl)) pss_nil)
      (pss_cons (ps_if (pt_val (pe_callB call_isiZ (by rfl) T.b_isinstance (by decide +kernel) (pa_cons (pv 6) (pa_cons (pe_glob (v := .ref (He.ga K "Point")) (by rfl) T.g_Point rfl) pa_nil)))) (pss_cons (ps_if (PW.pt (pw_or (pt_not (pt_truthR (pv 6) (tru_or (tru_own G_Point_bool (hr.mono (by decide)) T.tru_Point b_Point_bool pass0) (tru_own G_Clash_bool (hr.mono (by decide)) T.tru_Clash b_Clash_bool pass0)) (fun _ => rfl))) (pw_or (pt_not (pt_val (pe_callB call_isiZ (by rfl) T.b_isinstance (by decide +kernel) (pa_cons (pe_fld (pv 6) rfl) (pa_cons (pe_bltn (v := .ty "tuple") (by rfl) T.b_tuple rfl rfl) pa_nil))))) (pw_or1 (pt_cmpR op_ne (pe_callB call_len_seq (by rfl) T.b_len (by decide +kernel) (pa_cons (pe_fld (pv 6) rfl) pa_nil)) (pv 2) (nomark _)))))) (pss_one (ps_ret pe_bl)) pss_nil)
      (pss_cons (ps_if (PW.pt (pw_or (pt_cmpR (op_neDZ hr.units) (pe_lc (own := [("_law_one", 8)]) (g := gName 8) (by rfl) sc_law_settled_right.nd (pi_tup (pe_fld (pv 6) rfl)) (blkOk_by (own := [("_law_one", 8)]) (N := N_law_settled_right) (sc := defScope s_law_settled_right) (by decide +kernel)) (fun _ _ _ _ _ => (pg_name (i := 8) sc_law_settled_right.nd rfl (by first | exact .inl rfl | exact .inr rfl))) (fun _ _ _ _ _ => (pts_one (pt_cmpR op_ne (pe_callB SkE.call_repr_int (by rfl) T.b_repr (by decide +kernel) (pa_cons (pv 8) pa_nil)) (pe_callB SkE.call_repr_int (by rfl) T.b_repr (by decide +kernel) (pa_cons (pe_callTy call_int1 (by rfl) T.b_int (by decide +kernel) (pa_cons (pv 8) pa_nil)) pa_nil)) (nomark _)))) (fun _ _ _ _ _ => (pv 8))) (pe_lst pa_nil) (nomark _)) (pw_or1 (pt_not (pt_val (pe_call G_law_holds (hr.mono (by decide)) (by rfl) T.g_law_holds k_law_holds b_law_holds .nil pass0 (pa_cons (pv 1) (pa_cons (pe_fld (pv 6) rfl) pa_nil)))))))) (pss_one (ps_ret pe_bl)) pss_nil)
      (pss_one (ps_ret (pe_and (pe_cmpR op_is_bl (pe_call G_shows_point (hr.mono (by decide)) (by rfl) T.g_shows_point k_shows_point b_shows_point .nil pass0 (pa_cons (pv 3) (pa_cons (pv 2) (pa_cons (pv 6) pa_nil)))) pe_bl (nomark _)) (pe_one (pe_cmpR op_is_bl (pe_call G_shows_clash (hr.mono (by decide)) (by rfl) T.g_shows_clash k_shows_clash b_shows_clash .nil pass0 (pa_cons (pv 3) (pa_cons (pv 2) (pa_cons (pv 6) pa_nil)))) pe_bl (nomark _)))))))) pss_nil)
      (pss_cons (ps_if (PW.pt (pw_or (pt_not (pt_val (pe_callB call_isiZ (by rfl) T.b_isinstance (by decide +kernel) (pa_cons (pv 6) (pa_cons (pe_glob (v := .ref (He.ga K "Clash")) (by rfl) T.g_Clash rfl) pa_nil))))) (pw_or (pt_truthR (pv 6) (tru_or (tru_own G_Point_bool (hr.mono (by decide)) T.tru_Point b_Point_bool pass0) (tru_own G_Clash_bool (hr.mono (by decide)) T.tru_Clash b_Clash_bool pass0)) (fun _ => rfl)) (pw_or1 (pt_not (pt_val (pe_call G_law_clashes (hr.mono (by decide)) (by rfl) T.g_law_clashes k_law_clashes b_law_clashes .nil pass0 (pa_cons (pv 1) (pa_cons (pe_fld (pv 6) rfl) pa_nil))))))))) (pss_one (ps_ret pe_bl)) pss_nil)
      (pss_cons (ps_for PassesOwn.never rfl (pi_range1 (by rfl) T.b_range (pa_cons pe_int pa_nil)) (pg_name (i := 7) sc_law_settled_right.nd rfl (by first | exact .inl rfl | exact .inr rfl))
      (pss_one (ps_if (pt_val (pe_call G_law_holds (hr.mono (by decide)) (by rfl) T.g_law_holds k_law_holds b_law_holds .nil pass0 (pa_cons (pv 1) (pa_cons (pe_lc (own := [("_law_k", 9)]) (g := gName 9) (by rfl) sc_law_settled_right.nd (pi_range1 (by rfl) T.b_range (pa_cons (pv 2) pa_nil)) (blkOk_by (own := [("_law_k", 9)]) (N := N_law_settled_right) (sc := defScope s_law_settled_right) (by decide +kernel)) (fun _ _ _ _ _ => (pg_name (i := 9) sc_law_settled_right.nd rfl (by first | exact .inl rfl | exact .inr rfl))) (fun _ _ _ _ _ => pts_nil) (fun _ _ _ _ _ => (pe_op op_sub (pe_call G_law_draw (hr.mono (by decide)) (by rfl) T.g_law_draw k_law_draw b_law_draw .nil pass0 (pa_cons (pv 0) (pa_cons pe_int pa_nil))) pe_int))) pa_nil)))) (pss_one (ps_ret pe_bl)) pss_nil)))
      (pss_one (ps_ret (pe_and (pe_cmpR op_is_bl (pe_call G_shows_clash (hr.mono (by decide)) (by rfl) T.g_shows_clash k_shows_clash b_shows_clash .nil pass0 (pa_cons (pv 3) (pa_cons (pv 2) (pa_cons (pv 6) pa_nil)))) pe_bl (nomark _)) (pe_one (pe_cmpR op_is_bl (pe_call G_shows_point (hr.mono (by decide)) (by rfl) T.g_shows_point k_shows_point b_shows_point .nil pass0 (pa_cons (pv 3) (pa_cons (pv 2) (pa_cons (pv 6) pa_nil)))) pe_bl (nomark _))))))))))))), ?_⟩
    have zl : ∀ z, z ∈ zs → z.f.length = many := fun z h => (hz z h).1
    have zsm : ∀ z, z ∈ zs → z.f.length = many ∧ ∀ f, f ∈ z.f → f.natAbs < 2 ^ 60 := fun z h => ⟨zl z h, fun f hf => Nat.lt_of_le_of_lt ((hz z h).2 f hf) (by decide)⟩
    refine ⟨_, rfl, D, zs, many, rfl, hL, by omega, by omega, zl, fun H1 Dm pf1 e1 nm l1 B1 => ⟨_, rfl, D, zs, many, rfl, hL.same e1, by omega, by omega, zl, fun H2 Dk pf2 e2 nk l2 B2 => ?_⟩⟩
    have BM := B1.same e2
    have lM := e2 _ _ l1
    have P2 := (hP.same e1).same e2
    obtain ⟨_, _, hp0, _⟩ := hP.has
    obtain ⟨_, _, hp1, _⟩ := (hP.same e1).has
    obtain ⟨_, _, hp2, _⟩ := P2.has
    have nmp : Dm ≠ p := (ne_of_none hp0 nm).symm
    have nkp : Dk ≠ p := (ne_of_none hp1 nk).symm
    refine ⟨_, _, rfl, _, rfl, p, c, B, 2, rfl, P2, by omega, by decide, by decide, fun H3 d e3 P3 hd => ?_⟩
    have e03 : SameBut p H H3 := (SameBut.of (e1.trans e2)).trans e3
    have L3 := hL.but hp0 hne e03
    have BM3 := BM.byPen lM hp2 nmp e3
    have BK3 := B2.byPen l2 hp2 nkp e3
    have lM3 := e3 _ _ nmp lM
    have lK3 := e3 _ _ nkp l2
    clear BM B1 B2 lM l1 l2 P2 hp1 hp2
    refine ⟨rfl, _, rfl, fork (R := fun v H4 => ∃ t Da, v = .ref Da ∧ Same H3 H4 ∧ SqB K H4 Da (tab zs.length fun j => V.ref (pf1 j)) t) (fun _ Q go => ⟨_, rfl, Dm, _, rfl, .inl ⟨SqL.of lM3, fun l hl => go _ _ ⟨true, l, rfl, Same.new hl, SqT.of upd_same⟩⟩⟩) (fun _ Q go => ⟨_, rfl, go _ _ ⟨false, Dm, rfl, Same.refl _, SqL.of lM3⟩⟩) fun v H4 R => ?_⟩
    obtain ⟨t, Da, rfl, e4, hA⟩ := R
    have BA : BsAt K H4 Da t zs.length many pf1 (zF zs) (zS zs) := ⟨hA, (BM3.same e4).itm, BM3.len⟩
    have sm := sml_of (zs := zs) (m := many) (by omega) (by omega) fun z h => ⟨zl z h, fun f hf => Nat.le_trans ((hz z h).2 f hf) (by decide)⟩
    have sml : Small zs.length (zF zs) := fun j hj f hf => (zsm _ (getX_mem (d := dz) hj)).2 f hf
    refine ⟨_, rfl, _, rfl, Da, t, zs.length, many, pf1, zF zs, zS zs, _, rfl, by omega, by omega, BA, sm, fun H5 v e5 ic pa ok => ?_, fun H5 v e5 nc pa ok => ?_⟩
    · -- a Clash
      have e35 := e4.trans e5
      have d5 := same_bounds (e35 _ _ lM3) (e35 _ _ lK3) (BM3.same e35) (BK3.same e35)
      refine ⟨_, rfl, _, rfl, .mk d5 fun H6 e6 => ⟨_, rfl, iteF ?_⟩⟩
      refine ⟨_, rfl, _, rfl, Da, t, zs.length, many, pf1, zF zs, zS zs, _, rfl, by omega, by omega, (BA.same e5).same e6, sm, fun H7 u e7 _ pb _ => ?_, fun H7 u e7 i2 _ _ => (i2 ic).elim⟩
      have p7 := (pa.same e6).same e7
      obtain ⟨dx, tv, hv, ht⟩ := id p7
      obtain ⟨dy, tu, hu, htu⟩ := id pb
      have e37 := e35.trans (e6.trans e7)
      have d7 := same_bounds (e37 _ _ lM3) (e37 _ _ lK3) (BM3.same e37) (BK3.same e37)
      refine ⟨_, rfl, .two (.mk u v dy dx _ _ rfl rfl hu hv ⟨u, v, _, rfl, pb, p7, _, rfl, _, rfl, iteF ?_⟩)⟩
      refine ⟨_, rfl, _, rfl, .mk d7 fun H8 e8 => ⟨_, rfl, iteF ?_⟩⟩
      have e38 := e37.trans e8
      have pa8 := p7.same e8
      have hv8 := e8 _ _ hv
      have ht8 := Same.seqT e8 ht
      have L8 := L3.same e38
      have B8 := BM3.same e38
      have P8 := P3.same e38
      have e08 : SameBut p H H8 := e03.trans (SameBut.of e38)
      have lM8 := e38 _ _ lM3
      have h0 : 0 < zs.length := by
        obtain ⟨j, hj, _⟩ := ok.str
        omega
      refine ⟨_, rfl, isiO (tyIns T.ty_Clash T.c_Clash hv8) T.nk_Clash_Point ⟨_, rfl, iteF ?_⟩⟩
      refine ⟨_, rfl, isiC (tyIns T.ty_Clash T.c_Clash hv8) ⟨_, rfl, iteF ⟨_, rfl, .two (.mk v dx _ rfl hv8 ⟨v, rfl, _, rfl, iteF ?_⟩)⟩⟩⟩
      refine ⟨_, rfl, _, rfl, v, _, dx, _, _, rfl, hv8, T.c_Clash, T.n_Clash_weights, lookup_hit _ _ _, D, tv, zs, _, many, rfl, L8, ht8, h0, by omega, by omega, zsm, ok, fun H9 e9 => ⟨_, rfl, iteF ?_⟩⟩
      have e89 : SameBut p H8 H9 := SameBut.of e9
      have P9 := P8.same e9
      obtain ⟨_, _, hp9, _⟩ := P9.has
      refine ⟨20, rfl, by decide, by decide, for_r (n := 20) (fun i σ H' => SameBut p H9 H' ∧ Pen H' p c (B + 1 + 8 * i) ∧ ∃ x, σ = [some (.ref p), some (.ref D), some (.int many), some (.ref Dm), some (.ref Dk), some (.ref Da), some (.ref v), x, none, none]) ⟨SameBut.refl _ _, P9.mono (by omega), _, rfl⟩ (fun i σ H' hi I => ?_) fun σ H' I => ?_⟩
      · obtain ⟨eI, PI, x, rfl⟩ := I
        have L10 := (L8.same e9).but hp9 hne eI
        obtain ⟨_, _, hpI, hcI⟩ := PI.has
        refine ⟨_, rfl, _, rfl, _, rfl, by omega, by omega, fun Dn hDn => lcx (walk_r (n := many)) (fun j H2 => SameBut p H' H2 ∧ Pen H2 p c (B + 1 + 8 * i + j)) (fun j y H2 => ∃ z : Int, y = .int z ∧ True) hDn (Nat.le_trans (show many ≤ 20 by omega) (by decide))
          (fun j H2 o I => ⟨I.1.upd hDn, I.2.upd (ne_of_none hpI hDn) (ne_of_none hcI hDn)⟩) (fun j y H2 o h => h) ⟨SameBut.refl _ _, PI⟩ (fun _ _ _ _ => True.intro) (fun j y H2 H10 acc Qe hj I hacc hlen Y k => ?_) mono_yes mono_name fun H10 acc I3 hacc3 hlen3 hp3 => ?_⟩
        · obtain ⟨rfl, rfl⟩ := Y
          refine ⟨rfl, _, rfl, p, c, _, 13, rfl, I.2, by omega, by decide, by decide, fun H11 d5 e11 P11 hd5 => ⟨_, _, rfl, rfl, ?_⟩⟩
          exact k _ H11 ⟨I.1.trans e11, P11⟩ (e11 _ _ (ne_of_none hpI hDn).symm hacc) ⟨_, rfl, True.intro⟩ fun _ _ _ h => h
        · obtain ⟨xs, rfl, xl, _⟩ := acc_ints hlen3 hp3
          refine ⟨D, Dn, false, zs, xs, rfl, L10.but hpI hne I3.1, SqL.of hacc3, by omega, fun z h => by rw [xl]; exact zsm z h, fun H11 e11 => ⟨_, rfl, ?_⟩⟩
          have hno : holdsB zs xs = false := Bool.eq_false_iff.mpr fun hy => no_clash zl (holdsB_iff.mp hy) ok
          rw [hno]
          exact iteF ⟨(eI.trans I3.1).trans (SameBut.of e11), (I3.2.same e11).mono (by omega), _, rfl⟩
      · obtain ⟨eI, PI, x, rfl⟩ := I
        have B9 := (B8.same e9).byPen (e9 _ _ lM8) hp9 nmp eI
        have pa9 := (pa8.same e9).but hp9 eI
        refine ⟨_, rfl, _, rfl, _, rfl, Dm, v, zs.length, many, pf1, zF zs, zS zs, rfl, by omega, by omega, B9, sml, .inl ⟨_, pa9, ok, fun H10 e10 => ?_⟩⟩
        refine ⟨_, _, rfl, rfl, _, rfl, iteD rfl ⟨_, rfl, _, rfl, _, rfl, Dm, v, zs.length, many, pf1, zF zs, zS zs, rfl, by omega, by omega, B9.same e10, sml, .inr ⟨_, pa9.same e10, fun H11 e11 => ⟨_, _, rfl, rfl, ?_⟩⟩⟩⟩
        exact q _ ((e08.trans (SameBut.of e9)).trans (eI.trans (SameBut.of (e10.trans e11)))) ((PI.same (e10.trans e11)).mono (by omega))
    · -- a Point
      have e35 := e4.trans e5
      have d5 := same_bounds (e35 _ _ lM3) (e35 _ _ lK3) (BM3.same e35) (BK3.same e35)
      refine ⟨_, rfl, _, rfl, .mk d5 fun H6 e6 => ⟨_, rfl, iteF ?_⟩⟩
      refine ⟨_, rfl, _, rfl, Da, t, zs.length, many, pf1, zF zs, zS zs, _, rfl, by omega, by omega, (BA.same e5).same e6, sm, fun H7 u e7 i2 _ _ => (nc i2).elim, fun H7 u e7 _ pb _ => ?_⟩
      have p7 := (pa.same e6).same e7
      obtain ⟨dx, tv, hv, ht⟩ := id p7
      obtain ⟨dy, tu, hu, htu⟩ := id pb
      have e37 := e35.trans (e6.trans e7)
      have d7 := same_bounds (e37 _ _ lM3) (e37 _ _ lK3) (BM3.same e37) (BK3.same e37)
      refine ⟨_, rfl, .one (.mk u v dy dx _ _ rfl rfl hu hv ⟨u, v, _, rfl, pb, p7, _, rfl, _, rfl, iteF ?_⟩)⟩
      refine ⟨_, rfl, _, rfl, .mk d7 fun H8 e8 => ⟨_, rfl, iteF ?_⟩⟩
      have e38 := e37.trans e8
      have pa8 := p7.same e8
      have hv8 := e8 _ _ hv
      have ht8 := Same.seqT e8 ht
      have L8 := L3.same e38
      have B8 := BM3.same e38
      have P8 := P3.same e38
      have e08 : SameBut p H H8 := e03.trans (SameBut.of e38)
      have lM8 := e38 _ _ lM3
      refine ⟨_, rfl, isiC (tyIns T.ty_Point T.c_Point hv8) ⟨_, rfl, iteT ?_⟩⟩
      refine ⟨_, rfl, .one (.mk v dx _ rfl hv8 ⟨v, rfl, _, rfl, iteF ?_⟩)⟩
      refine ⟨_, rfl, v, _, dx, _, _, rfl, hv8, T.c_Point, T.n_Point_counts, lookup_hit _ _ _, isiY (tyT ht8) (by decide +kernel) ⟨_, rfl, iteF ?_⟩⟩
      refine ⟨_, rfl, v, _, dx, _, _, rfl, hv8, T.c_Point, T.n_Point_counts, lookup_hit _ _ _, tv, _, rfl, .inr ht8, _, rfl, rfl, _, rfl, iteNS (by rw [List.length_map, ok.len]) ?_⟩
      refine ⟨_, rfl, v, _, dx, _, _, rfl, hv8, T.c_Point, T.n_Point_counts, lookup_hit _ _ _, tv, rfl, ⟨_, ht8⟩, fun D1 hD1 => lcp_tup (pointOf zs.length many (zF zs) (zS zs)) V.int (fun _ => false) (fun _ => .non) hD1 (by rw [ok.len]; exact Nat.le_trans (show many ≤ 20 by omega) (by decide)) ht8 (fun x hx H' Nx Qe e k1 k2 => ?_) fun H9 e9 hD9 => ?_⟩
      · have lg : x.natAbs.log2 < 1920 := log_of (ok.sml x hx) (by decide) (by decide)
        exact ⟨rfl, _, rfl, _, rfl, lg, _, rfl, .inl ⟨_, rfl, _, rfl, lg, rfl, _, rfl, iteNS rfl (k2 rfl _ (Same.refl _))⟩⟩
      rw [filter_none fun _ _ => rfl] at hD9
      refine ⟨Nat.zero_le _, fun l hl2 => neNil (SqL.of (Same.new hl2 _ _ hD9)) (SqL.of upd_same) .nil rfl ⟨_, rfl, iteF ?_⟩⟩
      have e89 : Same H8 (upd H9 l (.lst [])) := e9.trans (Same.new hl2)
      generalize upd H9 l (HO.lst []) = H10 at e89
      have pa10 := pa8.same e89
      have hy : holdsB zs (pointOf zs.length many (zF zs) (zS zs)) = true := holdsB_iff.mpr (keeps_of zl ok)
      refine ⟨_, rfl, _, rfl, v, _, dx, _, _, rfl, e89 _ _ hv8, T.c_Point, T.n_Point_counts, lookup_hit _ _ _, D, tv, true, zs, _, rfl, L8.same e89, Same.seqT e89 ht8, by rw [ok.len]; omega, fun z h => by rw [ok.len]; exact zsm z h, fun H11 e11 => ⟨_, rfl, ?_⟩⟩
      rw [hy]
      refine iteF ?_
      have B11 := (B8.same e89).same e11
      have pa11 := pa10.same e11
      refine ⟨_, rfl, _, rfl, _, rfl, Dm, v, zs.length, many, pf1, zF zs, zS zs, rfl, by omega, by omega, B11, sml, .inl ⟨_, pa11, ok, fun H12 e12 => ?_⟩⟩
      refine ⟨_, _, rfl, rfl, _, rfl, iteD rfl ⟨_, rfl, _, rfl, _, rfl, Dm, v, zs.length, many, pf1, zF zs, zS zs, rfl, by omega, by omega, B11.same e12, sml, .inr ⟨_, pa11.same e12, fun H13 e13 => ⟨_, _, rfl, rfl, ?_⟩⟩⟩⟩
      have e813 := e89.trans (e11.trans (e12.trans e13))
      exact q _ (e08.trans (SameBut.of e813)) ((P8.same e813).mono (by omega))
end R35
namespace R35
open PySem PySem.Spec PyProof.Rows L2 RC
variable {P : Program} {w : World} {K : PySem.W.Frag} {mg : Str → Option Value} {base h : Heap}
/-! ### the law -/
def spLaw (K : PySem.W.Frag) : Sp := fun vs H Q _ => ∃ (a : Addr) (ns : List Int), vs = [.ref a] ∧ SqL K H a (ns.map V.int) ∧ ns.length ≤ 63 ∧ ∀ H', Q (.bl true) H'
theorem fn_law {fd : FuncData} (T : Ctx K mg h) (F : FunD K d_law.name d_law.qual d_law.params d_law.body d_law.scope (d_law.dvs K) (d_law.kws K) (He.fAd K d_law.at_) fd) : FnOk P w K mg base CX0 7 (He.ga K "law") fd ["_law_script"] (spLaw K) := by
  obtain ⟨_, G_settled, b_settled, k_settled, kb_settled⟩ := ok_settled (P := P) (w := w) (base := base) T
  obtain ⟨_, G_Bound_init, b_Bound_init, k_Bound_init⟩ := ok_Bound_init (P := P) (w := w) (base := base) T
  obtain ⟨_, G_Clash_bool, b_Clash_bool, k_Clash_bool⟩ := ok_Clash_bool (P := P) (w := w) (base := base) T
  obtain ⟨_, G_Point_bool, b_Point_bool, k_Point_bool⟩ := ok_Point_bool (P := P) (w := w) (base := base) T
  obtain ⟨_, G_Clash_eq, b_Clash_eq, k_Clash_eq⟩ := ok_Clash_eq (P := P) (w := w) (base := base) T
  obtain ⟨_, G_Point_eq, b_Point_eq, k_Point_eq⟩ := ok_Point_eq (P := P) (w := w) (base := base) T
  obtain ⟨_, G_law_as_bounds, b_law_as_bounds, k_law_as_bounds⟩ := ok_law_as_bounds (P := P) (w := w) (base := base) T
  obtain ⟨_, G_law_settled_right, b_law_settled_right, k_law_settled_right⟩ := ok_law_settled_right (P := P) (w := w) (base := base) T
  obtain ⟨_, G_law_plain_bounds, b_law_plain_bounds, k_law_plain_bounds⟩ := ok_law_plain_bounds (P := P) (w := w) (base := base) T
  obtain ⟨_, G_law_draw, b_law_draw, k_law_draw⟩ := ok_law_draw (P := P) (w := w) (base := base) T
  obtain ⟨_, G_law_pen, b_law_pen, k_law_pen⟩ := ok_law_pen (P := P) (w := w) (base := base) T
  refine F.ok sc_law (fun vs H Q E h => ?_) (fun cdv A outer s H vs Q E hr h => ?_)
  · obtain ⟨a, ns, rfl, hS, hl, q⟩ := h
    rfl
  · obtain ⟨a, ns, rfl, hS, hl, q⟩ := h
    refine ⟨_, PSs.nox (pss_cons (ps_set (i := 1) sc_law.nd rfl (by first | exact .inl rfl | exact .inr rfl) (pe_call G_law_pen (hr.mono (by decide)) (by rfl) T.g_law_pen k_law_pen b_law_pen .nil pass0 (pa_cons (pv 0) pa_nil)))
      (pss_cons (ps_for PassesOwn.never rfl (pi_range1 (by rfl) T.b_range (pa_cons pe_int pa_nil)) (pg_name (i := 2) sc_law.nd rfl (by first | exact .inl rfl | exact .inr rfl))
      (pss_cons (ps_set (i := 3) sc_law.nd rfl (by first | exact .inl rfl | exact .inr rfl) (pe_call G_law_draw (hr.mono (by decide)) (by rfl) T.g_law_draw k_law_draw b_law_draw .nil pass0 (pa_cons (pv 1) (pa_cons pe_int pa_nil))))
      (pss_cons (ps_set (i := 4) sc_law.nd rfl (by first | exact .inl rfl | exact .inr rfl) (pe_call G_law_plain_bounds (hr.mono (by decide)) (by rfl) T.g_law_plain_bounds k_law_plain_bounds b_law_plain_bounds .nil pass0 (pa_cons (pv 1) (pa_cons (pv 3) (pa_cons pe_int pa_nil)))))
      (pss_cons (ps_if (pt_not (pt_val (pe_call G_law_settled_right (hr.mono (by decide)) (by rfl) T.g_law_settled_right k_law_settled_right b_law_settled_right .nil pass0 (pa_cons (pv 1) (pa_cons (pv 4) (pa_cons (pv 3) pa_nil)))))) (pss_one (ps_ret pe_bl)) pss_nil)
      (pss_one (ps_if (pt_cmpR (opr_or (op_neO G_Point_eq (hr.mono (by decide)) T.eq_Point b_Point_eq pass0) (op_neO G_Clash_eq (hr.mono (by decide)) T.eq_Clash b_Clash_eq pass0)) (pe_callK0 G_settled (hr.mono (by decide)) (by rfl) T.g_settled k_settled kb_settled pass0 (pk_cons (pe_call G_law_as_bounds (hr.mono (by decide)) (by rfl) T.g_law_as_bounds k_law_as_bounds b_law_as_bounds .nil pass0 (pa_cons (pv 4) pa_nil)) (pk_cons (pv 3) pk_nil))) (pe_call G_settled (hr.mono (by decide)) (by rfl) T.g_settled k_settled b_settled .nil pass0 (pa_cons (pe_call G_law_as_bounds (hr.mono (by decide)) (by rfl) T.g_law_as_bounds k_law_as_bounds b_law_as_bounds .nil pass0 (pa_cons (pv 4) pa_nil)) (pa_cons (pv 3) pa_nil))) (nomark _)) (pss_one (ps_ret pe_bl)) pss_nil))))))
      (pss_one (ps_ret (pe_and (pe_callTy (call_boolO G_Point_bool (hr.mono (by decide)) T.tru_Point b_Point_bool pass0) (by rfl) T.b_bool (by decide +kernel) (pa_cons (pe_call G_settled (hr.mono (by decide)) (by rfl) T.g_settled k_settled b_settled .nil pass0 (pa_cons (pe_lst pa_nil) (pa_cons pe_int pa_nil))) pa_nil)) (pe_and (pe_callTy (call_boolO G_Point_bool (hr.mono (by decide)) T.tru_Point b_Point_bool pass0) (by rfl) T.b_bool (by decide +kernel) (pa_cons (pe_call G_settled (hr.mono (by decide)) (by rfl) T.g_settled k_settled b_settled .nil pass0 (pa_cons (pe_tup pa_nil) (pa_cons pe_int pa_nil))) pa_nil)) (pe_one (pe_notR (pe_call G_settled (hr.mono (by decide)) (by rfl) T.g_settled k_settled b_settled .nil pass0 (pa_cons (pe_lst (pa_cons (pe_make T.mk_Bound G_Bound_init (hr.mono (by decide)) (by rfl) T.g_Bound b_Bound_init .nil pass0 (pa_cons (pe_tup pa_nil) (pa_cons pe_bl pa_nil))) pa_nil)) (pa_cons pe_int pa_nil))) (tru_own G_Clash_bool (hr.mono (by decide)) T.tru_Clash b_Clash_bool pass0))))))))), ?_⟩
    refine ⟨_, rfl, a, ns, rfl, hS, hl, fun H0 p c _ _ _ P0 => ?_⟩
    refine ⟨9, rfl, by decide, by decide, for_r (n := 9) (fun i σ H' => Pen H' p c (1000 * i) ∧ ∃ v2 v3 v4, σ = [some (.ref a), some (.ref p), v2, v3, v4]) ⟨P0, _, _, _, rfl⟩ (fun i σ H1 hi I => ?_) fun σ H1 I => ?_⟩
    · obtain ⟨P1, v2, v3, v4, rfl⟩ := I
      refine ⟨_, rfl, p, c, 1000 * i, 6, rfl, P1, by omega, by decide, by decide, fun H2 many e2 P2 hm => ?_⟩
      refine ⟨_, rfl, _, rfl, p, c, _, many, 9, rfl, P2, by omega, by omega, by omega, fun H3 D zs e3 P3 hne hL hl hz => ?_⟩
      refine ⟨_, rfl, _, rfl, _, rfl, p, c, D, _, many, zs, rfl, P3, by omega, by omega, hne, hL, hl, hz, fun H4 e4 P4 => ⟨_, rfl, iteF ?_⟩⟩
      obtain ⟨_, _, hp3, _⟩ := P3.has
      have L4 := hL.but hp3 hne e4
      have zl : ∀ z, z ∈ zs → z.f.length = many := fun z h => (hz z h).1
      have sm := sml_of (zs := zs) (m := many) (by omega) (by omega) fun z h => ⟨zl z h, fun f hf => Nat.le_trans ((hz z h).2 f hf) (by decide)⟩
      refine ⟨_, rfl, D, zs, many, rfl, L4, by omega, by omega, zl, fun H5 Da pf5 e5 _ _ B5 => ⟨_, rfl, Da, false, zs.length, many, pf5, zF zs, zS zs, _, rfl, by omega, by omega, B5, sm, fun H6 u e6 ic pa _ => ?_, fun H6 u e6 nc pa _ => ?_⟩⟩
      · have e46 := e5.trans e6
        refine ⟨_, rfl, D, zs, many, rfl, L4.same e46, by omega, by omega, zl, fun H7 Db pf7 e7 _ _ B7 => ⟨_, rfl, Db, false, zs.length, many, pf7, zF zs, zS zs, _, rfl, by omega, by omega, B7, sm, fun H8 v e8 _ pb _ => ?_, fun H8 v e8 nc _ _ => (nc ic).elim⟩⟩
        have pa8 := (pa.same e7).same e8
        obtain ⟨dx, tv, hv, ht⟩ := id pa8
        obtain ⟨dy, tu, hu, htu⟩ := id pb
        exact .two (.mk u v dx dy _ _ rfl rfl hv hu ⟨u, v, _, rfl, pa8, pb, _, rfl, _, rfl, iteF ⟨(P4.same (e46.trans (e7.trans e8))).mono (by omega), _, _, _, rfl⟩⟩)
      · have e46 := e5.trans e6
        refine ⟨_, rfl, D, zs, many, rfl, L4.same e46, by omega, by omega, zl, fun H7 Db pf7 e7 _ _ B7 => ⟨_, rfl, Db, false, zs.length, many, pf7, zF zs, zS zs, _, rfl, by omega, by omega, B7, sm, fun H8 v e8 ic _ _ => (nc ic).elim, fun H8 v e8 _ pb _ => ?_⟩⟩
        have pa8 := (pa.same e7).same e8
        obtain ⟨dx, tv, hv, ht⟩ := id pa8
        obtain ⟨dy, tu, hu, htu⟩ := id pb
        exact .one (.mk u v dx dy _ _ rfl rfl hv hu ⟨u, v, _, rfl, pa8, pb, _, rfl, _, rfl, iteF ⟨(P4.same (e46.trans (e7.trans e8))).mono (by omega), _, _, _, rfl⟩⟩)
    · obtain ⟨P1, v2, v3, v4, rfl⟩ := I
      have sm0 : ∀ m, m ≤ 8 → Sml (Rf (zF []) (zS []) m) 0 (m + 1) 1200000000000000 := fun m hm => sml_of (zs := []) (by decide) hm fun z h => by cases h
      have no0 : ∀ {m F S ws}, ClashOk 0 m F S ws → False := fun ok => by
        obtain ⟨j, hj, _⟩ := ok.str
        exact absurd hj (Nat.not_lt_zero j)
      refine ⟨Nat.zero_le _, fun l hl3 => ⟨l, false, 0, 3, fun _ => 0, zF [], zS [], _, rfl, by decide, by decide, ⟨SqL.of upd_same, fun j hj => absurd hj (Nat.not_lt_zero j), fun j hj => absurd hj (Nat.not_lt_zero j)⟩, sm0 3 (by decide), fun H5 u e5 _ _ ok => (no0 ok).elim, fun H5 u e5 _ pa _ => ?_⟩⟩
      obtain ⟨dx, t, hv, _⟩ := pa
      refine .mk u dx _ rfl hv ⟨u, rfl, _, rfl, _, rfl, iteT ?_⟩
      clear hv e5
      refine ⟨Nat.zero_le _, fun l hl3 => ⟨l, true, 0, 0, fun _ => 0, zF [], zS [], _, rfl, by decide, by decide, ⟨SqT.of upd_same, fun j hj => absurd hj (Nat.not_lt_zero j), fun j hj => absurd hj (Nat.not_lt_zero j)⟩, sm0 0 (by decide), fun H6 u e6 _ _ ok => (no0 ok).elim, fun H6 u e6 _ pa _ => ?_⟩⟩
      obtain ⟨dx, t, hv, _⟩ := pa
      refine .mk u dx _ rfl hv ⟨u, rfl, _, rfl, _, rfl, iteT ?_⟩
      clear hv e6
      refine ⟨Nat.zero_le _, fun t ht x dx hx hdx hne => ⟨x, dx, t, [], true, rfl, by decide, SqT.of (Same.upd (Same.new hdx) hx _ _ upd_same), upd_same, fun H7 e7 h7 => ⟨rfl, ?_⟩⟩⟩
      have hT : H7 t = some (.tup []) := Same.ofNew hx hdx e7 _ _ upd_same
      refine ⟨(by show 1 ≤ sizeLine; decide), fun l hl4 => ⟨l, false, 1, 0, fun _ => x, zF [⟨0, 0, [], true⟩], zS [⟨0, 0, [], true⟩], 1200000000000000, rfl, by decide, by decide, ⟨SqL.of upd_same, fun j hj => ?_, fun j hj => ?_⟩, ?_, fun H8 u e8 _ pa _ => ?_, fun H8 u e8 _ _ ok => ?_⟩⟩
      · obtain rfl : j = 0 := by omega
        exact ⟨dx, t, Same.new hl4 _ _ h7, SqT.of (Same.new hl4 _ _ hT)⟩
      · obtain rfl : j = 0 := by omega
        rfl
      · exact sml_of (zs := [⟨0, 0, [], true⟩]) (m := 0) (by decide) (by decide) fun z h => by
          rw [List.mem_singleton.mp h]
          exact ⟨rfl, fun f hf => by cases hf⟩
      · obtain ⟨dy, u2, hv, _⟩ := pa
        exact .mk u dy _ rfl hv ⟨u, rfl, _, rfl, q _⟩
      · have bad := (ok.val 0 (by decide)).2 rfl
        exact absurd bad (by unfold Sx.sm; decide)
end R35
namespace R35
open PySem PySem.Spec PyProof.Rows L2 RC
abbrev R : PySem.W.OpenRow := PySem.W.OpenLaw.row PySem.Challenge.rw_rowcounts_k35_whole_points_or_clashes
abbrev hk : PySem.W.Hook := hookM 5
def ob (s : PySem.W.SharedT) : AlM := obsM 5 (HandSHeadRun.getT s)
theorem ob_eq (s : PySem.W.SharedT) : ob s = hk.obs s.abs := obsM_eq (HandSHeadRun.getT_eq s)
def names0 : List Str := ["_wall", "__name__", "CountError", "BadInput", "BadBounds", "BadForm", "BadNumber", "BadText", "__name__", "MOST_FIGURES", "is_int", "is_between", "number_of", "__name__", "MOST_NUMBERS", "MOST_DIGITS", "are_ints", "need_numbers", "opposite", "value_at", "Bound", "factors_of"]
def names1 : List Str := ["__name__", "MOST_BOUNDS", "Point", "Clash", "need_bounds", "lowered", "Grid", "settled", "shows_point", "are_clashing", "shows_clash", "__name__", "_law_pen", "_law_draw", "_law_pick", "_law_factor", "_law_form", "_law_value", "_law_plain_bounds", "_law_clashes", "_law_holds", "_law_as_bounds", "_law_settled_right"]
def names : List Str := names0 ++ names1
theorem run (w : World) : HandSHeadRun.RunEqI R (PySem.W.view R.prog [0, 46]) hk ob 20000 names w := by
  unfold HandSHeadRun.RunEqI
  kernel_rfl
theorem facts {P : Program} {w : World} {K : PySem.W.Frag} {h : Heap} {mg : Str → Option Value} {f : Addr} (X : K.In h) (G : h.Ns mainGlobals mg) (hfa : mg ("law" : Str) = some (.ref f)) (c : SaysM K) :
    ∃ fd : FuncData, (∀ (s : Shared) (v : Value), BindsTo s fd ⟨[v], []⟩ [("_law_script", v)]) ∧ ∀ base : Heap, K.In base → base.Ns mainGlobals mg → FnOk P w K mg base CX0 7 f fd ["_law_script"] (spLaw K) := by
  have T : Ctx K mg h := ⟨X, G, c⟩
  obtain ⟨fd, F⟩ := T.f_law
  have e := hfa.symm.trans T.g_law
  cases e
  have b := FunD.bindsA (ps := ["_law_script"]) F fun _ _ _ _ _ _ us hl => match us, hl with | [_], _ => rfl
  exact ⟨fd, fun s v => b s [v] rfl, fun base _ _ => fn_law T F⟩
end R35
open PySem PySem.W PySem.Calls PyProof.Rows
theorem PySem.Challenge.cw_rowcounts_k35_whole_points_or_clashes_holds : PySem.Challenge.rw_rowcounts_k35_whole_points_or_clashes.Holds := by
  w_on; o_law
  refine HandSHeadRun.head_imp (r := R35.R) (q := view R35.R.prog [0, 46]) (H := R35.hk) (ob := R35.ob) (M := 20000) (loose := R35.names) (d := HandSHeadRun.topDef R35.R.prog 46) (kwd := []) R35.ob_eq
    R35.run (by kernel_rfl) (by kernel_rfl) (by kernel_rfl) (by rfl) (by first | assumption | decide +kernel) (by decide +kernel) ⟨rfl, rfl, rfl, rfl, rfl, by decide +kernel⟩ ?hw ?hc
  case hw => w_witness2
  case hc =>
    refine L2.walk_ofE (l := PySem.Challenge.rw_rowcounts_k35_whole_points_or_clashes) (n := 63) (k := 7) (x := "_law_script") (CX := L2.CX0) rfl (by decide) (by kernel_rfl) ⟨rfl, by decide, by decide⟩ ?F (fun _ _ _ _ z => z)
    intro w mg fa h Y G hmg0
    obtain ⟨K, KX, c⟩ := Y
    have hmg : mg ("law" : PySem.Str) = some (.ref fa) := by
      have e : (HandSHeadRun.topDef R35.R.prog 46).name = ("law" : PySem.Str) := by kernel_rfl
      rw [← e]
      exact hmg0
    obtain ⟨fd, hb, hF⟩ := R35.facts (P := (PySem.Challenge.rw_rowcounts_k35_whole_points_or_clashes).prog) (w := w) KX G hmg c
    exact ⟨K, fd, R35.spLaw K, KX, hb, fun H a ns hl _ hS => ⟨a, ns, rfl, hS, hl, fun _ => rfl⟩, hF⟩
