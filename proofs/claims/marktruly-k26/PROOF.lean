import PyProof.Rows.All
import Wide.All
import OpenK.AllK
import Wide.FinOn
import KE.KStateDown
import HandS.Head0
import HandS.Head1
import HandS.Head2
import HandS.HeadEnd
import HandS.HeadHook1
import HandS.HeadHook2
import HandS.Codes
import HandS.ForMost
import HandS.Wide
import HandS.WideBits
import HandS.SetKeys
import HandS.Zip
import HandS.Deep
import HandS.TupAny
import HandS.Conv
import HandS.NoneIn
import HandS.DictComp
import HandS.IsInst
import HandS.Walk
import HandS.More
import HandS.Exc
import HandS.TryOnly
import HandS.Flow
import HandS.Defaults
import HandS.OwnEq
import PyProof.InstNe
import OpenK.KMeth
import KE.GoesEnum
import KE.GoesMore
import KE.GoesZip
import PyProof.EnumMake
import KE.KDictSum
import HandS.DictTup
import HandS.SetFor
import HandS.SetTxt0
import HandS.Strs
import KE.SortData
import PySem.Challenge.RW_marktruly_k26_whole_best_marking
-- M1
set_option linter.all false
namespace Mk
/-! sums of ints over 0 .. n-1 -/
def sm : Nat → (Nat → Int) → Int
  | 0, _ => 0
  | n + 1, f => sm n f + f n
theorem sm_zero (f : Nat → Int) : sm 0 f = 0 := rfl
theorem sm_succ (n : Nat) (f : Nat → Int) : sm (n + 1) f = sm n f + f n := rfl
theorem sm_congr {n : Nat} {f g : Nat → Int} (h : ∀ k, k < n → f k = g k) : sm n f = sm n g := by
  induction n with
  | zero => rfl
  | succ n ih => rw [sm_succ, sm_succ, ih fun k hk => h k (by omega), h n (by omega)]
theorem sm_add (n : Nat) (f g : Nat → Int) : sm n (fun k => f k + g k) = sm n f + sm n g := by
  induction n with
  | zero => rfl
  | succ n ih => rw [sm_succ, sm_succ, sm_succ, ih]; omega
theorem sm_sub (n : Nat) (f g : Nat → Int) : sm n (fun k => f k - g k) = sm n f - sm n g := by
  induction n with
  | zero => rfl
  | succ n ih => rw [sm_succ, sm_succ, sm_succ, ih]; omega
theorem sm_mul (n : Nat) (c : Int) (f : Nat → Int) : sm n (fun k => c * f k) = c * sm n f := by
  induction n with
  | zero => simp [sm]
  | succ n ih => rw [sm_succ, sm_succ, ih, Int.mul_add]
theorem sm_mulr (n : Nat) (c : Int) (f : Nat → Int) : sm n (fun k => f k * c) = sm n f * c := by
  induction n with
  | zero => simp [sm]
  | succ n ih => rw [sm_succ, sm_succ, ih, Int.add_mul]
theorem sm_const0 (n : Nat) : sm n (fun _ => 0) = 0 := by
  induction n with
  | zero => rfl
  | succ n ih => rw [sm_succ, ih]; rfl
theorem sm_zero_of {n : Nat} {f : Nat → Int} (h : ∀ k, k < n → f k = 0) : sm n f = 0 := by
  rw [sm_congr h, sm_const0]
theorem sm_nonneg {n : Nat} {f : Nat → Int} (h : ∀ k, k < n → 0 ≤ f k) : 0 ≤ sm n f := by
  induction n with
  | zero => exact Int.le_refl 0
  | succ n ih => rw [sm_succ]; have := ih fun k hk => h k (by omega); have := h n (by omega); omega
theorem sm_le {n : Nat} {f g : Nat → Int} (h : ∀ k, k < n → f k ≤ g k) : sm n f ≤ sm n g := by
  induction n with
  | zero => exact Int.le_refl _
  | succ n ih => rw [sm_succ, sm_succ]; have := ih fun k hk => h k (by omega); have := h n (by omega); omega
theorem sm_nonpos {n : Nat} {f : Nat → Int} (h : ∀ k, k < n → f k ≤ 0) : sm n f ≤ 0 := by
  have := sm_le (g := fun _ => 0) h
  rw [sm_const0] at this
  exact this
/-- only the term at i is not 0 -/
theorem sm_one {n i : Nat} {f : Nat → Int} (hi : i < n) (h : ∀ k, k < n → k ≠ i → f k = 0) : sm n f = f i := by
  induction n with
  | zero => omega
  | succ n ih =>
    rw [sm_succ]
    by_cases e : i = n
    · subst e
      rw [sm_zero_of fun k hk => h k (by omega) (by omega)]
      omega
    · rw [ih (by omega) fun k hk hne => h k (by omega) hne, h n (by omega) (by omega)]
      omega
/-- the terms at i and j are not 0 -/
theorem sm_two {n i j : Nat} {f : Nat → Int} (hi : i < n) (hj : j < n) (hij : i ≠ j) (h : ∀ k, k < n → k ≠ i → k ≠ j → f k = 0) : sm n f = f i + f j := by
  induction n with
  | zero => omega
  | succ n ih =>
    rw [sm_succ]
    by_cases e : i = n
    · subst e
      rw [sm_one (i := j) (by omega) fun k hk hne => h k (by omega) (by omega) hne]
      omega
    · by_cases e' : j = n
      · subst e'
        rw [sm_one (i := i) (by omega) fun k hk hne => h k (by omega) hne (by omega)]
      · rw [ih (by omega) (by omega) fun k hk h1 h2 => h k (by omega) h1 h2, h n (by omega) (by omega) (by omega)]
        omega
/-- one term out of the sum -/
theorem sm_split {n i : Nat} (f : Nat → Int) (hi : i < n) : sm n f = sm n (fun k => if k = i then 0 else f k) + f i := by
  have e : sm n f = sm n (fun k => (if k = i then 0 else f k) + (if k = i then f i else 0)) := sm_congr fun k _ => by
    by_cases h : k = i
    · subst h; simp
    · simp [h]
  rw [e, sm_add, sm_one (i := i) (f := fun k => if k = i then f i else 0) hi (fun k _ h => if_neg h), if_pos rfl]
theorem sm_swap (n m : Nat) (f : Nat → Nat → Int) : sm n (fun i => sm m (fun j => f i j)) = sm m (fun j => sm n (fun i => f i j)) := by
  induction n with
  | zero => rw [sm_zero]; exact (sm_const0 m).symm
  | succ n ih =>
    rw [sm_succ, ih, ← sm_add]
    exact sm_congr fun j _ => (sm_succ n _).symm
theorem sm_pos_ex {n : Nat} {f : Nat → Int} (h : 0 < sm n f) : ∃ k, k < n ∧ 0 < f k := by
  induction n with
  | zero => exact absurd h (by simp [sm])
  | succ n ih =>
    rw [sm_succ] at h
    by_cases e : 0 < f n
    · exact ⟨n, by omega, e⟩
    · obtain ⟨k, hk, hf⟩ := ih (by omega)
      exact ⟨k, by omega, hf⟩
theorem sm_first (n : Nat) (f : Nat → Int) : sm (n + 1) f = f 0 + sm n (fun k => f (k + 1)) := by
  induction n with
  | zero => simp [sm]
  | succ n ih => rw [sm_succ, ih, sm_succ]; omega
theorem sm_append (n m : Nat) (f : Nat → Int) : sm (n + m) f = sm n f + sm m (fun k => f (n + k)) := by
  induction m with
  | zero => simp [sm]
  | succ m ih => rw [← Nat.add_assoc, sm_succ, ih, sm_succ]; omega
theorem sm_abs (n : Nat) (f : Nat → Int) (B : Nat) (h : ∀ k, k < n → (f k).natAbs ≤ B) : (sm n f).natAbs ≤ n * B := by
  induction n with
  | zero => simp [sm]
  | succ n ih =>
    rw [sm_succ, Nat.succ_mul]
    have h1 := ih fun k hk => h k (by omega)
    have h2 := h n (by omega)
    have := Int.natAbs_add_le (sm n f) (f n)
    omega
end Mk

-- M2
set_option linter.all false
namespace Mk
/-! a determinant: columns f k, coordinates f k i, unfolded along the first coordinate -/
def skp (k l : Nat) : Nat := if l < k then l else l + 1
def usk (k p : Nat) : Nat := if p < k then p else p - 1
def sg (k : Nat) : Int := if k % 2 = 0 then 1 else -1
def sbm (f : Nat → Nat → Int) (k : Nat) : Nat → Nat → Int := fun l i => f (skp k l) (i + 1)
def det : Nat → (Nat → Nat → Int) → Int
  | 0, _ => 1
  | n + 1, f => sm (n + 1) fun k => sg k * f k 0 * det n (sbm f k)
theorem skp_usk {k p : Nat} (h : p ≠ k) : skp k (usk k p) = p := by
  unfold skp usk
  by_cases h1 : p < k
  · rw [if_pos h1, if_pos h1]
  · rw [if_neg h1, if_neg (by omega)]
    omega
theorem usk_skp (k l : Nat) : usk k (skp k l) = l := by
  unfold skp usk
  by_cases h1 : l < k
  · rw [if_pos h1, if_pos h1]
  · rw [if_neg h1, if_neg (by omega)]
    omega
def stc (f : Nat → Nat → Int) (p : Nat) (u : Nat → Int) : Nat → Nat → Int := fun k => if k = p then u else f k
theorem stc_same (f : Nat → Nat → Int) (p : Nat) (u : Nat → Int) : stc f p u p = u := if_pos rfl
theorem stc_ne (f : Nat → Nat → Int) {p k : Nat} (u : Nat → Int) (h : k ≠ p) : stc f p u k = f k := if_neg h
theorem det_succ (n : Nat) (f : Nat → Nat → Int) : det (n + 1) f = sm (n + 1) fun k => sg k * f k 0 * det n (sbm f k) := rfl
theorem det_congr : ∀ {n : Nat} {f g : Nat → Nat → Int}, (∀ k i, k < n → i < n → f k i = g k i) → det n f = det n g
  | 0, _, _, _ => rfl
  | n + 1, f, g, h => by
    rw [det_succ, det_succ]
    refine sm_congr fun k hk => ?_
    rw [h k 0 hk (by omega), det_congr (f := sbm f k) (g := sbm g k) fun l i hl hi => ?_]
    unfold sbm
    refine h _ _ ?_ (by omega)
    unfold skp
    split <;> omega
theorem sbm_same (f : Nat → Nat → Int) (p : Nat) (u : Nat → Int) : sbm (stc f p u) p = sbm f p := by
  funext l i
  unfold sbm
  rw [stc_ne]
  unfold skp
  split <;> omega
theorem sbm_ne (f : Nat → Nat → Int) {p k : Nat} (u : Nat → Int) (h : k ≠ p) : sbm (stc f p u) k = stc (sbm f k) (usk k p) (fun i => u (i + 1)) := by
  funext l
  by_cases e : l = usk k p
  · have e2 : skp k l = p := by rw [e]; exact skp_usk (Ne.symm h)
    rw [e, stc_same]
    funext i
    unfold sbm
    rw [← e, e2, stc_same]
  · have e2 : skp k l ≠ p := by
      intro z
      apply e
      rw [← z, usk_skp]
    rw [stc_ne _ _ e]
    funext i
    unfold sbm
    rw [stc_ne _ _ e2]
theorem det_lin : ∀ {n : Nat} {p : Nat} (f : Nat → Nat → Int) (a b : Int) (u v : Nat → Int), p < n →
    det n (stc f p fun i => a * u i + b * v i) = a * det n (stc f p u) + b * det n (stc f p v)
  | 0, _, _, _, _, _, _, h => by omega
  | n + 1, p, f, a, b, u, v, h => by
    rw [det_succ, det_succ, det_succ, ← sm_mul, ← sm_mul, ← sm_add]
    refine sm_congr fun k hk => ?_
    by_cases e : k = p
    · subst e
      rw [sbm_same, sbm_same, sbm_same, stc_same, stc_same, stc_same]
      grind
    · rw [stc_ne _ _ e, stc_ne _ _ e, stc_ne _ _ e, sbm_ne _ _ e, sbm_ne _ _ e, sbm_ne _ _ e]
      have hq : usk k p < n := by unfold usk; split <;> omega
      rw [det_lin (sbm f k) a b (fun i => u (i + 1)) (fun i => v (i + 1)) hq]
      grind
theorem sg_succ (p : Nat) : sg (p + 1) = - sg p := by
  unfold sg
  split <;> split <;> omega
/-- two neighbours alike -/
theorem det_adj : ∀ {n : Nat} {p : Nat} (f : Nat → Nat → Int), p + 1 < n → f p = f (p + 1) → det n f = 0
  | 0, _, _, h, _ => by omega
  | n + 1, p, f, h, e => by
    rw [det_succ, sm_two (i := p) (j := p + 1) (by omega) (by omega) (by omega)]
    · have e2 : sbm f p = sbm f (p + 1) := by
        funext l i
        unfold sbm skp
        by_cases h1 : l < p
        · rw [if_pos h1, if_pos (by omega)]
        · by_cases h2 : l = p
          · subst h2
            rw [if_neg (by omega), if_pos (by omega), e]
          · rw [if_neg h1, if_neg (by omega)]
      rw [e2, e, sg_succ]
      grind
    · intro k hk h1 h2
      have h3 : usk k p + 1 = usk k (p + 1) := by unfold usk; split <;> split <;> omega
      have h4 : sbm f k (usk k p) = sbm f k (usk k p + 1) := by
        rw [h3]
        funext i
        unfold sbm
        have a1 : skp k (usk k p) = p := skp_usk (Ne.symm h1)
        have a2 : skp k (usk k (p + 1)) = p + 1 := skp_usk (Ne.symm h2)
        rw [a1, a2, e]
      rw [det_adj (sbm f k) (by unfold usk; split <;> omega) h4]
      simp
theorem stc_comm (f : Nat → Nat → Int) {p q : Nat} (u v : Nat → Int) (h : p ≠ q) : stc (stc f p u) q v = stc (stc f q v) p u := by
  funext k
  unfold stc
  by_cases h1 : k = p
  · subst h1; rw [if_neg h, if_pos rfl, if_pos rfl]
  · by_cases h2 : k = q
    · subst h2; rw [if_pos rfl, if_neg h1, if_pos rfl]
    · simp [h1, h2]
theorem stc_stc (f : Nat → Nat → Int) (p : Nat) (u v : Nat → Int) : stc (stc f p u) p v = stc f p v := by
  funext k
  unfold stc
  split <;> rfl
theorem stc_id (f : Nat → Nat → Int) (p : Nat) : stc f p (f p) = f := by
  funext k
  unfold stc
  split
  · rename_i h; rw [h]
  · rfl
/-- swapping two columns, from: alike is 0 -/
theorem det_swap_of {n p q : Nat} (hp : p < n) (hq : q < n) (hpq : p ≠ q) (z : ∀ (g : Nat → Nat → Int) (u : Nat → Int), det n (stc (stc g p u) q u) = 0) (f : Nat → Nat → Int) (u v : Nat → Int) :
    det n (stc (stc f p u) q v) = - det n (stc (stc f p v) q u) := by
  have h := z f fun i => 1 * u i + 1 * v i
  rw [det_lin _ 1 1 u v hq, stc_comm _ _ _ hpq, stc_comm _ _ _ hpq, det_lin _ 1 1 u v hp, det_lin _ 1 1 u v hp,
    ← stc_comm _ _ _ hpq, ← stc_comm _ _ _ hpq, ← stc_comm _ _ _ hpq, ← stc_comm _ _ _ hpq, z, z] at h
  omega
theorem det_far : ∀ (d : Nat) {n p : Nat} (f : Nat → Nat → Int), p + 1 + d < n → f p = f (p + 1 + d) → det n f = 0
  | 0, n, p, f, h, e => det_adj f (by omega) e
  | d + 1, n, p, f, h, e => by
    have z : ∀ (g : Nat → Nat → Int) (u : Nat → Int), det n (stc (stc g (p + 1 + d) u) (p + 1 + d + 1) u) = 0 := fun g u =>
      det_adj _ (p := p + 1 + d) (by omega) (by rw [stc_ne _ _ (by omega), stc_same, stc_same])
    have s := det_swap_of (n := n) (p := p + 1 + d) (q := p + 1 + d + 1) (by omega) (by omega) (by omega) z f (f (p + 1 + d)) (f (p + 1 + d + 1))
    rw [stc_id] at s
    have s2 : stc f (p + 1 + d + 1) (f (p + 1 + d + 1)) = f := stc_id f _
    rw [s2] at s
    rw [s, det_far d (n := n) (p := p) _ (by omega)]
    · rfl
    · rw [stc_ne _ _ (by omega), stc_ne _ _ (by omega), stc_ne _ _ (by omega), stc_same, e]
      rfl
theorem det_eq0 {n p q : Nat} {f : Nat → Nat → Int} (hp : p < n) (hq : q < n) (h : p ≠ q) (e : f p = f q) : det n f = 0 := by
  by_cases l : p < q
  · exact det_far (q - p - 1) (p := p) f (by omega) (by rw [e]; congr 1; omega)
  · exact det_far (p - q - 1) (p := q) f (by omega) (by rw [← e]; congr 1; omega)
theorem det_swap {n p q : Nat} (hp : p < n) (hq : q < n) (hpq : p ≠ q) (f : Nat → Nat → Int) (u v : Nat → Int) :
    det n (stc (stc f p u) q v) = - det n (stc (stc f p v) q u) :=
  det_swap_of hp hq hpq (fun g u => det_eq0 hp hq hpq (by rw [stc_ne _ _ hpq, stc_same, stc_same])) f u v
theorem det_sum {n p : Nat} (hp : p < n) (f : Nat → Nat → Int) (c : Nat → Int) (u : Nat → Nat → Int) : ∀ m : Nat,
    det n (stc f p fun i => sm m fun k => c k * u k i) = sm m fun k => c k * det n (stc f p (u k))
  | 0 => by
    have h := det_lin f 0 0 (fun _ => 0) (fun _ => 0) hp
    rw [sm_zero]
    have e : (fun i => (0 : Int) * 0 + 0 * 0) = (fun i : Nat => sm 0 fun k => c k * u k i) := by
      funext i
      rfl
    rw [← e, h]
    omega
  | m + 1 => by
    have h := det_lin f 1 (c m) (fun i => sm m fun k => c k * u k i) (u m) hp
    rw [sm_succ, ← det_sum hp f c u m]
    have e : (fun i => 1 * (sm m fun k => c k * u k i) + c m * u m i) = (fun i => sm (m + 1) fun k => c k * u k i) := by
      funext i
      rw [sm_succ]
      omega
    rw [← e, h]
    omega
theorem det_one : ∀ n : Nat, det n (fun k i => if k = i then 1 else 0) = 1
  | 0 => rfl
  | n + 1 => by
    rw [det_succ, sm_one (i := 0) (by omega)]
    · have e : sbm (fun k i => if k = i then (1 : Int) else 0) 0 = fun k i => if k = i then 1 else 0 := by
        funext l i
        unfold sbm skp
        simp
      rw [e, det_one n]
      rfl
    · intro k _ hk
      rw [if_neg hk]
      simp
/-- how large -/
def fct : Nat → Nat
  | 0 => 1
  | n + 1 => (n + 1) * fct n
theorem det_abs (B : Nat) : ∀ {n : Nat} {f : Nat → Nat → Int}, (∀ k i, k < n → i < n → (f k i).natAbs ≤ B) → (det n f).natAbs ≤ fct n * B ^ n
  | 0, _, _ => by simp [det, fct]
  | n + 1, f, h => by
    rw [det_succ]
    have q : ∀ k, k < n + 1 → (sg k * f k 0 * det n (sbm f k)).natAbs ≤ B * (fct n * B ^ n) := fun k hk => by
      have h1 := h k 0 hk (by omega)
      have h2 := det_abs B (n := n) (f := sbm f k) fun l i hl hi => h _ _ (by unfold skp; split <;> omega) (by omega)
      rw [Int.natAbs_mul, Int.natAbs_mul]
      have h3 : (sg k).natAbs = 1 := by unfold sg; split <;> rfl
      rw [h3, Nat.one_mul]
      exact Nat.mul_le_mul h1 h2
    have r := sm_abs (n + 1) _ _ q
    refine Nat.le_trans r (Nat.le_of_eq ?_)
    show _ = (n + 1) * fct n * B ^ (n + 1)
    rw [Nat.pow_succ, Nat.mul_assoc, Nat.mul_left_comm B, Nat.mul_comm B]
end Mk

-- M3
set_option linter.all false
namespace Mk
/-! tables of integers over one divisor, exchanged without remainders -/
/-- what is given: n columns, m rows, the objective in row m; the slack of row k in column n + k, the right side in column n + m -/
structure Prob where
  n : Nat
  m : Nat
  t : Nat → Nat → Int
def Prob.N (p : Prob) : Nat := p.n + p.m
structure Prob.Ok (p : Prob) (R : Nat) : Prop where
  sl : ∀ i k, i < p.m → k < p.m → p.t i (p.n + k) = if i = k then 1 else 0
  slm : ∀ k, k < p.m → p.t p.m (p.n + k) = 0
  nn : ∀ i j, i < p.m → j ≤ p.N → 0 ≤ p.t i j
  col : ∀ j, j < p.n → ∃ i, i < p.m ∧ 0 < p.t i j
  ob : ∀ j, j < p.n → p.t p.m j = -1
  obN : p.t p.m p.N = 0
  one : ∀ i j, i ≤ p.m → j < p.N → (p.t i j).natAbs ≤ 1
  rhs : ∀ i, i ≤ p.m → (p.t i p.N).natAbs ≤ R
  r1 : 1 ≤ R
structure Tab where
  T : Nat → Nat → Int
  d : Int
  b : Nat → Nat
def Prob.bas (p : Prob) (b : Nat → Nat) : Nat → Nat → Int := fun k => if k = p.m then fun i => if i = p.m then 1 else 0 else fun i => p.t i (b k)
structure Tab.Ok (p : Prob) (s : Tab) : Prop where
  hd : 0 < s.d
  hdet : s.d = det (p.m + 1) (p.bas s.b)
  ht : ∀ i j, i ≤ p.m → j ≤ p.N → s.T i j = det (p.m + 1) (stc (p.bas s.b) i fun x => p.t x j)
  h3 : ∀ i j, i ≤ p.m → j ≤ p.N → s.d * p.t i j = sm p.m (fun k => s.T k j * p.t i (s.b k)) + if i = p.m then s.T p.m j else 0
  h4 : ∀ i j, i ≤ p.m → j ≤ p.N → s.T i j = (if i = p.m then s.d * p.t p.m j else 0) + sm p.m fun k => s.T i (p.n + k) * p.t k j
  hb : ∀ i k, i ≤ p.m → k < p.m → s.T i (s.b k) = if i = k then s.d else 0
  hl : ∀ k, k < p.m → s.b k < p.N
  hr : ∀ i, i < p.m → 0 ≤ s.T i p.N
def Tab.exch (s : Tab) (r c : Nat) : Tab where
  T := fun i j => if i = r then s.T r j else (s.T i j * s.T r c - s.T i c * s.T r j) / s.d
  d := s.T r c
  b := fun k => if k = r then c else s.b k
def Prob.start (p : Prob) : Tab := ⟨p.t, 1, fun k => p.n + k⟩
/-- r bounds column c most -/
structure Tab.Bnd (p : Prob) (s : Tab) (r c : Nat) : Prop where
  hr : r < p.m
  hc : c < p.N
  pos : 0 < s.T r c
  most : ∀ i, i < p.m → 0 < s.T i c → s.T r p.N * s.T i c ≤ s.T i p.N * s.T r c
section
variable {p : Prob} {s : Tab}
theorem bas_m (b : Nat → Nat) : p.bas b p.m = fun i => if i = p.m then 1 else 0 := if_pos rfl
theorem bas_lt (b : Nat → Nat) {k : Nat} (h : k < p.m) : p.bas b k = fun i => p.t i (b k) := if_neg (by omega)
/-- a column as the sum of the basis' columns -/
theorem Tab.Ok.vec (o : s.Ok p) {x j : Nat} (hx : x ≤ p.m) (hj : j ≤ p.N) : s.d * p.t x j = sm (p.m + 1) fun k => s.T k j * p.bas s.b k x := by
  rw [o.h3 x j hx hj, sm_succ, bas_m]
  congr 1
  · exact sm_congr fun k hk => by rw [bas_lt _ hk]
  · by_cases h : x = p.m
    · rw [if_pos h]; simp [h]
    · rw [if_neg h]; simp [h]
theorem bas_exch (r c : Nat) (hr : r < p.m) : p.bas (s.exch r c).b = stc (p.bas s.b) r fun x => p.t x c := by
  funext k
  by_cases h : k = r
  · subst h
    rw [stc_same, bas_lt _ hr]
    show (fun i => p.t i (if k = k then c else s.b k)) = _
    rw [if_pos rfl]
  · rw [stc_ne _ _ h]
    unfold Prob.bas
    by_cases e : k = p.m
    · rw [if_pos e, if_pos e]
    · rw [if_neg e, if_neg e]
      show (fun i => p.t i (if k = r then c else s.b k)) = _
      rw [if_neg h]
/-- the two-by-two minor is the divisor times the new entry -/
theorem Tab.Ok.minor (o : s.Ok p) {r c i j : Nat} (hr : r < p.m) (hc : c < p.N) (hi : i ≤ p.m) (hj : j ≤ p.N) (hir : i ≠ r) :
    s.T i j * s.T r c - s.T i c * s.T r j = s.d * det (p.m + 1) (stc (p.bas (s.exch r c).b) i fun x => p.t x j) := by
  have hr1 : r < p.m + 1 := by omega
  have hi1 : i < p.m + 1 := by omega
  rw [bas_exch r c hr]
  have e1 : s.d * det (p.m + 1) (stc (stc (p.bas s.b) r fun x => p.t x c) i fun x => p.t x j) = det (p.m + 1) (stc (stc (p.bas s.b) r fun x => p.t x c) i fun x => s.d * p.t x j) := by
    have h := det_lin (stc (p.bas s.b) r fun x => p.t x c) s.d 0 (fun x => p.t x j) (fun x => p.t x j) hi1
    have e : (fun x => s.d * p.t x j + 0 * p.t x j) = (fun x => s.d * p.t x j) := by
      funext x
      omega
    rw [e] at h
    rw [h]
    omega
  have e2 : det (p.m + 1) (stc (stc (p.bas s.b) r fun x => p.t x c) i fun x => s.d * p.t x j) =
      det (p.m + 1) (stc (stc (p.bas s.b) r fun x => p.t x c) i fun x => sm (p.m + 1) fun k => s.T k j * p.bas s.b k x) := det_congr fun k x hk hx => by
    by_cases h : k = i
    · rw [h, stc_same, stc_same]
      exact o.vec (by omega) hj
    · rw [stc_ne _ _ h, stc_ne _ _ h]
  rw [e1, e2, det_sum hi1, sm_two (i := i) (j := r) hi1 hr1 hir]
  · have a1 : stc (stc (p.bas s.b) r fun x => p.t x c) i (p.bas s.b i) = stc (p.bas s.b) r fun x => p.t x c := by
      rw [stc_comm _ _ _ (Ne.symm hir), stc_id]
    have a2 := det_swap hr1 hi1 (Ne.symm hir) (p.bas s.b) (fun x => p.t x c) (p.bas s.b r)
    rw [stc_id] at a2
    rw [a1, a2, ← o.ht r c (by omega) (by omega), ← o.ht i c hi (by omega)]
    grind
  · intro k hk h1 h2
    rw [det_eq0 (p := k) (q := i) hk hi1 h1 (by rw [stc_ne _ _ h1, stc_ne _ _ h2, stc_same])]
    simp
theorem Tab.Ok.exact (o : s.Ok p) {r c i j : Nat} (hr : r < p.m) (hc : c < p.N) (hi : i ≤ p.m) (hj : j ≤ p.N) (hir : i ≠ r) :
    s.d * (s.exch r c).T i j = s.T i j * s.T r c - s.T i c * s.T r j := by
  show s.d * (if i = r then _ else _) = _
  rw [if_neg hir, o.minor hr hc hi hj hir, Int.mul_ediv_cancel_left _ (by have := o.hd; omega)]
theorem exch_r (r c j : Nat) : (s.exch r c).T r j = s.T r j := if_pos rfl
theorem mul_cancel {d a b : Int} (h : 0 < d) (e : d * a = d * b) : a = b := Int.eq_of_mul_eq_mul_left (by omega) e
theorem Tab.Ok.exch (o : s.Ok p) {r c : Nat} (w : s.Bnd p r c) : (s.exch r c).Ok p := by
  have hr := w.hr
  have hc := w.hc
  have hm : p.m ≠ r := by omega
  have ex := fun i j hi hj hir => o.exact (r := r) (c := c) (i := i) (j := j) hr hc hi hj hir
  have hd := o.hd
  have eb : ∀ k, k ≠ r → (s.exch r c).b k = s.b k := fun k h => if_neg h
  have eb' : (s.exch r c).b r = c := if_pos rfl
  have ed : (s.exch r c).d = s.T r c := rfl
  refine ⟨w.pos, ?_, ?_, ?_, ?_, ?_, ?_, ?_⟩
  · rw [bas_exch r c hr, ed]
    exact o.ht r c (by omega) (by omega)
  · intro i j hi hj
    by_cases h : i = r
    · subst h
      rw [exch_r, bas_exch i c hr, stc_stc]
      exact o.ht i j hi hj
    · have h2 := ex i j hi hj h
      rw [o.minor hr hc hi hj h] at h2
      exact mul_cancel hd h2
  · intro i j hi hj
    rw [ed]
    refine mul_cancel hd ?_
    rw [Int.mul_add, ← sm_mul]
    have e : sm p.m (fun k => s.d * ((s.exch r c).T k j * p.t i ((s.exch r c).b k))) = s.T r c * (sm p.m fun k => if k = r then 0 else s.T k j * p.t i (s.b k)) - s.T r j * (sm p.m fun k => if k = r then 0 else s.T k c * p.t i (s.b k)) + s.d * (s.T r j * p.t i c) := by
      rw [sm_split _ hr, exch_r, eb', ← sm_mul, ← sm_mul, ← sm_sub]
      congr 1
      refine sm_congr fun k hk => ?_
      by_cases h : k = r
      · simp [h]
      · simp only [if_neg h]
        rw [eb k h, ← Int.mul_assoc, ex k j (by omega) hj h]
        grind
    have q1 := o.h3 i j hi hj
    have q2 := o.h3 i c hi (by omega)
    rw [sm_split _ hr] at q1 q2
    rw [e]
    by_cases h : i = p.m
    · rw [if_pos h] at q1 q2
      rw [if_pos h, ex p.m j (by omega) hj hm]
      grind
    · rw [if_neg h] at q1 q2
      rw [if_neg h]
      grind
  · intro i j hi hj
    by_cases h : i = r
    · subst h
      have q := o.h4 i j hi hj
      rw [if_neg (by omega)] at q ⊢
      rw [exch_r, q]
      congr 1
      exact sm_congr fun k hk => by rw [exch_r]
    · refine mul_cancel hd ?_
      rw [ex i j hi hj h, Int.mul_add, ← sm_mul]
      have e : sm p.m (fun k => s.d * ((s.exch r c).T i (p.n + k) * p.t k j)) = s.T r c * (sm p.m fun k => s.T i (p.n + k) * p.t k j) - s.T i c * (sm p.m fun k => s.T r (p.n + k) * p.t k j) := by
        rw [← sm_mul, ← sm_mul, ← sm_sub]
        refine sm_congr fun k hk => ?_
        rw [← Int.mul_assoc, ex i (p.n + k) hi (by unfold Prob.N; omega) h]
        grind
      have q1 := o.h4 i j hi hj
      have q2 := o.h4 r j (by omega) hj
      rw [if_neg (by omega)] at q2
      rw [e, ed]
      by_cases h' : i = p.m
      · rw [if_pos h'] at q1 ⊢
        grind
      · rw [if_neg h'] at q1 ⊢
        grind
  · intro i k hi hk
    rw [ed]
    by_cases hkr : k = r
    · subst hkr
      rw [eb']
      by_cases h : i = k
      · subst h
        rw [exch_r, if_pos rfl]
      · rw [if_neg h]
        have q := ex i c hi (by omega) h
        refine mul_cancel hd ?_
        rw [q]
        grind
    · rw [eb k hkr]
      by_cases h : i = r
      · subst h
        rw [exch_r, o.hb i k hi hk, if_neg (by omega), if_neg (by omega)]
      · refine mul_cancel hd ?_
        have hbl := o.hl k hk
        rw [ex i (s.b k) hi (by omega) h, o.hb i k hi hk, o.hb r k (by omega) hk, if_neg (show ¬ r = k by omega)]
        by_cases h2 : i = k
        · rw [if_pos h2, if_pos h2]
          grind
        · rw [if_neg h2, if_neg h2]
          grind
  · intro k hk
    by_cases h : k = r
    · subst h; rw [eb']; exact hc
    · rw [eb k h]; exact o.hl k hk
  · intro i hi
    by_cases h : i = r
    · subst h; rw [exch_r]; exact o.hr i hi
    · have q := ex i p.N (by omega) (by omega) h
      have h0 : 0 ≤ s.T i p.N * s.T r c - s.T i c * s.T r p.N := by
        by_cases hp : 0 < s.T i c
        · have := w.most i hi hp
          grind
        · have a := o.hr i hi
          have b := o.hr r hr
          have c1 := w.pos
          have x := Int.mul_nonneg a (by omega : 0 ≤ s.T r c)
          have y := Int.mul_nonneg (by omega : 0 ≤ - s.T i c) b
          grind
      rw [← q] at h0
      rcases Int.lt_or_le ((s.exch r c).T i p.N) 0 with l | l
      · have := Int.mul_neg_of_pos_of_neg hd l
        omega
      · exact l
theorem Prob.Ok.start {R : Nat} (h : p.Ok R) : p.start.Ok p := by
  have eb : ∀ k, p.start.b k = p.n + k := fun _ => rfl
  have e1 : ∀ k i, k < p.m + 1 → i < p.m + 1 → p.bas p.start.b k i = if k = i then 1 else 0 := fun k i hk hi => by
    by_cases e : k = p.m
    · subst e
      rw [bas_m]
      by_cases z : i = p.m
      · simp [z]
      · simp [z]; omega
    · rw [bas_lt _ (by omega), eb]
      show p.t i (p.n + k) = _
      by_cases z : i = p.m
      · rw [z, h.slm k (by omega), if_neg e]
      · rw [h.sl i k (by omega) (by omega)]
        by_cases q : i = k
        · simp [q]
        · rw [if_neg q, if_neg (fun z => q z.symm)]
  refine ⟨(by decide : (0 : Int) < 1), ?_, ?_, ?_, ?_, ?_, ?_, ?_⟩
  · show (1 : Int) = _
    rw [det_congr e1, det_one]
  · intro i j hi hj
    show p.t i j = _
    have e2 : ∀ x, x < p.m + 1 → p.t x j = sm (p.m + 1) fun k => p.t k j * (if k = x then 1 else 0) := fun x hx => by
      rw [sm_one (i := x) hx]
      · simp
      · intro k _ hne
        rw [if_neg hne]
        simp
    have e3 : det (p.m + 1) (stc (p.bas p.start.b) i fun x => p.t x j) = det (p.m + 1) (stc (fun k i => if k = i then (1 : Int) else 0) i fun x => sm (p.m + 1) fun k => p.t k j * (if k = x then 1 else 0)) := det_congr fun k x hk hx => by
      by_cases z : k = i
      · rw [z, stc_same, stc_same]; exact e2 x hx
      · rw [stc_ne _ _ z, stc_ne _ _ z]; exact e1 k x hk hx
    rw [e3, det_sum (by omega) (fun k i => if k = i then (1 : Int) else 0) (fun k => p.t k j) (fun k x => if k = x then 1 else 0) (p.m + 1), sm_one (i := i) (by omega)]
    · rw [stc_id (fun k i => if k = i then (1 : Int) else 0) i, det_one]
      omega
    · intro k hk hne
      rw [det_eq0 (p := k) (q := i) hk (by omega) hne (by rw [stc_ne _ _ hne, stc_same])]
      simp
  · intro i j hi hj
    show (1 : Int) * p.t i j = sm p.m (fun k => p.t k j * p.t i (p.n + k)) + _
    by_cases z : i = p.m
    · subst z
      rw [if_pos rfl, sm_zero_of fun k hk => by rw [h.slm k hk]; simp]
      show _ = 0 + p.t p.m j
      omega
    · rw [if_neg z, sm_one (i := i) (by omega)]
      · rw [h.sl i i (by omega) (by omega), if_pos rfl]; omega
      · intro k hk hne
        rw [h.sl i k (by omega) hk, if_neg (by omega)]
        simp
  · intro i j hi hj
    show p.t i j = (if i = p.m then (1 : Int) * p.t p.m j else 0) + sm p.m fun k => p.t i (p.n + k) * p.t k j
    by_cases z : i = p.m
    · subst z
      rw [if_pos rfl, sm_zero_of fun k hk => by rw [h.slm k hk]; simp]
      omega
    · rw [if_neg z, sm_one (i := i) (by omega)]
      · rw [h.sl i i (by omega) (by omega), if_pos rfl]; omega
      · intro k hk hne
        rw [h.sl i k (by omega) hk, if_neg (by omega)]
        simp
  · intro i k hi hk
    show p.t i (p.n + k) = if i = k then 1 else 0
    by_cases z : i = p.m
    · subst z
      rw [h.slm k hk, if_neg (by omega)]
    · exact h.sl i k (by omega) hk
  · intro k hk
    show p.n + k < p.N
    unfold Prob.N
    omega
  · intro i hi
    exact h.nn i p.N hi (by omega)
/-- the table hangs on the basis alone -/
theorem Tab.Ok.same {s s' : Tab} (o : s.Ok p) (o' : s'.Ok p) (h : ∀ k, k < p.m → s.b k = s'.b k) : s.d = s'.d ∧ ∀ i j, i ≤ p.m → j ≤ p.N → s.T i j = s'.T i j := by
  have e : p.bas s.b = p.bas s'.b ∨ True := .inr trivial
  have e1 : ∀ k i, k < p.m + 1 → p.bas s.b k i = p.bas s'.b k i := fun k i hk => by
    by_cases z : k = p.m
    · rw [z, bas_m, bas_m]
    · rw [bas_lt _ (by omega), bas_lt _ (by omega), h k (by omega)]
  refine ⟨?_, fun i j hi hj => ?_⟩
  · rw [o.hdet, o'.hdet]
    exact det_congr fun k i hk _ => e1 k i hk
  · rw [o.ht i j hi hj, o'.ht i j hi hj]
    refine det_congr fun k x hk _ => ?_
    by_cases z : k = i
    · rw [z, stc_same, stc_same]
    · rw [stc_ne _ _ z, stc_ne _ _ z]
      exact e1 k x hk
end
end Mk

-- M4
set_option linter.all false
namespace Mk
/-! the rule of the least columns comes to an end -/
theorem php : ∀ (K : Nat) (f : Nat → Nat), (∀ i, i ≤ K → f i < K) → ∃ a b, a < b ∧ b ≤ K ∧ f a = f b
  | 0, f, h => by have := h 0 (by omega); omega
  | K + 1, f, h => by
    by_cases e : ∃ a, a ≤ K ∧ f a = f (K + 1)
    · obtain ⟨a, h1, h2⟩ := e
      exact ⟨a, K + 1, by omega, by omega, h2⟩
    · have e' : ∀ a, a ≤ K → f a ≠ f (K + 1) := fun a h1 h2 => e ⟨a, h1, h2⟩
      obtain ⟨a, b, h1, h2, h3⟩ := php K (fun i => if f i > f (K + 1) then f i - 1 else f i) fun i hi => by
        have p := e' i hi
        have q := h i (by omega)
        have q2 := h (K + 1) (by omega)
        show (if f i > f (K + 1) then f i - 1 else f i) < K
        split <;> omega
      refine ⟨a, b, h1, by omega, ?_⟩
      have p := e' a (by omega)
      have q := e' b (by omega)
      split at h3 <;> split at h3 <;> omega
def cod (N : Nat) (b : Nat → Nat) : Nat → Nat
  | 0 => 0
  | k + 1 => cod N b k * N + b k
theorem cod_lt {N : Nat} {b : Nat → Nat} : ∀ {m : Nat}, (∀ k, k < m → b k < N) → cod N b m < N ^ m
  | 0, _ => by simp [cod]
  | m + 1, h => by
    have h1 := cod_lt (m := m) fun k hk => h k (by omega)
    have h2 := h m (by omega)
    show cod N b m * N + b m < N ^ (m + 1)
    rw [Nat.pow_succ]
    have h3 : (cod N b m + 1) * N ≤ N ^ m * N := Nat.mul_le_mul_right N h1
    rw [Nat.add_mul] at h3
    omega
theorem cod_inj {N : Nat} {b b' : Nat → Nat} : ∀ {m : Nat}, (∀ k, k < m → b k < N) → (∀ k, k < m → b' k < N) → cod N b m = cod N b' m → ∀ k, k < m → b k = b' k
  | 0, _, _, _, k, hk => by omega
  | m + 1, h, h', e, k, hk => by
    have e' : cod N b m * N + b m = cod N b' m * N + b' m := e
    have h1 := h m (by omega)
    have h2 := h' m (by omega)
    have e1 : b m = b' m := by
      have := congrArg (· % N) e'
      simp only [Nat.mul_add_mod_self_right] at this
      rw [Nat.mod_eq_of_lt h1, Nat.mod_eq_of_lt h2] at this
      exact this
    have e2 : cod N b m = cod N b' m := by
      rw [e1] at e'
      have e3 : cod N b m * N = cod N b' m * N := by omega
      exact Nat.eq_of_mul_eq_mul_right (by omega) e3
    by_cases z : k = m
    · rw [z, e1]
    · exact cod_inj (m := m) (fun k hk => h k (by omega)) (fun k hk => h' k (by omega)) e2 k (by omega)
theorem change {P : Nat → Prop} {x : Nat} : ∀ {d : Nat}, P x → ¬ P (x + d) → ∃ k, x ≤ k ∧ k < x + d ∧ P k ∧ ¬ P (k + 1)
  | 0, h, h' => absurd h h'
  | d + 1, h, h' => by
    by_cases e : P (x + d)
    · exact ⟨x + d, by omega, by omega, e, h'⟩
    · obtain ⟨k, h1, h2, h3⟩ := change h e
      exact ⟨k, h1, by omega, h3⟩
theorem change' {P : Nat → Prop} {x y : Nat} (l : x < y) (h : P x) (h' : ¬ P y) : ∃ k, x ≤ k ∧ k < y ∧ P k ∧ ¬ P (k + 1) := by
  obtain ⟨d, rfl⟩ : ∃ d, y = x + d := ⟨y - x, by omega⟩
  exact change h h'
theorem greatest {P : Nat → Prop} : ∀ (B : Nat), (∀ j, P j → j < B) → (∃ j, P j) → ∃ t, P t ∧ ∀ j, P j → j ≤ t
  | 0, h, ⟨j, hj⟩ => by have := h j hj; omega
  | B + 1, h, e => by
    by_cases q : P B
    · exact ⟨B, q, fun j hj => by have := h j hj; omega⟩
    · exact greatest B (fun j hj => by
        have := h j hj
        have : j ≠ B := fun z => q (z ▸ hj)
        omega) e
structure Tab.Rise (p : Prob) (s : Tab) (c : Nat) : Prop where
  hc : c < p.N
  neg : s.T p.m c < 0
  first : ∀ j, j < c → 0 ≤ s.T p.m j
structure Tab.Pick (p : Prob) (s : Tab) (r c : Nat) : Prop extends Tab.Bnd p s r c where
  least : ∀ i, i < p.m → 0 < s.T i c → s.T i p.N * s.T r c = s.T r p.N * s.T i c → s.b r ≤ s.b i
section
variable {p : Prob} {s : Tab} {R : Nat}
theorem Tab.Ok.inj (o : s.Ok p) {i k : Nat} (hi : i < p.m) (hk : k < p.m) (e : s.b i = s.b k) : i = k := by
  have h1 := o.hb i i (by omega) hi
  have h2 := o.hb i k (by omega) hk
  rw [if_pos rfl, e, h2] at h1
  have := o.hd
  by_cases z : i = k
  · exact z
  · rw [if_neg z] at h1
    omega
/-- some row bounds each column -/
theorem Tab.Ok.bounded (h : p.Ok R) (o : s.Ok p) {c : Nat} (hc : c < p.N) : ∃ i, i < p.m ∧ 0 < s.T i c := by
  apply Classical.byContradiction
  intro z
  have z' : ∀ i, i < p.m → s.T i c ≤ 0 := fun i hi => Int.not_lt.mp fun l => z ⟨i, hi, l⟩
  have q : ∀ i, i < p.m → p.t i c = 0 := fun i hi => by
    have e := o.h3 i c (by omega) (by omega)
    rw [if_neg (by omega)] at e
    have a := h.nn i c hi (by omega)
    have b : sm p.m (fun k => s.T k c * p.t i (s.b k)) ≤ 0 := sm_nonpos fun k hk => by
      have x := z' k hk
      have y := h.nn i (s.b k) hi (by have := o.hl k hk; omega)
      have := Int.mul_nonneg (by omega : 0 ≤ - s.T k c) y
      grind
    have d := o.hd
    rcases Int.lt_or_le 0 (p.t i c) with l | l
    · have := Int.mul_pos d l
      omega
    · omega
  by_cases l : c < p.n
  · obtain ⟨i, hi, hp⟩ := h.col c l
    have := q i hi
    omega
  · have hk : c - p.n < p.m := by unfold Prob.N at hc; omega
    have e := h.sl (c - p.n) (c - p.n) hk hk
    rw [if_pos rfl, show p.n + (c - p.n) = c by omega, q _ hk] at e
    omega
/-- the objective's entry of a column, seen from another basis -/
theorem Tab.Ok.across (o : s.Ok p) {s' : Tab} (o' : s'.Ok p) {c : Nat} (hc : c < p.N) :
    s.d * s'.T p.m c = s'.d * s.T p.m c + sm p.m fun k => s.T k c * s'.T p.m (s.b k) := by
  have e1 := o'.h4 p.m c (by omega) (by omega)
  rw [if_pos rfl] at e1
  have e2 : sm p.m (fun k => s.T k c * s'.T p.m (s.b k)) = s'.d * sm p.m (fun k => s.T k c * p.t p.m (s.b k)) + sm p.m fun i => s'.T p.m (p.n + i) * sm p.m fun k => s.T k c * p.t i (s.b k) := by
    rw [← sm_mul]
    have a : sm p.m (fun i => s'.T p.m (p.n + i) * sm p.m fun k => s.T k c * p.t i (s.b k)) = sm p.m fun k => sm p.m fun i => s'.T p.m (p.n + i) * (s.T k c * p.t i (s.b k)) := by
      rw [← sm_swap]
      exact sm_congr fun i _ => (sm_mul _ _ _).symm
    rw [a, ← sm_add]
    refine sm_congr fun k hk => ?_
    have hl := o.hl k hk
    have e := o'.h4 p.m (s.b k) (by omega) (by omega)
    rw [if_pos rfl] at e
    rw [e, Int.mul_add, ← sm_mul]
    have b : s.T k c * (s'.d * p.t p.m (s.b k)) = s'.d * (s.T k c * p.t p.m (s.b k)) := by grind
    rw [b]
    congr 1
    exact sm_congr fun i _ => by grind
  have e3 := o.h3 p.m c (by omega) (by omega)
  rw [if_pos rfl] at e3
  have e4 : s.d * sm p.m (fun k => s'.T p.m (p.n + k) * p.t k c) = sm p.m fun i => s'.T p.m (p.n + i) * sm p.m fun k => s.T k c * p.t i (s.b k) := by
    rw [← sm_mul]
    refine sm_congr fun i hi => ?_
    have e := o.h3 i c (by omega) (by omega)
    rw [if_neg (by omega)] at e
    have e' : s.d * p.t i c = sm p.m fun k => s.T k c * p.t i (s.b k) := by omega
    rw [← e']
    grind
  rw [e2, ← e4, e1]
  grind
end
theorem tr_le {a b c x y z : Int} (hy : 0 < y) (hx : 0 < x) (hz : 0 < z) (h1 : a * y ≤ b * x) (h2 : b * z ≤ c * y) : a * z ≤ c * x := by
  have e1 : a * y * z ≤ b * x * z := Int.mul_le_mul_of_nonneg_right h1 (by omega)
  have e2 : b * z * x ≤ c * y * x := Int.mul_le_mul_of_nonneg_right h2 (by omega)
  have e3 : a * z * y ≤ c * x * y := by grind
  exact Int.le_of_mul_le_mul_right e3 hy
theorem tr_lt {a b c x y z : Int} (hy : 0 < y) (hx : 0 < x) (hz : 0 < z) (h1 : a * y ≤ b * x) (h2 : b * z < c * y) : a * z < c * x := by
  have e1 : a * y * z ≤ b * x * z := Int.mul_le_mul_of_nonneg_right h1 (by omega)
  have e2 : b * z * x < c * y * x := Int.mul_lt_mul_of_pos_right h2 hx
  have e3 : a * z * y < c * x * y := by grind
  exact Int.lt_of_mul_lt_mul_right e3 (by omega)
theorem tr_lt' {a b c x y z : Int} (hy : 0 < y) (hx : 0 < x) (hz : 0 < z) (h1 : a * y < b * x) (h2 : b * z ≤ c * y) : a * z < c * x := by
  have e1 : a * y * z < b * x * z := Int.mul_lt_mul_of_pos_right h1 hz
  have e2 : b * z * x ≤ c * y * x := Int.mul_le_mul_of_nonneg_right h2 (by omega)
  have e3 : a * z * y < c * x * y := by grind
  exact Int.lt_of_mul_lt_mul_right e3 (by omega)
/-- a run of exchanges from a to b -/
structure Runs (p : Prob) (S : Nat → Tab) (r c : Nat → Nat) (a b : Nat) : Prop where
  ok : ∀ k, a ≤ k → k ≤ b → (S k).Ok p
  rise : ∀ k, a ≤ k → k < b → (S k).Rise p (c k)
  pick : ∀ k, a ≤ k → k < b → (S k).Pick p (r k) (c k)
  nxt : ∀ k, a ≤ k → k < b → S (k + 1) = (S k).exch (r k) (c k)
theorem no_cycle {p : Prob} {S : Nat → Tab} {r c : Nat → Nat} {a b : Nat} (w : Runs p S r c a b) (l : a < b) (h : ∀ k, k < p.m → (S a).b k = (S b).b k) : False := by
  have oa := w.ok a (by omega) (by omega)
  have obb := w.ok b (by omega) (by omega)
  obtain ⟨ed, eT⟩ := oa.same obb h
  have hd : ∀ k, a ≤ k → k ≤ b → 0 < (S k).d := fun k h1 h2 => (w.ok k h1 h2).hd
  -- one turn
  have ex : ∀ k i j, a ≤ k → k < b → i ≤ p.m → j ≤ p.N → i ≠ r k → (S k).d * (S (k + 1)).T i j = (S k).T i j * (S k).T (r k) (c k) - (S k).T i (c k) * (S k).T (r k) j := fun k i j h1 h2 hi hj hir => by
    rw [w.nxt k h1 h2]
    exact (w.ok k h1 (by omega)).exact (w.pick k h1 h2).hr (w.pick k h1 h2).hc hi hj hir
  have ed1 : ∀ k, a ≤ k → k < b → (S (k + 1)).d = (S k).T (r k) (c k) := fun k h1 h2 => by
    rw [w.nxt k h1 h2]
    rfl
  have obj : ∀ k, a ≤ k → k < b → (S k).d * (S (k + 1)).T p.m p.N = (S k).T p.m p.N * (S (k + 1)).d - (S k).T p.m (c k) * (S k).T (r k) p.N := fun k h1 h2 => by
    rw [ed1 k h1 h2]
    exact ex k p.m p.N h1 h2 (by omega) (by omega) (by have := (w.pick k h1 h2).hr; omega)
  have up1 : ∀ k, a ≤ k → k < b → (S k).T p.m p.N * (S (k + 1)).d ≤ (S (k + 1)).T p.m p.N * (S k).d := fun k h1 h2 => by
    have e := obj k h1 h2
    have x := (w.rise k h1 h2).neg
    have y := (w.ok k h1 (by omega)).hr (r k) (w.pick k h1 h2).hr
    have := Int.mul_nonneg (by omega : 0 ≤ - (S k).T p.m (c k)) y
    grind
  have up : ∀ e k, a ≤ k → k + e ≤ b → (S k).T p.m p.N * (S (k + e)).d ≤ (S (k + e)).T p.m p.N * (S k).d := fun e => by
    induction e with
    | zero => exact fun k _ _ => Int.le_refl _
    | succ e ih => exact fun k h1 h2 => tr_le (hd (k + e) (by omega) (by omega)) (hd k h1 (by omega)) (hd (k + e + 1) (by omega) (by omega)) (ih k h1 (by omega)) (up1 (k + e) (by omega) (by omega))
  have up' : ∀ k k', a ≤ k → k ≤ k' → k' ≤ b → (S k).T p.m p.N * (S k').d ≤ (S k').T p.m p.N * (S k).d := fun k k' h1 h2 h3 => by
    have q := up (k' - k) k h1 (by omega)
    rw [show k + (k' - k) = k' by omega] at q
    exact q
  -- no turn gains anything
  have deg : ∀ k, a ≤ k → k < b → (S k).T (r k) p.N = 0 := fun k h1 h2 => by
    have y := (w.ok k h1 (by omega)).hr (r k) (w.pick k h1 h2).hr
    rcases Int.lt_or_le 0 ((S k).T (r k) p.N) with g | g
    · exfalso
      have x := (w.rise k h1 h2).neg
      have e := obj k h1 h2
      have st : (S k).T p.m p.N * (S (k + 1)).d < (S (k + 1)).T p.m p.N * (S k).d := by
        have := Int.mul_pos (by omega : 0 < - (S k).T p.m (c k)) g
        grind
      have q1 := up' a k (by omega) h1 (by omega)
      have q2 := up' (k + 1) b (by omega) (by omega) (by omega)
      have q3 := tr_lt (hd k h1 (by omega)) (hd a (by omega) (by omega)) (hd (k + 1) (by omega) (by omega)) q1 st
      have q4 := tr_lt' (hd (k + 1) (by omega) (by omega)) (hd a (by omega) (by omega)) (hd b (by omega) (by omega)) q3 q2
      rw [ed, eT p.m p.N (by omega) (by omega)] at q4
      omega
    · omega
  have inB : Nat → Nat → Prop := fun _ _ => True
  clear inB
  let B : Nat → Nat → Prop := fun j k => ∃ i, i < p.m ∧ (S k).b i = j
  have Bab : ∀ j, B j a ↔ B j b := fun j => ⟨fun ⟨i, h1, h2⟩ => ⟨i, h1, by rw [← h i h1]; exact h2⟩, fun ⟨i, h1, h2⟩ => ⟨i, h1, by rw [h i h1]; exact h2⟩⟩
  have bnx : ∀ k, a ≤ k → k < b → ∀ i, (S (k + 1)).b i = if i = r k then c k else (S k).b i := fun k h1 h2 i => by
    rw [w.nxt k h1 h2]
    rfl
  -- what is not in the basis at some time has nothing ever
  let Z : Nat → Nat → Prop := fun j k => ∀ i, i < p.m → (S k).b i = j → (S k).T i p.N = 0
  have Zs : ∀ j k, a ≤ k → k < b → Z j k → Z j (k + 1) := fun j k h1 h2 z i hi e => by
    rw [bnx k h1 h2] at e
    have d0 := deg k h1 h2
    by_cases q : i = r k
    · rw [w.nxt k h1 h2, q, exch_r]
      exact d0
    · rw [if_neg q] at e
      have e2 := ex k i p.N h1 h2 (by omega) (by omega) q
      rw [z i hi e, d0] at e2
      have := hd k h1 (by omega)
      refine mul_cancel this ?_
      rw [e2]
      omega
  have Zf : ∀ j e k, a ≤ k → k + e ≤ b → Z j k → Z j (k + e) := fun j e => by
    induction e with
    | zero => exact fun _ _ _ z => z
    | succ e ih => exact fun k h1 h2 z => Zs j (k + e) (by omega) (by omega) (ih k h1 (by omega) z)
  have Zab : ∀ j, Z j b → Z j a := fun j z i hi e => by
    rw [eT i p.N (by omega) (by omega)]
    exact z i hi (by rw [← h i hi]; exact e)
  have Zall : ∀ j k0, a ≤ k0 → k0 ≤ b → ¬ B j k0 → ∀ k, a ≤ k → k ≤ b → Z j k := fun j k0 h1 h2 nb k h3 h4 => by
    have z0 : Z j k0 := fun i hi e => absurd ⟨i, hi, e⟩ nb
    have zb : Z j b := by
      have q := Zf j (b - k0) k0 h1 (by omega) z0
      rw [show k0 + (b - k0) = b by omega] at q
      exact q
    have q := Zf j (k - a) a (by omega) (by omega) (Zab j zb)
    rw [show a + (k - a) = k by omega] at q
    exact q
  -- what comes and goes
  let Fk : Nat → Prop := fun j => (∃ k, a ≤ k ∧ k ≤ b ∧ B j k) ∧ ∃ k, a ≤ k ∧ k ≤ b ∧ ¬ B j k
  have leaves : ∀ j, Fk j → ∃ k, a ≤ k ∧ k < b ∧ B j k ∧ ¬ B j (k + 1) := fun j ⟨⟨k1, h1, h2, h3⟩, k2, g1, g2, g3⟩ => by
    by_cases l1 : k1 < k2
    · obtain ⟨k, q1, q2, q3⟩ := change' (P := B j) l1 h3 g3
      exact ⟨k, by omega, by omega, q3⟩
    · have l2 : k2 ≠ k1 := fun z => g3 (z ▸ h3)
      by_cases bb : B j b
      · have l3 : k2 ≠ a := fun z => g3 (z ▸ (Bab j).mpr bb)
        obtain ⟨k, q1, q2, q3⟩ := change' (P := B j) (show a < k2 by omega) ((Bab j).mpr bb) g3
        exact ⟨k, by omega, by omega, q3⟩
      · have l3 : k1 ≠ b := fun z => bb (z ▸ h3)
        obtain ⟨k, q1, q2, q3⟩ := change' (P := B j) (show k1 < b by omega) h3 bb
        exact ⟨k, by omega, by omega, q3⟩
  have enters : ∀ j, Fk j → ∃ k, a ≤ k ∧ k < b ∧ ¬ B j k ∧ B j (k + 1) := fun j ⟨⟨k1, h1, h2, h3⟩, k2, g1, g2, g3⟩ => by
    have nn : ∀ k, ¬ ¬ B j k → B j k := fun k q => Classical.byContradiction q
    by_cases l1 : k2 < k1
    · obtain ⟨k, q1, q2, q3, q4⟩ := change' (P := fun k => ¬ B j k) l1 g3 (fun q => q h3)
      exact ⟨k, by omega, by omega, q3, nn _ q4⟩
    · have l2 : k2 ≠ k1 := fun z => g3 (z ▸ h3)
      by_cases bb : B j b
      · have l3 : k2 ≠ b := fun z => g3 (z ▸ bb)
        obtain ⟨k, q1, q2, q3, q4⟩ := change' (P := fun k => ¬ B j k) (show k2 < b by omega) g3 (fun q => q bb)
        exact ⟨k, by omega, by omega, q3, nn _ q4⟩
      · have ba : ¬ B j a := fun q => bb ((Bab j).mp q)
        have l3 : k1 ≠ a := fun z => ba (z ▸ h3)
        obtain ⟨k, q1, q2, q3, q4⟩ := change' (P := fun k => ¬ B j k) (show a < k1 by omega) ba (fun q => q h3)
        exact ⟨k, by omega, by omega, q3, nn _ q4⟩
  -- basic columns have nothing in the objective
  have bas0 : ∀ j k, a ≤ k → k ≤ b → B j k → (S k).T p.m j = 0 := fun j k h1 h2 ⟨i, hi, e⟩ => by
    rw [← e, (w.ok k h1 h2).hb p.m i (by omega) hi, if_neg (by omega)]
  have notB : ∀ k, a ≤ k → k < b → ¬ B (c k) k := fun k h1 h2 q => by
    have := bas0 (c k) k h1 (by omega) q
    have := (w.rise k h1 h2).neg
    omega
  have nowB : ∀ k, a ≤ k → k < b → B (c k) (k + 1) := fun k h1 h2 => ⟨r k, (w.pick k h1 h2).hr, by rw [bnx k h1 h2, if_pos rfl]⟩
  have Fc : ∀ k, a ≤ k → k < b → Fk (c k) := fun k h1 h2 => ⟨⟨k + 1, by omega, by omega, nowB k h1 h2⟩, k, h1, by omega, notB k h1 h2⟩
  obtain ⟨t, Ft, tmax⟩ := greatest (P := Fk) p.N (fun j ⟨⟨k, h1, h2, i, hi, e⟩, _⟩ => by rw [← e]; exact (w.ok k h1 h2).hl i hi) ⟨c a, Fc a (by omega) l⟩
  obtain ⟨le, e1, e2, e3, e4⟩ := enters t Ft
  obtain ⟨lv, v1, v2, v3, v4⟩ := leaves t Ft
  -- at le column t comes in
  have te : c le = t := by
    obtain ⟨i, hi, e⟩ := e4
    rw [bnx le e1 e2] at e
    by_cases q : i = r le
    · rw [if_pos q] at e; exact e
    · rw [if_neg q] at e; exact absurd ⟨i, hi, e⟩ e3
  -- at lv it goes
  have tl : (S lv).b (r lv) = t := by
    obtain ⟨i, hi, e⟩ := v3
    by_cases q : i = r lv
    · rw [← q]; exact e
    · exact absurd ⟨i, hi, by rw [bnx lv v1 v2, if_neg q]; exact e⟩ v4
  have ol := w.ok lv v1 (by omega)
  have oe := w.ok le e1 (by omega)
  have rl := w.rise lv v1 v2
  have pl := w.pick lv v1 v2
  have re := w.rise le e1 e2
  have ac := ol.across oe rl.hc
  have Fs := Fc lv v1 v2
  have st : c lv < t := by
    have := tmax _ Fs
    have : c lv ≠ t := fun z => notB lv v1 v2 (z ▸ v3)
    omega
  have n1 := re.first (c lv) (by omega)
  have n2 := rl.neg
  have pos : 0 < sm p.m fun k => (S lv).T k (c lv) * (S le).T p.m ((S lv).b k) := by
    have x := Int.mul_nonneg (by have := ol.hd; omega : 0 ≤ (S lv).d) n1
    have y := Int.mul_pos oe.hd (by omega : 0 < - (S lv).T p.m (c lv))
    grind
  obtain ⟨k, hk, kp⟩ := sm_pos_ex pos
  have kB : B ((S lv).b k) lv := ⟨k, hk, rfl⟩
  have knB : ¬ B ((S lv).b k) le := fun q => by
    rw [bas0 _ le e1 (by omega) q] at kp
    simp at kp
  have Fkk : Fk ((S lv).b k) := ⟨⟨lv, v1, by omega, kB⟩, le, e1, by omega, knB⟩
  have kt := tmax _ Fkk
  by_cases q : (S lv).b k = t
  · have ek : k = r lv := ol.inj hk pl.hr (by rw [q, tl])
    rw [q, ek] at kp
    have x := pl.pos
    have y := re.neg
    rw [te] at y
    have := Int.mul_pos x (by omega : 0 < - (S le).T p.m t)
    grind
  · have y := re.first ((S lv).b k) (by omega)
    have xp : 0 < (S lv).T k (c lv) := by
      rcases Int.lt_or_le 0 ((S lv).T k (c lv)) with g | g
      · exact g
      · have := Int.mul_nonneg (by omega : 0 ≤ - (S lv).T k (c lv)) y
        grind
    have z := Zall _ le e1 (by omega) knB lv v1 (by omega) k hk rfl
    have d0 := deg lv v1 v2
    have lst := pl.least k hk xp (by rw [z, d0]; simp)
    rw [tl] at lst
    omega
/-- so many turns at most -/
def Ends (p : Prob) : Nat → Tab → Prop
  | 0, s => ∀ c, ¬ s.Rise p c
  | k + 1, s => ∀ r c, s.Rise p c → s.Pick p r c → Ends p k (s.exch r c)
theorem ends_start {p : Prob} {R : Nat} (h : p.Ok R) : ∃ k, Ends p k p.start := by
  have uniR : ∀ (s : Tab) c c', s.Rise p c → s.Rise p c' → c = c' := fun s c c' a b => by
    have x := a.neg
    have y := b.neg
    by_cases l : c < c'
    · have := b.first c l; omega
    · by_cases l' : c' < c
      · have := a.first c' l'; omega
      · omega
  have uniP : ∀ (s : Tab) r r' c, s.Ok p → s.Pick p r c → s.Pick p r' c → r = r' := fun s r r' c o a b => by
    have x := a.most r' b.hr b.pos
    have y := b.most r a.hr a.pos
    have e : s.T r p.N * s.T r' c = s.T r' p.N * s.T r c := by omega
    have l1 := a.least r' b.hr b.pos e.symm
    have l2 := b.least r a.hr a.pos e
    exact o.inj a.hr b.hr (by omega)
  -- the turn as a function
  let go : Tab → Prop := fun s => ∃ rc : Nat × Nat, s.Rise p rc.2 ∧ s.Pick p rc.1 rc.2
  have ch : ∃ F : Tab → Nat × Nat, ∀ s, go s → s.Rise p (F s).2 ∧ s.Pick p (F s).1 (F s).2 :=
    Classical.axiomOfChoice (r := fun (s : Tab) (rc : Nat × Nat) => go s → s.Rise p rc.2 ∧ s.Pick p rc.1 rc.2) fun s => by
      by_cases g : go s
      · obtain ⟨rc, q⟩ := g
        exact ⟨rc, fun _ => q⟩
      · exact ⟨(0, 0), fun q => absurd q g⟩
  obtain ⟨F, hF⟩ := ch
  let nx : Tab → Tab := fun s => s.exch (F s).1 (F s).2
  let S : Nat → Tab := fun k => Nat.rec p.start (fun _ s => nx s) k
  have S0 : S 0 = p.start := rfl
  have Ss : ∀ k, S (k + 1) = nx (S k) := fun _ => rfl
  have stop : ∃ k, ¬ go (S k) := by
    apply Classical.byContradiction
    intro z
    have all : ∀ k, go (S k) := fun k => Classical.byContradiction fun q => z ⟨k, q⟩
    have ok : ∀ k, (S k).Ok p := fun k => by
      induction k with
      | zero => exact h.start
      | succ k ih => rw [Ss]; exact ih.exch (hF _ (all k)).2.toBnd
    have w : ∀ a b, Runs p S (fun k => (F (S k)).1) (fun k => (F (S k)).2) a b := fun a b => ⟨fun k _ _ => ok k, fun k _ _ => (hF _ (all k)).1, fun k _ _ => (hF _ (all k)).2, fun k _ _ => Ss k⟩
    obtain ⟨a, b, l, _, e⟩ := php (p.N ^ p.m) (fun k => cod p.N (S k).b p.m) fun i _ => cod_lt (ok i).hl
    exact no_cycle (w a b) l (cod_inj (ok a).hl (ok b).hl e)
  obtain ⟨k, hk⟩ := stop
  have back : ∀ j i, i + j = k → (S i).Ok p → Ends p (j + 1) (S i) := fun j => by
    induction j with
    | zero =>
      intro i e o r c a b
      have ik : i = k := by omega
      exact absurd (show go (S i) from ⟨(r, c), a, b⟩) (by rw [ik]; exact hk)
    | succ j ih =>
      intro i e o r c a b
      have g : go (S i) := ⟨(r, c), a, b⟩
      obtain ⟨f1, f2⟩ := hF _ g
      have ec : (F (S i)).2 = c := uniR _ _ _ f1 a
      have er : (F (S i)).1 = r := uniP _ _ _ c o (ec ▸ f2) b
      have en : S (i + 1) = (S i).exch r c := by
        rw [Ss]
        show (S i).exch (F (S i)).1 (F (S i)).2 = _
        rw [ec, er]
      rw [← en]
      refine ih (i + 1) (by omega) ?_
      rw [en]
      exact o.exch b.toBnd
  exact ⟨k + 1, back k 0 (by omega) h.start⟩
end Mk

-- M5
set_option linter.all false
namespace Mk
/-! the end: a row and prices with equal sums; sizes -/
/-- what the columns have -/
structure Tab.Told (p : Prob) (s : Tab) (X : Nat → Int) : Prop where
  yes : ∀ i, i < p.m → X (s.b i) = s.T i p.N
  no : ∀ j, (∀ i, i < p.m → s.b i ≠ j) → X j = 0
section
variable {p : Prob} {s : Tab} {R : Nat} {X : Nat → Int}
theorem told_sum (o : s.Ok p) (x : s.Told p X) (j : Nat) : X j = sm p.m fun k => if s.b k = j then s.T k p.N else 0 := by
  by_cases e : ∃ i, i < p.m ∧ s.b i = j
  · obtain ⟨i, hi, rfl⟩ := e
    rw [sm_one (i := i) hi (fun k hk hne => if_neg fun q => hne (o.inj hk hi q)), if_pos rfl, x.yes i hi]
  · have e' : ∀ i, i < p.m → s.b i ≠ j := fun i hi q => e ⟨i, hi, q⟩
    rw [x.no j e', sm_zero_of fun k hk => if_neg (e' k hk)]
theorem told_re (o : s.Ok p) (x : s.Told p X) (g : Nat → Int) : sm p.m (fun k => s.T k p.N * g (s.b k)) = sm p.N fun j => X j * g j := by
  have e : sm p.N (fun j => X j * g j) = sm p.N fun j => sm p.m fun k => (if s.b k = j then s.T k p.N else 0) * g j := sm_congr fun j _ => by
    rw [told_sum o x j, sm_mulr]
  rw [e, sm_swap]
  refine sm_congr fun k hk => ?_
  rw [sm_one (i := s.b k) (o.hl k hk)]
  · rw [if_pos rfl]
  · intro j _ hne
    rw [if_neg fun q => hne q.symm]
    simp
theorem told_nn (o : s.Ok p) (x : s.Told p X) (j : Nat) : 0 ≤ X j := by
  rw [told_sum o x j]
  exact sm_nonneg fun k hk => by
    split
    · exact o.hr k hk
    · exact Int.le_refl 0
theorem told_row (h : p.Ok R) (o : s.Ok p) (x : s.Told p X) {i : Nat} (hi : i < p.m) : sm p.n (fun j => X j * p.t i j) ≤ s.d * p.t i p.N := by
  have e := o.h3 i p.N (by omega) (by omega)
  rw [if_neg (by omega), told_re o x] at e
  have e2 : sm p.N (fun j => X j * p.t i j) = sm p.n (fun j => X j * p.t i j) + sm p.m fun k => X (p.n + k) * p.t i (p.n + k) := sm_append p.n p.m _
  have e3 : 0 ≤ sm p.m fun k => X (p.n + k) * p.t i (p.n + k) := sm_nonneg fun k hk => Int.mul_nonneg (told_nn o x _) (h.nn i _ hi (by unfold Prob.N; omega))
  omega
theorem told_ob (h : p.Ok R) (o : s.Ok p) (x : s.Told p X) : sm p.n X = s.T p.m p.N := by
  have e := o.h3 p.m p.N (by omega) (by omega)
  rw [if_pos rfl, told_re o x, h.obN] at e
  have e2 : sm p.N (fun j => X j * p.t p.m j) = sm p.n (fun j => X j * p.t p.m j) + sm p.m fun k => X (p.n + k) * p.t p.m (p.n + k) := sm_append p.n p.m _
  have e3 : sm p.m (fun k => X (p.n + k) * p.t p.m (p.n + k)) = 0 := sm_zero_of fun k hk => by rw [h.slm k hk]; simp
  have e4 : sm p.n (fun j => X j * p.t p.m j) = sm p.n fun j => (-1) * X j := sm_congr fun j hj => by rw [h.ob j hj]; omega
  rw [sm_mul] at e4
  omega
/-- no column raises -/
def Tab.Opt (p : Prob) (s : Tab) : Prop := ∀ j, j < p.N → 0 ≤ s.T p.m j
theorem price_nn (z : s.Opt p) {k : Nat} (hk : k < p.m) : 0 ≤ s.T p.m (p.n + k) := z _ (by unfold Prob.N; omega)
theorem price_row (h : p.Ok R) (o : s.Ok p) (z : s.Opt p) {j : Nat} (hj : j < p.n) : s.d ≤ sm p.m fun k => s.T p.m (p.n + k) * p.t k j := by
  have e := o.h4 p.m j (by omega) (by unfold Prob.N; omega)
  rw [if_pos rfl, h.ob j hj] at e
  have := z j (by unfold Prob.N; omega)
  omega
theorem price_ob (h : p.Ok R) (o : s.Ok p) : s.T p.m p.N = sm p.m fun k => s.T p.m (p.n + k) * p.t k p.N := by
  have e := o.h4 p.m p.N (by omega) (by omega)
  rw [if_pos rfl, h.obN] at e
  omega
/-! sizes -/
theorem bas_abs (h : p.Ok R) (o : s.Ok p) {k x : Nat} (hk : k < p.m + 1) (hx : x < p.m + 1) : (p.bas s.b k x).natAbs ≤ 1 := by
  by_cases e : k = p.m
  · rw [e, bas_m]
    show (if x = p.m then (1 : Int) else 0).natAbs ≤ 1
    split <;> decide
  · rw [bas_lt _ (by omega)]
    exact h.one x _ (by omega) (o.hl k (by omega))
theorem d_abs (h : p.Ok R) (o : s.Ok p) : s.d.natAbs ≤ fct (p.m + 1) := by
  have e := det_abs 1 (n := p.m + 1) (f := p.bas s.b) fun k x hk hx => bas_abs h o hk hx
  rw [← o.hdet, Nat.one_pow, Nat.mul_one] at e
  exact e
theorem t_abs (h : p.Ok R) (o : s.Ok p) {i j : Nat} (hi : i ≤ p.m) (hj : j < p.N) : (s.T i j).natAbs ≤ fct (p.m + 1) := by
  have e := det_abs 1 (n := p.m + 1) (f := stc (p.bas s.b) i fun x => p.t x j) fun k x hk hx => by
    by_cases z : k = i
    · rw [z, stc_same]; exact h.one x j (by omega) hj
    · rw [stc_ne _ _ z]; exact bas_abs h o hk hx
  rw [← o.ht i j hi (by omega), Nat.one_pow, Nat.mul_one] at e
  exact e
theorem tN_abs (h : p.Ok R) (o : s.Ok p) {i : Nat} (hi : i ≤ p.m) : (s.T i p.N).natAbs ≤ fct (p.m + 1) * R ^ (p.m + 1) := by
  have e := det_abs R (n := p.m + 1) (f := stc (p.bas s.b) i fun x => p.t x p.N) fun k x hk hx => by
    by_cases z : k = i
    · rw [z, stc_same]; exact h.rhs x (by omega)
    · rw [stc_ne _ _ z]; exact Nat.le_trans (bas_abs h o hk hx) h.r1
  rw [← o.ht i p.N hi (by omega)] at e
  exact e
end
theorem fct_mono : ∀ {a b : Nat}, a ≤ b → fct a ≤ fct b
  | a, 0, h => by rw [show a = 0 by omega]; exact Nat.le_refl _
  | a, b + 1, h => by
    by_cases e : a = b + 1
    · rw [e]; exact Nat.le_refl _
    · have q := fct_mono (a := a) (b := b) (by omega)
      refine Nat.le_trans q ?_
      show fct b ≤ (b + 1) * fct b
      rw [Nat.succ_mul]
      omega
theorem fct25 {m : Nat} (h : m ≤ 24) : fct (m + 1) < 2 ^ 84 := Nat.lt_of_le_of_lt (fct_mono (show m + 1 ≤ 25 by omega)) (by decide)
/-- entries of every table on the way, if the right sides are below 2 ^ r -/
theorem t_lt {p : Prob} {s : Tab} {r : Nat} (h : p.Ok (2 ^ r)) (o : s.Ok p) (hm : p.m ≤ 24) {i j : Nat} (hi : i ≤ p.m) (hj : j ≤ p.N) : (s.T i j).natAbs < 2 ^ (84 + 25 * r) := by
  have f := fct25 hm
  by_cases e : j = p.N
  · subst e
    have q := tN_abs h o hi
    have q2 : (2 ^ r) ^ (p.m + 1) ≤ 2 ^ (25 * r) := by
      rw [← Nat.pow_mul, Nat.mul_comm 25 r]
      exact Nat.pow_le_pow_right (by decide) (Nat.mul_le_mul_left r (by omega))
    have q3 : fct (p.m + 1) * (2 ^ r) ^ (p.m + 1) < 2 ^ 84 * 2 ^ (25 * r) := Nat.lt_of_le_of_lt (Nat.mul_le_mul_left _ q2) (Nat.mul_lt_mul_of_pos_right f (Nat.pow_pos (by decide)))
    rw [Nat.pow_add]
    omega
  · have q := t_abs h o hi (show j < p.N by omega)
    have q2 : (2 : Nat) ^ 84 ≤ 2 ^ (84 + 25 * r) := Nat.pow_le_pow_right (by decide) (by omega)
    omega
theorem d_lt {p : Prob} {s : Tab} {R : Nat} (h : p.Ok R) (o : s.Ok p) (hm : p.m ≤ 24) : s.d.natAbs < 2 ^ 84 := Nat.lt_of_le_of_lt (d_abs h o) (fct25 hm)
theorem tc_lt {p : Prob} {s : Tab} {R : Nat} (h : p.Ok R) (o : s.Ok p) (hm : p.m ≤ 24) {i j : Nat} (hi : i ≤ p.m) (hj : j < p.N) : (s.T i j).natAbs < 2 ^ 84 := Nat.lt_of_le_of_lt (t_abs h o hi hj) (fct25 hm)
end Mk

-- Hd
set_option Elab.async false
set_option linter.all false
set_option maxRecDepth 100000
set_option maxHeartbeats 0
namespace Mk
open PySem PySem.Spec PyProof.Rows L2
def top (i : Nat) : Stmt := PySem.Challenge.pw_marktruly_k26_whole_best_marking.main.body.getD i (.Pass ⟨0, 0, 0, 0⟩)
abbrev s_known : Stmt := top 11
abbrev s_greatest_divisor : Stmt := top 13
abbrev s_least_multiple : Stmt := top 14
abbrev s_power : Stmt := top 15
abbrev s_lesser_of : Stmt := top 18
abbrev s_at_most_one : Stmt := top 19
abbrev s_whole_parts : Stmt := top 20
abbrev s__solved : Stmt := top 24
abbrev s_worth : Stmt := top 25
abbrev s_best_row : Stmt := top 26
abbrev s_prices : Stmt := top 27
abbrev s__is_integer : Stmt := top 29
abbrev s_accused_by : Stmt := top 36
abbrev s_marking_of_row : Stmt := top 37
abbrev s_best_marking : Stmt := top 38
abbrev s_seen_at : Stmt := top 40
abbrev s__accused_weights : Stmt := top 41
abbrev s_accused_most : Stmt := top 42
abbrev s_accused_at : Stmt := top 43
abbrev s__check_written : Stmt := top 44
abbrev s_found_share : Stmt := top 45
abbrev s_gap : Stmt := top 46
abbrev s__law_integer : Stmt := top 48
abbrev s__law_gcd : Stmt := top 49
abbrev s__law_start : Stmt := top 50
abbrev s__law_draw : Stmt := top 51
abbrev s__law_wide : Stmt := top 52
abbrev s__law_is : Stmt := top 53
abbrev s__law_signs : Stmt := top 54
abbrev s__law_text : Stmt := top 55
abbrev s__law_texts : Stmt := top 56
abbrev s__law_weight : Stmt := top 57
abbrev s__law_pairs : Stmt := top 58
abbrev s__law_spec : Stmt := top 59
abbrev s__law_words : Stmt := top 60
abbrev s__law_source : Stmt := top 61
abbrev s__law_level : Stmt := top 62
abbrev s__law_pool : Stmt := top 63
abbrev s__law_rows : Stmt := top 64
abbrev s__law_all : Stmt := top 65
abbrev s__law_pairs_are : Stmt := top 66
abbrev s__law_good : Stmt := top 67
abbrev s__law_under : Stmt := top 68
abbrev s__law_row_total : Stmt := top 69
abbrev s__law_paper_cost : Stmt := top 70
abbrev s__law_worth : Stmt := top 71
abbrev s__law_counts : Stmt := top 72
abbrev s__law_met : Stmt := top 73
abbrev s__law_body : Stmt := top 74
abbrev s_law : Stmt := top 75
abbrev s_Changes_init : Stmt := inClass (top 10) 0
abbrev s_Changes_texts : Stmt := inClass (top 10) 2
abbrev s_Changes_of : Stmt := inClass (top 10) 3
abbrev s_Changes_readable : Stmt := inClass (top 10) 4
abbrev s_Share_init : Stmt := inClass (top 17) 0
abbrev s_Share_sub : Stmt := inClass (top 17) 2
abbrev s_Share_eq : Stmt := inClass (top 17) 4
abbrev s_Share_is_below : Stmt := inClass (top 17) 6
abbrev s_Packing_init : Stmt := inClass (top 22) 0
abbrev s_Packing_table : Stmt := inClass (top 22) 1
abbrev s_Solver_init : Stmt := inClass (top 23) 0
abbrev s_Solver_rising : Stmt := inClass (top 23) 1
abbrev s_Solver_bounding : Stmt := inClass (top 23) 2
abbrev s_Solver_exchange : Stmt := inClass (top 23) 3
abbrev s_Solver_told : Stmt := inClass (top 23) 4
abbrev s_Solver_price : Stmt := inClass (top 23) 5
abbrev s_Table_init : Stmt := inClass (top 31) 0
abbrev s_Table_texts : Stmt := inClass (top 31) 1
abbrev s_Table_weight_of : Stmt := inClass (top 31) 2
abbrev s_Table_share_of : Stmt := inClass (top 31) 3
abbrev s_Machine_init : Stmt := inClass (top 32) 0
abbrev s_Machine_all_weights : Stmt := inClass (top 32) 1
abbrev s_Machine_texts : Stmt := inClass (top 32) 2
abbrev s_Machine_weight_of : Stmt := inClass (top 32) 3
abbrev s_Machine_share_of : Stmt := inClass (top 32) 4
abbrev s_Marking_init : Stmt := inClass (top 35) 0
abbrev s_Marking_texts : Stmt := inClass (top 35) 5
abbrev s_Marking_written_share : Stmt := inClass (top 35) 6
/-! facts -/
def fa0 : List He.Fa := [.glo "known", .glo "greatest_divisor", .glo "least_multiple", .glo "power", .glo "lesser_of", .glo "at_most_one", .glo "whole_parts", .glo "_solved", .glo "worth", .glo "best_row", .glo "prices", .glo "_is_integer", .glo "accused_by", .glo "marking_of_row", .glo "best_marking", .glo "seen_at", .glo "_accused_weights", .glo "accused_most", .glo "accused_at", .glo "_check_written"]
def fa1 : List He.Fa := [.glo "found_share", .glo "gap", .glo "_law_integer", .glo "_law_gcd", .glo "_law_start", .glo "_law_draw", .glo "_law_wide", .glo "_law_is", .glo "_law_signs", .glo "_law_text", .glo "_law_texts", .glo "_law_weight", .glo "_law_pairs", .glo "_law_spec", .glo "_law_words", .glo "_law_source", .glo "_law_level", .glo "_law_pool", .glo "_law_rows", .glo "_law_all"]
def fa2 : List He.Fa := [.glo "_law_pairs_are", .glo "_law_good", .glo "_law_under", .glo "_law_row_total", .glo "_law_paper_cost", .glo "_law_worth", .glo "_law_counts", .glo "_law_met", .glo "_law_body", .glo "law", .glo "Changes", .glo "Share", .glo "Packing", .glo "Solver", .glo "Table", .glo "Machine", .glo "Marking", .glo "MarkError", .free "len", .free "range"]
def fa3 : List He.Fa := [.free "enumerate", .free "zip", .free "sorted", .free "set", .free "list", .free "tuple", .free "int", .free "str", .free "bool", .free "sum", .free "max", .free "min", .free "abs", .free "isinstance", .free "all", .cls "Changes", .mkr "Changes", .noat "Changes" "kept", .meth "Changes" "texts", .meth "Changes" "of"]
def fa4 : List He.Fa := [.meth "Changes" "readable", .cls "Share", .mkr "Share", .noat "Share" "over", .noat "Share" "under", .meth "Share" "__sub__", .meth "Share" "__eq__", .meth "Share" "is_below", .cls "Packing", .mkr "Packing", .noat "Packing" "texts", .noat "Packing" "unit", .noat "Packing" "bounds", .noat "Packing" "level", .noat "Packing" "readable", .noat "Packing" "groups", .noat "Packing" "readers", .meth "Packing" "table", .cls "Solver", .mkr "Solver"]
def fa5 : List He.Fa := [.noat "Solver" "rows", .noat "Solver" "divisor", .noat "Solver" "basis", .meth "Solver" "rising", .meth "Solver" "bounding", .meth "Solver" "exchange", .meth "Solver" "told", .meth "Solver" "price", .cls "Table", .mkr "Table", .noat "Table" "weights", .noat "Table" "whole", .meth "Table" "texts", .meth "Table" "weight_of", .meth "Table" "share_of", .cls "Machine", .mkr "Machine", .noat "Machine" "alphabet", .noat "Machine" "start", .noat "Machine" "rows"]
def fa6 : List He.Fa := [.noat "Machine" "length", .noat "Machine" "unit", .noat "Machine" "whole", .noat "Machine" "weights", .meth "Machine" "all_weights", .meth "Machine" "texts", .meth "Machine" "weight_of", .meth "Machine" "share_of", .cls "Marking", .mkr "Marking", .noat "Marking" "entries", .noat "Marking" "whole", .meth "Marking" "texts", .meth "Marking" "written_share"]
def fa : List He.Fa := fa0 ++ fa1 ++ fa2 ++ fa3 ++ fa4 ++ fa5 ++ fa6
def d_known : He.DefD := ⟨("known", none), "known", "known", defArgs s_known, defBody s_known, defScope s_known, [], []⟩
def d_greatest_divisor : He.DefD := ⟨("greatest_divisor", none), "greatest_divisor", "greatest_divisor", defArgs s_greatest_divisor, defBody s_greatest_divisor, defScope s_greatest_divisor, [], []⟩
def d_least_multiple : He.DefD := ⟨("least_multiple", none), "least_multiple", "least_multiple", defArgs s_least_multiple, defBody s_least_multiple, defScope s_least_multiple, [], []⟩
def d_power : He.DefD := ⟨("power", none), "power", "power", defArgs s_power, defBody s_power, defScope s_power, [], []⟩
def d_lesser_of : He.DefD := ⟨("lesser_of", none), "lesser_of", "lesser_of", defArgs s_lesser_of, defBody s_lesser_of, defScope s_lesser_of, [], []⟩
def d_at_most_one : He.DefD := ⟨("at_most_one", none), "at_most_one", "at_most_one", defArgs s_at_most_one, defBody s_at_most_one, defScope s_at_most_one, [], []⟩
def d_whole_parts : He.DefD := ⟨("whole_parts", none), "whole_parts", "whole_parts", defArgs s_whole_parts, defBody s_whole_parts, defScope s_whole_parts, [], []⟩
def d__solved : He.DefD := ⟨("_solved", none), "_solved", "_solved", defArgs s__solved, defBody s__solved, defScope s__solved, [], []⟩
def d_worth : He.DefD := ⟨("worth", none), "worth", "worth", defArgs s_worth, defBody s_worth, defScope s_worth, [], []⟩
def d_best_row : He.DefD := ⟨("best_row", none), "best_row", "best_row", defArgs s_best_row, defBody s_best_row, defScope s_best_row, [], []⟩
def d_prices : He.DefD := ⟨("prices", none), "prices", "prices", defArgs s_prices, defBody s_prices, defScope s_prices, [], []⟩
def d__is_integer : He.DefD := ⟨("_is_integer", none), "_is_integer", "_is_integer", defArgs s__is_integer, defBody s__is_integer, defScope s__is_integer, [], []⟩
def d_accused_by : He.DefD := ⟨("accused_by", none), "accused_by", "accused_by", defArgs s_accused_by, defBody s_accused_by, defScope s_accused_by, [], []⟩
def d_marking_of_row : He.DefD := ⟨("marking_of_row", none), "marking_of_row", "marking_of_row", defArgs s_marking_of_row, defBody s_marking_of_row, defScope s_marking_of_row, [], []⟩
def d_best_marking : He.DefD := ⟨("best_marking", none), "best_marking", "best_marking", defArgs s_best_marking, defBody s_best_marking, defScope s_best_marking, [], []⟩
def d_seen_at : He.DefD := ⟨("seen_at", none), "seen_at", "seen_at", defArgs s_seen_at, defBody s_seen_at, defScope s_seen_at, [], []⟩
def d__accused_weights : He.DefD := ⟨("_accused_weights", none), "_accused_weights", "_accused_weights", defArgs s__accused_weights, defBody s__accused_weights, defScope s__accused_weights, [], []⟩
def d_accused_most : He.DefD := ⟨("accused_most", none), "accused_most", "accused_most", defArgs s_accused_most, defBody s_accused_most, defScope s_accused_most, [], []⟩
def d_accused_at : He.DefD := ⟨("accused_at", none), "accused_at", "accused_at", defArgs s_accused_at, defBody s_accused_at, defScope s_accused_at, [], []⟩
def d__check_written : He.DefD := ⟨("_check_written", none), "_check_written", "_check_written", defArgs s__check_written, defBody s__check_written, defScope s__check_written, [], []⟩
def d_found_share : He.DefD := ⟨("found_share", none), "found_share", "found_share", defArgs s_found_share, defBody s_found_share, defScope s_found_share, [], []⟩
def d_gap : He.DefD := ⟨("gap", none), "gap", "gap", defArgs s_gap, defBody s_gap, defScope s_gap, [], []⟩
def d__law_integer : He.DefD := ⟨("_law_integer", none), "_law_integer", "_law_integer", defArgs s__law_integer, defBody s__law_integer, defScope s__law_integer, [], []⟩
def d__law_gcd : He.DefD := ⟨("_law_gcd", none), "_law_gcd", "_law_gcd", defArgs s__law_gcd, defBody s__law_gcd, defScope s__law_gcd, [], []⟩
def d__law_start : He.DefD := ⟨("_law_start", none), "_law_start", "_law_start", defArgs s__law_start, defBody s__law_start, defScope s__law_start, [], []⟩
def d__law_draw : He.DefD := ⟨("_law_draw", none), "_law_draw", "_law_draw", defArgs s__law_draw, defBody s__law_draw, defScope s__law_draw, [], []⟩
def d__law_wide : He.DefD := ⟨("_law_wide", none), "_law_wide", "_law_wide", defArgs s__law_wide, defBody s__law_wide, defScope s__law_wide, [], []⟩
def d__law_is : He.DefD := ⟨("_law_is", none), "_law_is", "_law_is", defArgs s__law_is, defBody s__law_is, defScope s__law_is, [], []⟩
def d__law_signs : He.DefD := ⟨("_law_signs", none), "_law_signs", "_law_signs", defArgs s__law_signs, defBody s__law_signs, defScope s__law_signs, [], []⟩
def d__law_text : He.DefD := ⟨("_law_text", none), "_law_text", "_law_text", defArgs s__law_text, defBody s__law_text, defScope s__law_text, [], []⟩
def d__law_texts : He.DefD := ⟨("_law_texts", none), "_law_texts", "_law_texts", defArgs s__law_texts, defBody s__law_texts, defScope s__law_texts, [], []⟩
def d__law_weight : He.DefD := ⟨("_law_weight", none), "_law_weight", "_law_weight", defArgs s__law_weight, defBody s__law_weight, defScope s__law_weight, [], []⟩
def d__law_pairs : He.DefD := ⟨("_law_pairs", none), "_law_pairs", "_law_pairs", defArgs s__law_pairs, defBody s__law_pairs, defScope s__law_pairs, [], []⟩
def d__law_spec : He.DefD := ⟨("_law_spec", none), "_law_spec", "_law_spec", defArgs s__law_spec, defBody s__law_spec, defScope s__law_spec, [], []⟩
def d__law_words : He.DefD := ⟨("_law_words", none), "_law_words", "_law_words", defArgs s__law_words, defBody s__law_words, defScope s__law_words, [], []⟩
def d__law_source : He.DefD := ⟨("_law_source", none), "_law_source", "_law_source", defArgs s__law_source, defBody s__law_source, defScope s__law_source, [], []⟩
def d__law_level : He.DefD := ⟨("_law_level", none), "_law_level", "_law_level", defArgs s__law_level, defBody s__law_level, defScope s__law_level, [], []⟩
def d__law_pool : He.DefD := ⟨("_law_pool", none), "_law_pool", "_law_pool", defArgs s__law_pool, defBody s__law_pool, defScope s__law_pool, [], []⟩
def d__law_rows : He.DefD := ⟨("_law_rows", none), "_law_rows", "_law_rows", defArgs s__law_rows, defBody s__law_rows, defScope s__law_rows, [], []⟩
def d__law_all : He.DefD := ⟨("_law_all", none), "_law_all", "_law_all", defArgs s__law_all, defBody s__law_all, defScope s__law_all, [], []⟩
def d__law_pairs_are : He.DefD := ⟨("_law_pairs_are", none), "_law_pairs_are", "_law_pairs_are", defArgs s__law_pairs_are, defBody s__law_pairs_are, defScope s__law_pairs_are, [], []⟩
def d__law_good : He.DefD := ⟨("_law_good", none), "_law_good", "_law_good", defArgs s__law_good, defBody s__law_good, defScope s__law_good, [], []⟩
def d__law_under : He.DefD := ⟨("_law_under", none), "_law_under", "_law_under", defArgs s__law_under, defBody s__law_under, defScope s__law_under, [], []⟩
def d__law_row_total : He.DefD := ⟨("_law_row_total", none), "_law_row_total", "_law_row_total", defArgs s__law_row_total, defBody s__law_row_total, defScope s__law_row_total, [], []⟩
def d__law_paper_cost : He.DefD := ⟨("_law_paper_cost", none), "_law_paper_cost", "_law_paper_cost", defArgs s__law_paper_cost, defBody s__law_paper_cost, defScope s__law_paper_cost, [], []⟩
def d__law_worth : He.DefD := ⟨("_law_worth", none), "_law_worth", "_law_worth", defArgs s__law_worth, defBody s__law_worth, defScope s__law_worth, [], []⟩
def d__law_counts : He.DefD := ⟨("_law_counts", none), "_law_counts", "_law_counts", defArgs s__law_counts, defBody s__law_counts, defScope s__law_counts, [], []⟩
def d__law_met : He.DefD := ⟨("_law_met", none), "_law_met", "_law_met", defArgs s__law_met, defBody s__law_met, defScope s__law_met, [], []⟩
def d__law_body : He.DefD := ⟨("_law_body", none), "_law_body", "_law_body", defArgs s__law_body, defBody s__law_body, defScope s__law_body, [], []⟩
def d_law : He.DefD := ⟨("law", none), "law", "law", defArgs s_law, defBody s_law, defScope s_law, [], []⟩
def d_Changes_init : He.DefD := ⟨("Changes", some "__init__"), "__init__", "Changes.__init__", defArgs s_Changes_init, defBody s_Changes_init, defScope s_Changes_init, [], []⟩
def d_Changes_texts : He.DefD := ⟨("Changes", some "texts"), "texts", "Changes.texts", defArgs s_Changes_texts, defBody s_Changes_texts, defScope s_Changes_texts, [], []⟩
def d_Changes_of : He.DefD := ⟨("Changes", some "of"), "of", "Changes.of", defArgs s_Changes_of, defBody s_Changes_of, defScope s_Changes_of, [], []⟩
def d_Changes_readable : He.DefD := ⟨("Changes", some "readable"), "readable", "Changes.readable", defArgs s_Changes_readable, defBody s_Changes_readable, defScope s_Changes_readable, [], []⟩
def d_Share_init : He.DefD := ⟨("Share", some "__init__"), "__init__", "Share.__init__", defArgs s_Share_init, defBody s_Share_init, defScope s_Share_init, [], []⟩
def d_Share_sub : He.DefD := ⟨("Share", some "__sub__"), "__sub__", "Share.__sub__", defArgs s_Share_sub, defBody s_Share_sub, defScope s_Share_sub, [], []⟩
def d_Share_eq : He.DefD := ⟨("Share", some "__eq__"), "__eq__", "Share.__eq__", defArgs s_Share_eq, defBody s_Share_eq, defScope s_Share_eq, [], []⟩
def d_Share_is_below : He.DefD := ⟨("Share", some "is_below"), "is_below", "Share.is_below", defArgs s_Share_is_below, defBody s_Share_is_below, defScope s_Share_is_below, [], []⟩
def d_Packing_init : He.DefD := ⟨("Packing", some "__init__"), "__init__", "Packing.__init__", defArgs s_Packing_init, defBody s_Packing_init, defScope s_Packing_init, [], []⟩
def d_Packing_table : He.DefD := ⟨("Packing", some "table"), "table", "Packing.table", defArgs s_Packing_table, defBody s_Packing_table, defScope s_Packing_table, [], []⟩
def d_Solver_init : He.DefD := ⟨("Solver", some "__init__"), "__init__", "Solver.__init__", defArgs s_Solver_init, defBody s_Solver_init, defScope s_Solver_init, [], []⟩
def d_Solver_rising : He.DefD := ⟨("Solver", some "rising"), "rising", "Solver.rising", defArgs s_Solver_rising, defBody s_Solver_rising, defScope s_Solver_rising, [], []⟩
def d_Solver_bounding : He.DefD := ⟨("Solver", some "bounding"), "bounding", "Solver.bounding", defArgs s_Solver_bounding, defBody s_Solver_bounding, defScope s_Solver_bounding, [], []⟩
def d_Solver_exchange : He.DefD := ⟨("Solver", some "exchange"), "exchange", "Solver.exchange", defArgs s_Solver_exchange, defBody s_Solver_exchange, defScope s_Solver_exchange, [], []⟩
def d_Solver_told : He.DefD := ⟨("Solver", some "told"), "told", "Solver.told", defArgs s_Solver_told, defBody s_Solver_told, defScope s_Solver_told, [], []⟩
def d_Solver_price : He.DefD := ⟨("Solver", some "price"), "price", "Solver.price", defArgs s_Solver_price, defBody s_Solver_price, defScope s_Solver_price, [], []⟩
def d_Table_init : He.DefD := ⟨("Table", some "__init__"), "__init__", "Table.__init__", defArgs s_Table_init, defBody s_Table_init, defScope s_Table_init, [], []⟩
def d_Table_texts : He.DefD := ⟨("Table", some "texts"), "texts", "Table.texts", defArgs s_Table_texts, defBody s_Table_texts, defScope s_Table_texts, [], []⟩
def d_Table_weight_of : He.DefD := ⟨("Table", some "weight_of"), "weight_of", "Table.weight_of", defArgs s_Table_weight_of, defBody s_Table_weight_of, defScope s_Table_weight_of, [], []⟩
def d_Table_share_of : He.DefD := ⟨("Table", some "share_of"), "share_of", "Table.share_of", defArgs s_Table_share_of, defBody s_Table_share_of, defScope s_Table_share_of, [], []⟩
def d_Machine_init : He.DefD := ⟨("Machine", some "__init__"), "__init__", "Machine.__init__", defArgs s_Machine_init, defBody s_Machine_init, defScope s_Machine_init, [], []⟩
def d_Machine_all_weights : He.DefD := ⟨("Machine", some "all_weights"), "all_weights", "Machine.all_weights", defArgs s_Machine_all_weights, defBody s_Machine_all_weights, defScope s_Machine_all_weights, [], []⟩
def d_Machine_texts : He.DefD := ⟨("Machine", some "texts"), "texts", "Machine.texts", defArgs s_Machine_texts, defBody s_Machine_texts, defScope s_Machine_texts, [], []⟩
def d_Machine_weight_of : He.DefD := ⟨("Machine", some "weight_of"), "weight_of", "Machine.weight_of", defArgs s_Machine_weight_of, defBody s_Machine_weight_of, defScope s_Machine_weight_of, [], []⟩
def d_Machine_share_of : He.DefD := ⟨("Machine", some "share_of"), "share_of", "Machine.share_of", defArgs s_Machine_share_of, defBody s_Machine_share_of, defScope s_Machine_share_of, [], []⟩
def d_Marking_init : He.DefD := ⟨("Marking", some "__init__"), "__init__", "Marking.__init__", defArgs s_Marking_init, defBody s_Marking_init, defScope s_Marking_init, [], []⟩
def d_Marking_texts : He.DefD := ⟨("Marking", some "texts"), "texts", "Marking.texts", defArgs s_Marking_texts, defBody s_Marking_texts, defScope s_Marking_texts, [], []⟩
def d_Marking_written_share : He.DefD := ⟨("Marking", some "written_share"), "written_share", "Marking.written_share", defArgs s_Marking_written_share, defBody s_Marking_written_share, defScope s_Marking_written_share, [], []⟩
def fn0 : List He.DefD := [d_known, d_greatest_divisor, d_least_multiple, d_power, d_lesser_of, d_at_most_one, d_whole_parts, d__solved, d_worth, d_best_row, d_prices, d__is_integer, d_accused_by, d_marking_of_row, d_best_marking, d_seen_at, d__accused_weights, d_accused_most, d_accused_at, d__check_written]
def fn1 : List He.DefD := [d_found_share, d_gap, d__law_integer, d__law_gcd, d__law_start, d__law_draw, d__law_wide, d__law_is, d__law_signs, d__law_text, d__law_texts, d__law_weight, d__law_pairs, d__law_spec, d__law_words, d__law_source, d__law_level, d__law_pool, d__law_rows, d__law_all]
def fn2 : List He.DefD := [d__law_pairs_are, d__law_good, d__law_under, d__law_row_total, d__law_paper_cost, d__law_worth, d__law_counts, d__law_met, d__law_body, d_law, d_Changes_init, d_Changes_texts, d_Changes_of, d_Changes_readable, d_Share_init, d_Share_sub, d_Share_eq, d_Share_is_below, d_Packing_init, d_Packing_table]
def fn3 : List He.DefD := [d_Solver_init, d_Solver_rising, d_Solver_bounding, d_Solver_exchange, d_Solver_told, d_Solver_price, d_Table_init, d_Table_texts, d_Table_weight_of, d_Table_share_of, d_Machine_init, d_Machine_all_weights, d_Machine_texts, d_Machine_weight_of, d_Machine_share_of, d_Marking_init, d_Marking_texts, d_Marking_written_share]
def fn : List He.DefD := fn0 ++ fn1 ++ fn2 ++ fn3
end Mk

namespace Mk
open PySem PySem.Spec PyProof.Rows L2
def insB (K : PySem.W.Frag) (x : Str) : Bool :=
  He.eqO (PySem.W.findIn K (.ref (He.ga K x)) "__class__") (some (some (.builtin "object.__class__"))) &&
  (He.eqO (PySem.W.specialIn K (.builtin "object.__class__") "__get__") (some (some (.builtin "getset_descriptor.__get__"))) &&
  (decide (PySem.W.takesIn K (.builtin "object.__class__") = some true) &&
  (decide (PySem.W.mroIn K (He.ga K x) (.type "object") = some true) &&
   decide (PySem.W.kitOne K (.ref (He.ga K x)) (.ref (He.ga K x)) = some true))))
def extB (K : PySem.W.Frag) : Bool := insB K "Share" && (insB K "Marking" &&
  (He.eqO (PySem.W.findIn K (.ref (He.ga K "Share")) "__ne__") (some (some (.builtin "object.__ne__"))) &&
  (He.eqO (PySem.W.findIn K (.ref (He.ga K "Share")) "__sub__") (some (some (.ref (He.ma K (He.ga K "Share") "__sub__")))) &&
  (He.eqO (PySem.W.findIn K (.ref (He.ga K "Share")) "__eq__") (some (some (.ref (He.ma K (He.ga K "Share") "__eq__")))) &&
  PySem.W.selfFirst K (He.ga K "Share")))))
abbrev AlX : Type := He.AlD × Bool
def obsX (g : Addr → Option Obj) : AlX := (He.obsD fa fn (He.frG g (He.asD g 4)), extB (He.frG g (He.asD g 4)))
def SaysX (K : PySem.W.Frag) : Prop := He.SaysD fa fn K ∧ extB K = true
def hk : PySem.W.Hook where
  α := AlX
  obs := fun s => obsX s.heap.get?
  val := fun _ => (He.valD fn, true)
  says := fun _ h => ∃ K : PySem.W.Frag, K.In h ∧ SaysX K
  of := fun _ _ e => ⟨_, He.frG_in, congrArg Prod.fst e, congrArg Prod.snd e⟩
  keeps := fun _ _ _ ⟨K, hK, c⟩ k => ⟨K, PySem.W.Frag.In.keeps hK k, c⟩
abbrev R : PySem.W.OpenRow := PySem.W.OpenLaw.row PySem.Challenge.rw_marktruly_k26_whole_best_marking
def ob (s : PySem.W.SharedT) : AlX := obsX (HandSHeadRun.getT s)
theorem ob_eq (s : PySem.W.SharedT) : ob s = hk.obs s.abs := by
  have e : HandSHeadRun.getT s = s.abs.heap.get? := funext (HandSHeadRun.getT_eq s)
  show obsX (HandSHeadRun.getT s) = obsX s.abs.heap.get?
  rw [e]
def names0 : List PySem.Str := ["_wall", "MarkError", "InvalidNumber", "InvalidPair", "InvalidKey", "UnknownText", "Seen", "Accuses", "Changes", "known", "greatest_divisor", "least_multiple", "power", "Share", "lesser_of", "at_most_one", "whole_parts", "Packing", "Solver", "_solved", "worth", "best_row", "prices", "_is_integer", "_text_at", "Table", "Machine", "_is_below", "Marking", "accused_by"]
def names1 : List PySem.Str := ["marking_of_row", "best_marking", "seen_at", "_accused_weights", "accused_most", "accused_at", "_check_written", "found_share", "gap", "_law_integer", "_law_gcd", "_law_start", "_law_draw", "_law_wide", "_law_is", "_law_signs", "_law_text", "_law_texts", "_law_weight", "_law_pairs", "_law_spec", "_law_words", "_law_source", "_law_level", "_law_pool", "_law_rows", "_law_all", "_law_pairs_are", "_law_good", "_law_under"]
def names2 : List PySem.Str := ["_law_row_total", "_law_paper_cost", "_law_worth", "_law_counts", "_law_met", "_law_body"]
def names : List PySem.Str := names0 ++ names1 ++ names2
theorem run (w : World) : HandSHeadRun.RunEq R (PySem.W.view R.prog [75]) hk ob 6000 names w := by
  intro os
  kernel_rfl
end Mk

-- L0
set_option Elab.async false
set_option linter.all false
set_option maxRecDepth 100000
set_option maxHeartbeats 4000000
namespace Mk
open PySem PySem.Spec PyProof.Rows L2
/-- what the head has left, for the walk -/
structure Tx (K : PySem.W.Frag) (mg : Str → Option Value) : Prop where
  c : SaysX K
  g : ∃ h : Heap, K.In h ∧ h.Ns mainGlobals mg
section
variable {K : PySem.W.Frag} {mg : Str → Option Value}
theorem Tx.glo (T : Tx K mg) {x : Str} (i : Nat) (h : fa[i]? = some (.glo x)) : mg x = some (.ref (He.ga K x)) := by
  obtain ⟨_, X, G⟩ := T.g
  exact He.glo_ok X G (T.c.1.fact i h)
theorem Tx.free (T : Tx K mg) {x : Str} (i : Nat) (h : fa[i]? = some (.free x)) : mg x = none := by
  obtain ⟨_, X, G⟩ := T.g
  exact He.free_ok X G (T.c.1.fact i h)
theorem Tx.cls (T : Tx K mg) {x : Str} (i : Nat) (h : fa[i]? = some (.cls x)) : Cls K (He.ga K x) := He.cls_ok (T.c.1.fact i h)
theorem Tx.noat (T : Tx K mg) {x f : Str} (i : Nat) (h : fa[i]? = some (.noat x f)) : NoAttr K (He.ga K x) f := He.noat_ok (T.c.1.fact i h)
theorem Tx.meth (T : Tx K mg) {x m : Str} (i : Nat) (h : fa[i]? = some (.meth x m)) : Meth K (He.ga K x) m (He.ma K (He.ga K x) m) := He.meth_ok (T.c.1.fact i h)
theorem Tx.mkr (T : Tx K mg) {x : Str} (i : Nat) (h : fa[i]? = some (.mkr x)) : L2.Mk K (He.ga K x) (He.ma K (He.ga K x) "__init__") := He.mkr_ok (T.c.1.fact i h)

theorem g_known (T : Tx K mg) : mg "known" = some (.ref (He.ga K "known")) := T.glo 0 rfl
theorem g_greatest_divisor (T : Tx K mg) : mg "greatest_divisor" = some (.ref (He.ga K "greatest_divisor")) := T.glo 1 rfl
theorem g_least_multiple (T : Tx K mg) : mg "least_multiple" = some (.ref (He.ga K "least_multiple")) := T.glo 2 rfl
theorem g_power (T : Tx K mg) : mg "power" = some (.ref (He.ga K "power")) := T.glo 3 rfl
theorem g_lesser_of (T : Tx K mg) : mg "lesser_of" = some (.ref (He.ga K "lesser_of")) := T.glo 4 rfl
theorem g_at_most_one (T : Tx K mg) : mg "at_most_one" = some (.ref (He.ga K "at_most_one")) := T.glo 5 rfl
theorem g_whole_parts (T : Tx K mg) : mg "whole_parts" = some (.ref (He.ga K "whole_parts")) := T.glo 6 rfl
theorem g__solved (T : Tx K mg) : mg "_solved" = some (.ref (He.ga K "_solved")) := T.glo 7 rfl
theorem g_worth (T : Tx K mg) : mg "worth" = some (.ref (He.ga K "worth")) := T.glo 8 rfl
theorem g_best_row (T : Tx K mg) : mg "best_row" = some (.ref (He.ga K "best_row")) := T.glo 9 rfl
theorem g_prices (T : Tx K mg) : mg "prices" = some (.ref (He.ga K "prices")) := T.glo 10 rfl
theorem g__is_integer (T : Tx K mg) : mg "_is_integer" = some (.ref (He.ga K "_is_integer")) := T.glo 11 rfl
theorem g_accused_by (T : Tx K mg) : mg "accused_by" = some (.ref (He.ga K "accused_by")) := T.glo 12 rfl
theorem g_marking_of_row (T : Tx K mg) : mg "marking_of_row" = some (.ref (He.ga K "marking_of_row")) := T.glo 13 rfl
theorem g_best_marking (T : Tx K mg) : mg "best_marking" = some (.ref (He.ga K "best_marking")) := T.glo 14 rfl
theorem g_seen_at (T : Tx K mg) : mg "seen_at" = some (.ref (He.ga K "seen_at")) := T.glo 15 rfl
theorem g__accused_weights (T : Tx K mg) : mg "_accused_weights" = some (.ref (He.ga K "_accused_weights")) := T.glo 16 rfl
theorem g_accused_most (T : Tx K mg) : mg "accused_most" = some (.ref (He.ga K "accused_most")) := T.glo 17 rfl
theorem g_accused_at (T : Tx K mg) : mg "accused_at" = some (.ref (He.ga K "accused_at")) := T.glo 18 rfl
theorem g__check_written (T : Tx K mg) : mg "_check_written" = some (.ref (He.ga K "_check_written")) := T.glo 19 rfl
theorem g_found_share (T : Tx K mg) : mg "found_share" = some (.ref (He.ga K "found_share")) := T.glo 20 rfl
theorem g_gap (T : Tx K mg) : mg "gap" = some (.ref (He.ga K "gap")) := T.glo 21 rfl
theorem g__law_integer (T : Tx K mg) : mg "_law_integer" = some (.ref (He.ga K "_law_integer")) := T.glo 22 rfl
theorem g__law_gcd (T : Tx K mg) : mg "_law_gcd" = some (.ref (He.ga K "_law_gcd")) := T.glo 23 rfl
theorem g__law_start (T : Tx K mg) : mg "_law_start" = some (.ref (He.ga K "_law_start")) := T.glo 24 rfl
theorem g__law_draw (T : Tx K mg) : mg "_law_draw" = some (.ref (He.ga K "_law_draw")) := T.glo 25 rfl
theorem g__law_wide (T : Tx K mg) : mg "_law_wide" = some (.ref (He.ga K "_law_wide")) := T.glo 26 rfl
theorem g__law_is (T : Tx K mg) : mg "_law_is" = some (.ref (He.ga K "_law_is")) := T.glo 27 rfl
theorem g__law_signs (T : Tx K mg) : mg "_law_signs" = some (.ref (He.ga K "_law_signs")) := T.glo 28 rfl
theorem g__law_text (T : Tx K mg) : mg "_law_text" = some (.ref (He.ga K "_law_text")) := T.glo 29 rfl
theorem g__law_texts (T : Tx K mg) : mg "_law_texts" = some (.ref (He.ga K "_law_texts")) := T.glo 30 rfl
theorem g__law_weight (T : Tx K mg) : mg "_law_weight" = some (.ref (He.ga K "_law_weight")) := T.glo 31 rfl
theorem g__law_pairs (T : Tx K mg) : mg "_law_pairs" = some (.ref (He.ga K "_law_pairs")) := T.glo 32 rfl
theorem g__law_spec (T : Tx K mg) : mg "_law_spec" = some (.ref (He.ga K "_law_spec")) := T.glo 33 rfl
theorem g__law_words (T : Tx K mg) : mg "_law_words" = some (.ref (He.ga K "_law_words")) := T.glo 34 rfl
theorem g__law_source (T : Tx K mg) : mg "_law_source" = some (.ref (He.ga K "_law_source")) := T.glo 35 rfl
theorem g__law_level (T : Tx K mg) : mg "_law_level" = some (.ref (He.ga K "_law_level")) := T.glo 36 rfl
theorem g__law_pool (T : Tx K mg) : mg "_law_pool" = some (.ref (He.ga K "_law_pool")) := T.glo 37 rfl
theorem g__law_rows (T : Tx K mg) : mg "_law_rows" = some (.ref (He.ga K "_law_rows")) := T.glo 38 rfl
theorem g__law_all (T : Tx K mg) : mg "_law_all" = some (.ref (He.ga K "_law_all")) := T.glo 39 rfl
theorem g__law_pairs_are (T : Tx K mg) : mg "_law_pairs_are" = some (.ref (He.ga K "_law_pairs_are")) := T.glo 40 rfl
theorem g__law_good (T : Tx K mg) : mg "_law_good" = some (.ref (He.ga K "_law_good")) := T.glo 41 rfl
theorem g__law_under (T : Tx K mg) : mg "_law_under" = some (.ref (He.ga K "_law_under")) := T.glo 42 rfl
theorem g__law_row_total (T : Tx K mg) : mg "_law_row_total" = some (.ref (He.ga K "_law_row_total")) := T.glo 43 rfl
theorem g__law_paper_cost (T : Tx K mg) : mg "_law_paper_cost" = some (.ref (He.ga K "_law_paper_cost")) := T.glo 44 rfl
theorem g__law_worth (T : Tx K mg) : mg "_law_worth" = some (.ref (He.ga K "_law_worth")) := T.glo 45 rfl
theorem g__law_counts (T : Tx K mg) : mg "_law_counts" = some (.ref (He.ga K "_law_counts")) := T.glo 46 rfl
theorem g__law_met (T : Tx K mg) : mg "_law_met" = some (.ref (He.ga K "_law_met")) := T.glo 47 rfl
theorem g__law_body (T : Tx K mg) : mg "_law_body" = some (.ref (He.ga K "_law_body")) := T.glo 48 rfl
theorem g_law (T : Tx K mg) : mg "law" = some (.ref (He.ga K "law")) := T.glo 49 rfl
theorem g_Changes (T : Tx K mg) : mg "Changes" = some (.ref (He.ga K "Changes")) := T.glo 50 rfl
theorem g_Share (T : Tx K mg) : mg "Share" = some (.ref (He.ga K "Share")) := T.glo 51 rfl
theorem g_Packing (T : Tx K mg) : mg "Packing" = some (.ref (He.ga K "Packing")) := T.glo 52 rfl
theorem g_Solver (T : Tx K mg) : mg "Solver" = some (.ref (He.ga K "Solver")) := T.glo 53 rfl
theorem g_Table (T : Tx K mg) : mg "Table" = some (.ref (He.ga K "Table")) := T.glo 54 rfl
theorem g_Machine (T : Tx K mg) : mg "Machine" = some (.ref (He.ga K "Machine")) := T.glo 55 rfl
theorem g_Marking (T : Tx K mg) : mg "Marking" = some (.ref (He.ga K "Marking")) := T.glo 56 rfl
theorem g_MarkError (T : Tx K mg) : mg "MarkError" = some (.ref (He.ga K "MarkError")) := T.glo 57 rfl
theorem b_len (T : Tx K mg) : mg "len" = none := T.free 58 rfl
theorem b_range (T : Tx K mg) : mg "range" = none := T.free 59 rfl
theorem b_enumerate (T : Tx K mg) : mg "enumerate" = none := T.free 60 rfl
theorem b_zip (T : Tx K mg) : mg "zip" = none := T.free 61 rfl
theorem b_sorted (T : Tx K mg) : mg "sorted" = none := T.free 62 rfl
theorem b_set (T : Tx K mg) : mg "set" = none := T.free 63 rfl
theorem b_list (T : Tx K mg) : mg "list" = none := T.free 64 rfl
theorem b_tuple (T : Tx K mg) : mg "tuple" = none := T.free 65 rfl
theorem b_int (T : Tx K mg) : mg "int" = none := T.free 66 rfl
theorem b_str (T : Tx K mg) : mg "str" = none := T.free 67 rfl
theorem b_bool (T : Tx K mg) : mg "bool" = none := T.free 68 rfl
theorem b_sum (T : Tx K mg) : mg "sum" = none := T.free 69 rfl
theorem b_max (T : Tx K mg) : mg "max" = none := T.free 70 rfl
theorem b_min (T : Tx K mg) : mg "min" = none := T.free 71 rfl
theorem b_abs (T : Tx K mg) : mg "abs" = none := T.free 72 rfl
theorem b_isinstance (T : Tx K mg) : mg "isinstance" = none := T.free 73 rfl
theorem b_all (T : Tx K mg) : mg "all" = none := T.free 74 rfl
theorem c_Changes (T : Tx K mg) : Cls K (He.ga K "Changes") := T.cls 75 rfl
theorem k_Changes (T : Tx K mg) : L2.Mk K (He.ga K "Changes") (He.ma K (He.ga K "Changes") "__init__") := T.mkr 76 rfl
theorem n_Changes_kept (T : Tx K mg) : NoAttr K (He.ga K "Changes") "kept" := T.noat 77 rfl
theorem m_Changes_texts (T : Tx K mg) : Meth K (He.ga K "Changes") "texts" (He.ma K (He.ga K "Changes") "texts") := T.meth 78 rfl
theorem m_Changes_of (T : Tx K mg) : Meth K (He.ga K "Changes") "of" (He.ma K (He.ga K "Changes") "of") := T.meth 79 rfl
theorem m_Changes_readable (T : Tx K mg) : Meth K (He.ga K "Changes") "readable" (He.ma K (He.ga K "Changes") "readable") := T.meth 80 rfl
theorem c_Share (T : Tx K mg) : Cls K (He.ga K "Share") := T.cls 81 rfl
theorem k_Share (T : Tx K mg) : L2.Mk K (He.ga K "Share") (He.ma K (He.ga K "Share") "__init__") := T.mkr 82 rfl
theorem n_Share_over (T : Tx K mg) : NoAttr K (He.ga K "Share") "over" := T.noat 83 rfl
theorem n_Share_under (T : Tx K mg) : NoAttr K (He.ga K "Share") "under" := T.noat 84 rfl
theorem m_Share___sub__ (T : Tx K mg) : Meth K (He.ga K "Share") "__sub__" (He.ma K (He.ga K "Share") "__sub__") := T.meth 85 rfl
theorem m_Share___eq__ (T : Tx K mg) : Meth K (He.ga K "Share") "__eq__" (He.ma K (He.ga K "Share") "__eq__") := T.meth 86 rfl
theorem m_Share_is_below (T : Tx K mg) : Meth K (He.ga K "Share") "is_below" (He.ma K (He.ga K "Share") "is_below") := T.meth 87 rfl
theorem c_Packing (T : Tx K mg) : Cls K (He.ga K "Packing") := T.cls 88 rfl
theorem k_Packing (T : Tx K mg) : L2.Mk K (He.ga K "Packing") (He.ma K (He.ga K "Packing") "__init__") := T.mkr 89 rfl
theorem n_Packing_texts (T : Tx K mg) : NoAttr K (He.ga K "Packing") "texts" := T.noat 90 rfl
theorem n_Packing_unit (T : Tx K mg) : NoAttr K (He.ga K "Packing") "unit" := T.noat 91 rfl
theorem n_Packing_bounds (T : Tx K mg) : NoAttr K (He.ga K "Packing") "bounds" := T.noat 92 rfl
theorem n_Packing_level (T : Tx K mg) : NoAttr K (He.ga K "Packing") "level" := T.noat 93 rfl
theorem n_Packing_readable (T : Tx K mg) : NoAttr K (He.ga K "Packing") "readable" := T.noat 94 rfl
theorem n_Packing_groups (T : Tx K mg) : NoAttr K (He.ga K "Packing") "groups" := T.noat 95 rfl
theorem n_Packing_readers (T : Tx K mg) : NoAttr K (He.ga K "Packing") "readers" := T.noat 96 rfl
theorem m_Packing_table (T : Tx K mg) : Meth K (He.ga K "Packing") "table" (He.ma K (He.ga K "Packing") "table") := T.meth 97 rfl
theorem c_Solver (T : Tx K mg) : Cls K (He.ga K "Solver") := T.cls 98 rfl
theorem k_Solver (T : Tx K mg) : L2.Mk K (He.ga K "Solver") (He.ma K (He.ga K "Solver") "__init__") := T.mkr 99 rfl
theorem n_Solver_rows (T : Tx K mg) : NoAttr K (He.ga K "Solver") "rows" := T.noat 100 rfl
theorem n_Solver_divisor (T : Tx K mg) : NoAttr K (He.ga K "Solver") "divisor" := T.noat 101 rfl
theorem n_Solver_basis (T : Tx K mg) : NoAttr K (He.ga K "Solver") "basis" := T.noat 102 rfl
theorem m_Solver_rising (T : Tx K mg) : Meth K (He.ga K "Solver") "rising" (He.ma K (He.ga K "Solver") "rising") := T.meth 103 rfl
theorem m_Solver_bounding (T : Tx K mg) : Meth K (He.ga K "Solver") "bounding" (He.ma K (He.ga K "Solver") "bounding") := T.meth 104 rfl
theorem m_Solver_exchange (T : Tx K mg) : Meth K (He.ga K "Solver") "exchange" (He.ma K (He.ga K "Solver") "exchange") := T.meth 105 rfl
theorem m_Solver_told (T : Tx K mg) : Meth K (He.ga K "Solver") "told" (He.ma K (He.ga K "Solver") "told") := T.meth 106 rfl
theorem m_Solver_price (T : Tx K mg) : Meth K (He.ga K "Solver") "price" (He.ma K (He.ga K "Solver") "price") := T.meth 107 rfl
theorem c_Table (T : Tx K mg) : Cls K (He.ga K "Table") := T.cls 108 rfl
theorem k_Table (T : Tx K mg) : L2.Mk K (He.ga K "Table") (He.ma K (He.ga K "Table") "__init__") := T.mkr 109 rfl
theorem n_Table_weights (T : Tx K mg) : NoAttr K (He.ga K "Table") "weights" := T.noat 110 rfl
theorem n_Table_whole (T : Tx K mg) : NoAttr K (He.ga K "Table") "whole" := T.noat 111 rfl
theorem m_Table_texts (T : Tx K mg) : Meth K (He.ga K "Table") "texts" (He.ma K (He.ga K "Table") "texts") := T.meth 112 rfl
theorem m_Table_weight_of (T : Tx K mg) : Meth K (He.ga K "Table") "weight_of" (He.ma K (He.ga K "Table") "weight_of") := T.meth 113 rfl
theorem m_Table_share_of (T : Tx K mg) : Meth K (He.ga K "Table") "share_of" (He.ma K (He.ga K "Table") "share_of") := T.meth 114 rfl
theorem c_Machine (T : Tx K mg) : Cls K (He.ga K "Machine") := T.cls 115 rfl
theorem k_Machine (T : Tx K mg) : L2.Mk K (He.ga K "Machine") (He.ma K (He.ga K "Machine") "__init__") := T.mkr 116 rfl
theorem n_Machine_alphabet (T : Tx K mg) : NoAttr K (He.ga K "Machine") "alphabet" := T.noat 117 rfl
theorem n_Machine_start (T : Tx K mg) : NoAttr K (He.ga K "Machine") "start" := T.noat 118 rfl
theorem n_Machine_rows (T : Tx K mg) : NoAttr K (He.ga K "Machine") "rows" := T.noat 119 rfl
theorem n_Machine_length (T : Tx K mg) : NoAttr K (He.ga K "Machine") "length" := T.noat 120 rfl
theorem n_Machine_unit (T : Tx K mg) : NoAttr K (He.ga K "Machine") "unit" := T.noat 121 rfl
theorem n_Machine_whole (T : Tx K mg) : NoAttr K (He.ga K "Machine") "whole" := T.noat 122 rfl
theorem n_Machine_weights (T : Tx K mg) : NoAttr K (He.ga K "Machine") "weights" := T.noat 123 rfl
theorem m_Machine_all_weights (T : Tx K mg) : Meth K (He.ga K "Machine") "all_weights" (He.ma K (He.ga K "Machine") "all_weights") := T.meth 124 rfl
theorem m_Machine_texts (T : Tx K mg) : Meth K (He.ga K "Machine") "texts" (He.ma K (He.ga K "Machine") "texts") := T.meth 125 rfl
theorem m_Machine_weight_of (T : Tx K mg) : Meth K (He.ga K "Machine") "weight_of" (He.ma K (He.ga K "Machine") "weight_of") := T.meth 126 rfl
theorem m_Machine_share_of (T : Tx K mg) : Meth K (He.ga K "Machine") "share_of" (He.ma K (He.ga K "Machine") "share_of") := T.meth 127 rfl
theorem c_Marking (T : Tx K mg) : Cls K (He.ga K "Marking") := T.cls 128 rfl
theorem k_Marking (T : Tx K mg) : L2.Mk K (He.ga K "Marking") (He.ma K (He.ga K "Marking") "__init__") := T.mkr 129 rfl
theorem n_Marking_entries (T : Tx K mg) : NoAttr K (He.ga K "Marking") "entries" := T.noat 130 rfl
theorem n_Marking_whole (T : Tx K mg) : NoAttr K (He.ga K "Marking") "whole" := T.noat 131 rfl
theorem m_Marking_texts (T : Tx K mg) : Meth K (He.ga K "Marking") "texts" (He.ma K (He.ga K "Marking") "texts") := T.meth 132 rfl
theorem m_Marking_written_share (T : Tx K mg) : Meth K (He.ga K "Marking") "written_share" (He.ma K (He.ga K "Marking") "written_share") := T.meth 133 rfl
/-- a def of the text, by its datum -/
structure Df (K : PySem.W.Frag) (d : He.DefD) (f : Addr) : Prop where
  ex : ∃ fd, FunD K d.name d.qual d.params d.body d.scope [] [] f fd
/-- a def keeps a promise -/
structure Ok (P : Program) (w : World) (K : PySem.W.Frag) (mg : Str → Option Value) (base : Heap) (k : Nat) (f : Addr) (ps : List Str) (sp : Sp) : Prop where
  ex : ∃ fd, FnOk P w K mg base CX0 k f fd ps sp ∧ Binds K fd ps []
  kp : PySem.W.keepIn K (.ref f) = true

theorem f_known (T : Tx K mg) : Df K d_known (He.ga K "known") := ⟨T.c.1.def_ 0 rfl⟩
theorem f_greatest_divisor (T : Tx K mg) : Df K d_greatest_divisor (He.ga K "greatest_divisor") := ⟨T.c.1.def_ 1 rfl⟩
theorem f_least_multiple (T : Tx K mg) : Df K d_least_multiple (He.ga K "least_multiple") := ⟨T.c.1.def_ 2 rfl⟩
theorem f_power (T : Tx K mg) : Df K d_power (He.ga K "power") := ⟨T.c.1.def_ 3 rfl⟩
theorem f_lesser_of (T : Tx K mg) : Df K d_lesser_of (He.ga K "lesser_of") := ⟨T.c.1.def_ 4 rfl⟩
theorem f_at_most_one (T : Tx K mg) : Df K d_at_most_one (He.ga K "at_most_one") := ⟨T.c.1.def_ 5 rfl⟩
theorem f_whole_parts (T : Tx K mg) : Df K d_whole_parts (He.ga K "whole_parts") := ⟨T.c.1.def_ 6 rfl⟩
theorem f__solved (T : Tx K mg) : Df K d__solved (He.ga K "_solved") := ⟨T.c.1.def_ 7 rfl⟩
theorem f_worth (T : Tx K mg) : Df K d_worth (He.ga K "worth") := ⟨T.c.1.def_ 8 rfl⟩
theorem f_best_row (T : Tx K mg) : Df K d_best_row (He.ga K "best_row") := ⟨T.c.1.def_ 9 rfl⟩
theorem f_prices (T : Tx K mg) : Df K d_prices (He.ga K "prices") := ⟨T.c.1.def_ 10 rfl⟩
theorem f__is_integer (T : Tx K mg) : Df K d__is_integer (He.ga K "_is_integer") := ⟨T.c.1.def_ 11 rfl⟩
theorem f_accused_by (T : Tx K mg) : Df K d_accused_by (He.ga K "accused_by") := ⟨T.c.1.def_ 12 rfl⟩
theorem f_marking_of_row (T : Tx K mg) : Df K d_marking_of_row (He.ga K "marking_of_row") := ⟨T.c.1.def_ 13 rfl⟩
theorem f_best_marking (T : Tx K mg) : Df K d_best_marking (He.ga K "best_marking") := ⟨T.c.1.def_ 14 rfl⟩
theorem f_seen_at (T : Tx K mg) : Df K d_seen_at (He.ga K "seen_at") := ⟨T.c.1.def_ 15 rfl⟩
theorem f__accused_weights (T : Tx K mg) : Df K d__accused_weights (He.ga K "_accused_weights") := ⟨T.c.1.def_ 16 rfl⟩
theorem f_accused_most (T : Tx K mg) : Df K d_accused_most (He.ga K "accused_most") := ⟨T.c.1.def_ 17 rfl⟩
theorem f_accused_at (T : Tx K mg) : Df K d_accused_at (He.ga K "accused_at") := ⟨T.c.1.def_ 18 rfl⟩
theorem f__check_written (T : Tx K mg) : Df K d__check_written (He.ga K "_check_written") := ⟨T.c.1.def_ 19 rfl⟩
theorem f_found_share (T : Tx K mg) : Df K d_found_share (He.ga K "found_share") := ⟨T.c.1.def_ 20 rfl⟩
theorem f_gap (T : Tx K mg) : Df K d_gap (He.ga K "gap") := ⟨T.c.1.def_ 21 rfl⟩
theorem f__law_integer (T : Tx K mg) : Df K d__law_integer (He.ga K "_law_integer") := ⟨T.c.1.def_ 22 rfl⟩
theorem f__law_gcd (T : Tx K mg) : Df K d__law_gcd (He.ga K "_law_gcd") := ⟨T.c.1.def_ 23 rfl⟩
theorem f__law_start (T : Tx K mg) : Df K d__law_start (He.ga K "_law_start") := ⟨T.c.1.def_ 24 rfl⟩
theorem f__law_draw (T : Tx K mg) : Df K d__law_draw (He.ga K "_law_draw") := ⟨T.c.1.def_ 25 rfl⟩
theorem f__law_wide (T : Tx K mg) : Df K d__law_wide (He.ga K "_law_wide") := ⟨T.c.1.def_ 26 rfl⟩
theorem f__law_is (T : Tx K mg) : Df K d__law_is (He.ga K "_law_is") := ⟨T.c.1.def_ 27 rfl⟩
theorem f__law_signs (T : Tx K mg) : Df K d__law_signs (He.ga K "_law_signs") := ⟨T.c.1.def_ 28 rfl⟩
theorem f__law_text (T : Tx K mg) : Df K d__law_text (He.ga K "_law_text") := ⟨T.c.1.def_ 29 rfl⟩
theorem f__law_texts (T : Tx K mg) : Df K d__law_texts (He.ga K "_law_texts") := ⟨T.c.1.def_ 30 rfl⟩
theorem f__law_weight (T : Tx K mg) : Df K d__law_weight (He.ga K "_law_weight") := ⟨T.c.1.def_ 31 rfl⟩
theorem f__law_pairs (T : Tx K mg) : Df K d__law_pairs (He.ga K "_law_pairs") := ⟨T.c.1.def_ 32 rfl⟩
theorem f__law_spec (T : Tx K mg) : Df K d__law_spec (He.ga K "_law_spec") := ⟨T.c.1.def_ 33 rfl⟩
theorem f__law_words (T : Tx K mg) : Df K d__law_words (He.ga K "_law_words") := ⟨T.c.1.def_ 34 rfl⟩
theorem f__law_source (T : Tx K mg) : Df K d__law_source (He.ga K "_law_source") := ⟨T.c.1.def_ 35 rfl⟩
theorem f__law_level (T : Tx K mg) : Df K d__law_level (He.ga K "_law_level") := ⟨T.c.1.def_ 36 rfl⟩
theorem f__law_pool (T : Tx K mg) : Df K d__law_pool (He.ga K "_law_pool") := ⟨T.c.1.def_ 37 rfl⟩
theorem f__law_rows (T : Tx K mg) : Df K d__law_rows (He.ga K "_law_rows") := ⟨T.c.1.def_ 38 rfl⟩
theorem f__law_all (T : Tx K mg) : Df K d__law_all (He.ga K "_law_all") := ⟨T.c.1.def_ 39 rfl⟩
theorem f__law_pairs_are (T : Tx K mg) : Df K d__law_pairs_are (He.ga K "_law_pairs_are") := ⟨T.c.1.def_ 40 rfl⟩
theorem f__law_good (T : Tx K mg) : Df K d__law_good (He.ga K "_law_good") := ⟨T.c.1.def_ 41 rfl⟩
theorem f__law_under (T : Tx K mg) : Df K d__law_under (He.ga K "_law_under") := ⟨T.c.1.def_ 42 rfl⟩
theorem f__law_row_total (T : Tx K mg) : Df K d__law_row_total (He.ga K "_law_row_total") := ⟨T.c.1.def_ 43 rfl⟩
theorem f__law_paper_cost (T : Tx K mg) : Df K d__law_paper_cost (He.ga K "_law_paper_cost") := ⟨T.c.1.def_ 44 rfl⟩
theorem f__law_worth (T : Tx K mg) : Df K d__law_worth (He.ga K "_law_worth") := ⟨T.c.1.def_ 45 rfl⟩
theorem f__law_counts (T : Tx K mg) : Df K d__law_counts (He.ga K "_law_counts") := ⟨T.c.1.def_ 46 rfl⟩
theorem f__law_met (T : Tx K mg) : Df K d__law_met (He.ga K "_law_met") := ⟨T.c.1.def_ 47 rfl⟩
theorem f__law_body (T : Tx K mg) : Df K d__law_body (He.ga K "_law_body") := ⟨T.c.1.def_ 48 rfl⟩
theorem f_law (T : Tx K mg) : Df K d_law (He.ga K "law") := ⟨T.c.1.def_ 49 rfl⟩
theorem f_Changes_init (T : Tx K mg) : Df K d_Changes_init (He.ma K (He.ga K "Changes") "__init__") := ⟨T.c.1.def_ 50 rfl⟩
theorem f_Changes_texts (T : Tx K mg) : Df K d_Changes_texts (He.ma K (He.ga K "Changes") "texts") := ⟨T.c.1.def_ 51 rfl⟩
theorem f_Changes_of (T : Tx K mg) : Df K d_Changes_of (He.ma K (He.ga K "Changes") "of") := ⟨T.c.1.def_ 52 rfl⟩
theorem f_Changes_readable (T : Tx K mg) : Df K d_Changes_readable (He.ma K (He.ga K "Changes") "readable") := ⟨T.c.1.def_ 53 rfl⟩
theorem f_Share_init (T : Tx K mg) : Df K d_Share_init (He.ma K (He.ga K "Share") "__init__") := ⟨T.c.1.def_ 54 rfl⟩
theorem f_Share_sub (T : Tx K mg) : Df K d_Share_sub (He.ma K (He.ga K "Share") "__sub__") := ⟨T.c.1.def_ 55 rfl⟩
theorem f_Share_eq (T : Tx K mg) : Df K d_Share_eq (He.ma K (He.ga K "Share") "__eq__") := ⟨T.c.1.def_ 56 rfl⟩
theorem f_Share_is_below (T : Tx K mg) : Df K d_Share_is_below (He.ma K (He.ga K "Share") "is_below") := ⟨T.c.1.def_ 57 rfl⟩
theorem f_Packing_init (T : Tx K mg) : Df K d_Packing_init (He.ma K (He.ga K "Packing") "__init__") := ⟨T.c.1.def_ 58 rfl⟩
theorem f_Packing_table (T : Tx K mg) : Df K d_Packing_table (He.ma K (He.ga K "Packing") "table") := ⟨T.c.1.def_ 59 rfl⟩
theorem f_Solver_init (T : Tx K mg) : Df K d_Solver_init (He.ma K (He.ga K "Solver") "__init__") := ⟨T.c.1.def_ 60 rfl⟩
theorem f_Solver_rising (T : Tx K mg) : Df K d_Solver_rising (He.ma K (He.ga K "Solver") "rising") := ⟨T.c.1.def_ 61 rfl⟩
theorem f_Solver_bounding (T : Tx K mg) : Df K d_Solver_bounding (He.ma K (He.ga K "Solver") "bounding") := ⟨T.c.1.def_ 62 rfl⟩
theorem f_Solver_exchange (T : Tx K mg) : Df K d_Solver_exchange (He.ma K (He.ga K "Solver") "exchange") := ⟨T.c.1.def_ 63 rfl⟩
theorem f_Solver_told (T : Tx K mg) : Df K d_Solver_told (He.ma K (He.ga K "Solver") "told") := ⟨T.c.1.def_ 64 rfl⟩
theorem f_Solver_price (T : Tx K mg) : Df K d_Solver_price (He.ma K (He.ga K "Solver") "price") := ⟨T.c.1.def_ 65 rfl⟩
theorem f_Table_init (T : Tx K mg) : Df K d_Table_init (He.ma K (He.ga K "Table") "__init__") := ⟨T.c.1.def_ 66 rfl⟩
theorem f_Table_texts (T : Tx K mg) : Df K d_Table_texts (He.ma K (He.ga K "Table") "texts") := ⟨T.c.1.def_ 67 rfl⟩
theorem f_Table_weight_of (T : Tx K mg) : Df K d_Table_weight_of (He.ma K (He.ga K "Table") "weight_of") := ⟨T.c.1.def_ 68 rfl⟩
theorem f_Table_share_of (T : Tx K mg) : Df K d_Table_share_of (He.ma K (He.ga K "Table") "share_of") := ⟨T.c.1.def_ 69 rfl⟩
theorem f_Machine_init (T : Tx K mg) : Df K d_Machine_init (He.ma K (He.ga K "Machine") "__init__") := ⟨T.c.1.def_ 70 rfl⟩
theorem f_Machine_all_weights (T : Tx K mg) : Df K d_Machine_all_weights (He.ma K (He.ga K "Machine") "all_weights") := ⟨T.c.1.def_ 71 rfl⟩
theorem f_Machine_texts (T : Tx K mg) : Df K d_Machine_texts (He.ma K (He.ga K "Machine") "texts") := ⟨T.c.1.def_ 72 rfl⟩
theorem f_Machine_weight_of (T : Tx K mg) : Df K d_Machine_weight_of (He.ma K (He.ga K "Machine") "weight_of") := ⟨T.c.1.def_ 73 rfl⟩
theorem f_Machine_share_of (T : Tx K mg) : Df K d_Machine_share_of (He.ma K (He.ga K "Machine") "share_of") := ⟨T.c.1.def_ 74 rfl⟩
theorem f_Marking_init (T : Tx K mg) : Df K d_Marking_init (He.ma K (He.ga K "Marking") "__init__") := ⟨T.c.1.def_ 75 rfl⟩
theorem f_Marking_texts (T : Tx K mg) : Df K d_Marking_texts (He.ma K (He.ga K "Marking") "texts") := ⟨T.c.1.def_ 76 rfl⟩
theorem f_Marking_written_share (T : Tx K mg) : Df K d_Marking_written_share (He.ma K (He.ga K "Marking") "written_share") := ⟨T.c.1.def_ 77 rfl⟩
end
end Mk

-- L1
set_option Elab.async false
set_option linter.all false
set_option maxRecDepth 100000
set_option maxHeartbeats 4000000
namespace Mk
open PySem PySem.Spec PyProof.Rows L2
/-! ### a def and its promise -/
section
variable {P : Program} {w : World} {K : PySem.W.Frag} {mg : Str → Option Value} {base : Heap} {d : He.DefD} {f : Addr} {N ps : List Str} {k : Nat} {sp : Sp}
theorem ok_mk (D : Df K d f) (kp : PySem.W.keepIn K (.ref f) = true) (S : FnScope N ps d.scope)
    (hb : ∀ (kV doc pm : Value) (an : Option Addr) (cdv ct : Value) (us : List Value), us.length = ps.length → bindArgs (PySem.W.fnOf d.name d.qual d.params d.body d.scope .none kV doc pm an cdv ct) ⟨us, []⟩ = pure (ps.zip us))
    (len : ∀ vs H Q E, sp vs H Q E → vs.length = ps.length)
    (hbody : ∀ (cdv : Value) (A : Around) (outer : List Env) (s : Shared) (H : Hp) (vs : List V) (Q : VK) (E : XK), Room k (A.deeper (envOfC d.qual d.scope s.heap.objs.size f cdv)) → sp vs H Q E →
      ∃ t, PSs (cxOf CX0 P w K mg base N d.qual d.scope f cdv A outer s H E).nox d.body t ∧ t { nx := fun _ H' => Q .non H', rt := Q } (start N vs) H) : Ok P w K mg base (k + 1) f ps sp := by
  obtain ⟨fd, F⟩ := D.ex
  refine ⟨⟨fd, F.ok S len fun cdv A outer s H vs Q E hr hs => ?_, F.bindsN hb⟩, kp⟩
  obtain ⟨t, h, q⟩ := hbody cdv A outer s H vs Q E hr hs
  exact ⟨t, h.nox, q⟩
theorem df_kp (D : Df K d f) : PySem.W.keepIn K (.ref f) = true := let ⟨_, F⟩ := D.ex; F.kp
theorem Ok.mono (O : Ok P w K mg base k f ps sp) {j : Nat} (h : k ≤ j) : Ok P w K mg base j f ps sp := let ⟨⟨fd, F, b⟩, kp⟩ := O; ⟨⟨fd, F.mono h, b⟩, kp⟩
end
/-! ### calls of our own defs -/
def tCal (sp : Sp) (t : TA) : TE := fun σ H Q => t σ H fun vs H1 => sp vs H1 Q E0
def tMet (C : Addr) (m : Str) (sp : Sp) (ta : TE) (t : TA) : TE := fun σ H Q => ta σ H fun x H1 => ∃ a dx fs, x = .ref a ∧ H1 a = some (.ins C dx fs) ∧ fs.lookup m = none ∧ t σ H1 fun vs H2 => sp (.ref a :: vs) H2 Q E0
def tNew (C : Addr) (sp : Sp) (t : TA) : TE := fun σ H Q => t σ H fun vs H1 => ∀ x dx, H1 x = none → H1 dx = none → dx ≠ x →
  sp (.ref x :: vs) (upd (upd H1 dx (.own x)) x (.ins C dx [])) (fun v H2 => v = .non ∧ Q (.ref x) H2) E0
/-- a field of an instance of the class at C -/
def tFl (C : Addr) (f : Str) (ta : TE) : TE := fun σ H Q => ta σ H fun x H1 => ∃ a dx fs v, x = .ref a ∧ H1 a = some (.ins C dx fs) ∧ fs.lookup f = some v ∧ Q v H1
def sFl (C : Addr) (f : Str) (ta tv : TE) : TS := fun D σ H => tv σ H fun y H1 => ta σ H1 fun x H2 => ∃ a dx fs, x = .ref a ∧ H2 a = some (.ins C dx fs) ∧ fs.length < 1000 ∧ D.nx σ (upd H2 a (.ins C dx (putF f y fs)))
section
variable {X : Cx} {k : Nat} {f C : Addr} {ps : List Str} {sp : Sp} {x m : Str} {p pos apos pos' : Pos} {e o value : Expr} {es : List Expr} {ta tv te : TE} {t : TA}
theorem pe_imp {t t' : TE} (h : PE X e t) (hi : ∀ σ H Q, t' σ H Q → t σ H Q) : PE X e t' := ⟨fun pins s σ H Q I q => h.run pins s σ H Q I (hi σ H Q q)⟩
theorem pe_orE {t t' : TE} (h : PE X e t) (h' : PE X e t') : PE X e (fun σ H Q => t σ H Q ∨ t' σ H Q) := ⟨fun pins s σ H Q I q => q.elim (h.run pins s σ H Q I) (h'.run pins s σ H Q I)⟩
theorem pe_c (O : Ok X.prog X.w X.K X.mg X.base k f ps sp) (hr : Room k X.A) (hg : Gl X x) (hm : X.mg x = some (.ref f)) (ha : PA X (e :: es) t) (hdb : (x == ("__debug__" : Str)) = false := by decide)
    (he : starEach (e :: es) X.env = (false, eval e X.env) :: starEach es X.env := by rfl) (hpl : (backTo pos (starEach es X.env)).any (·.1) = false := by rfl) : PE X (.Call (.Name x p) (e :: es) [] pos) (tCal sp t) := by
  obtain ⟨⟨fd, F, b⟩, kp⟩ := O
  refine pe_imp (pe_call F hr hg hm kp b .nil pass0 ha hdb he hpl) fun σ H Q q => ?_
  have z : ∀ (vs : List V) (H1 : Hp), sp (vs ++ []) H1 Q E0 = sp vs H1 Q E0 := fun vs H1 => by rw [List.append_nil]
  show t σ H fun vs H1 => sp (vs ++ []) H1 Q E0
  simp only [z]
  exact q
theorem pe_c0 (O : Ok X.prog X.w X.K X.mg X.base k f ps sp) (hr : Room k X.A) (hg : Gl X x) (hm : X.mg x = some (.ref f)) (hdb : (x == ("__debug__" : Str)) = false := by decide) : PE X (.Call (.Name x p) [] [] pos) (tCal sp tNil) := by
  obtain ⟨⟨fd, F, b⟩, kp⟩ := O
  exact pe_call0 F hr hg hm kp b .nil pass0 hdb
theorem pe_m {pl : Sem Bool} (he : PE X o ta) (c : Cls X.K C) (hm : Meth X.K C m f) (O : Ok X.prog X.w X.K X.mg X.base k f ps sp) (hr : Room k X.A) (ha : PA X (e :: es) t)
    (hst : starEach (e :: es) X.env = (false, eval e X.env) :: starEach es X.env := by rfl) (hpl : (backTo pos (starEach es X.env)).any (·.1) = false := by rfl)
    (ht : eval (.Call (.Attribute o m apos) (e :: es) [] pos) X.env = (do
      let ov ← eval o X.env
      standAt apos.atName
      let (f, first) ← holding [ov] (getMethod ov m pl)
      callWith pos f first (backTo pos (starEach (e :: es) X.env)) (backToKw pos (keywordEach [] X.env))) := by rfl) :
    PE X (.Call (.Attribute o m apos) (e :: es) [] pos) (tMet C m sp ta t) := by
  obtain ⟨⟨fd, F, b⟩, kp⟩ := O
  refine pe_imp (pe_meth (pl := pl) he c hm F hr b .nil pass0 ha hst hpl ht) fun σ H Q q => ?_
  have z : ∀ (v : V) (vs : List V) (H1 : Hp), sp (v :: (vs ++ [])) H1 Q E0 = sp (v :: vs) H1 Q E0 := fun v vs H1 => by rw [List.append_nil]
  show ta σ H fun x H1 => ∃ a dx fs, x = .ref a ∧ H1 a = some (.ins C dx fs) ∧ fs.lookup m = none ∧ t σ H1 fun vs H2 => sp (x :: (vs ++ [])) H2 Q E0
  simp only [z]
  have e : (fun (x : V) (H1 : Hp) => ∃ a dx fs, x = .ref a ∧ H1 a = some (.ins C dx fs) ∧ fs.lookup m = none ∧ t σ H1 fun vs H2 => sp (x :: vs) H2 Q E0) = (fun (x : V) (H1 : Hp) => ∃ a dx fs, x = .ref a ∧ H1 a = some (.ins C dx fs) ∧ fs.lookup m = none ∧ t σ H1 fun vs H2 => sp (.ref a :: vs) H2 Q E0) := by
    funext x H1
    refine propext ⟨fun ⟨a, dx, fs, h1, h2⟩ => ⟨a, dx, fs, h1, by rw [← h1]; exact h2⟩, fun ⟨a, dx, fs, h1, h2⟩ => ⟨a, dx, fs, h1, by rw [h1]; exact h2⟩⟩
  rw [e]
  exact q
theorem pe_m0 {pl : Sem Bool} (he : PE X o ta) (c : Cls X.K C) (hm : Meth X.K C m f) (O : Ok X.prog X.w X.K X.mg X.base k f ps sp) (hr : Room k X.A)
    (ht : eval (.Call (.Attribute o m apos) [] [] pos) X.env = (do
      let ov ← eval o X.env
      standAt apos.atName
      let (f, first) ← holding [ov] (getMethod ov m pl)
      callWith pos f first (backTo pos (starEach [] X.env)) (backToKw pos (keywordEach [] X.env))) := by rfl) :
    PE X (.Call (.Attribute o m apos) [] [] pos) (tMet C m sp ta tNil) := by
  obtain ⟨⟨fd, F, b⟩, kp⟩ := O
  refine pe_imp (pe_meth0 (pl := pl) he c hm F hr b .nil pass0 ht) fun σ H Q q => ?_
  show ta σ H fun x H1 => ∃ a dx fs, x = .ref a ∧ H1 a = some (.ins C dx fs) ∧ fs.lookup m = none ∧ sp (x :: ([] ++ [])) H1 Q E0
  have e : (fun (x : V) (H1 : Hp) => ∃ a dx fs, x = .ref a ∧ H1 a = some (.ins C dx fs) ∧ fs.lookup m = none ∧ sp (x :: ([] ++ [])) H1 Q E0) = (fun (x : V) (H1 : Hp) => ∃ a dx fs, x = .ref a ∧ H1 a = some (.ins C dx fs) ∧ fs.lookup m = none ∧ sp (.ref a :: []) H1 Q E0) := by
    funext x H1
    refine propext ⟨fun ⟨a, dx, fs, h1, h2⟩ => ⟨a, dx, fs, h1, by rw [h1] at h2; exact h2⟩, fun ⟨a, dx, fs, h1, h2⟩ => ⟨a, dx, fs, h1, by rw [h1]; exact h2⟩⟩
  rw [e]
  exact q
theorem pe_k (M : L2.Mk X.K C f) (O : Ok X.prog X.w X.K X.mg X.base k f ps sp) (hr : Room (k + 1) X.A) (hg : Gl X x) (hm : X.mg x = some (.ref C)) (ha : PA X (e :: es) t) (hdb : (x == ("__debug__" : Str)) = false := by decide)
    (he : starEach (e :: es) X.env = (false, eval e X.env) :: starEach es X.env := by rfl) (hpl : (backTo pos (starEach es X.env)).any (·.1) = false := by rfl) : PE X (.Call (.Name x p) (e :: es) [] pos) (tNew C sp t) := by
  obtain ⟨⟨fd, F, b⟩, kp⟩ := O
  refine pe_imp (pe_make M F hr hg hm b .nil pass0 ha hdb he hpl) fun σ H Q q => ?_
  show t σ H fun vs H1 => ∀ x dx, H1 x = none → H1 dx = none → dx ≠ x → sp (.ref x :: (vs ++ [])) (upd (upd H1 dx (.own x)) x (.ins C dx [])) (fun v H2 => v = .non ∧ Q (.ref x) H2) E0
  have z : ∀ (v : V) (vs : List V) (H1 : Hp) (R : VK), sp (v :: (vs ++ [])) H1 R E0 = sp (v :: vs) H1 R E0 := fun v vs H1 R => by rw [List.append_nil]
  simp only [z]
  exact q
theorem pe_f {nm : Str} (c : Cls X.K C) (n : NoAttr X.K C nm) (he : PE X e ta) (hb : attributeBase e nm X.env (eval e X.env) = eval e X.env := by rfl) : PE X (.Attribute e nm pos) (tFl C nm ta) := by
  refine ⟨fun pins s σ H Q I h => ?_⟩
  refine attr_of hb (thn (he.run pins s σ H _ I h) fun u s1 ⟨x, H1, I1, rx, a, dx, fs, v, ex, ea, l, q⟩ => ?_)
  subst ex
  obtain rfl : u = Value.ref a := rx
  exact getattr_ok I1 ea c n l fun u' s2 I2 ru => ⟨v, H1, I2, ru, q⟩
theorem ps_f {nm : Str} (c : Cls X.K C) (n : NoAttr X.K C nm) (ha : PE X o ta) (hv : PE X value tv) (hs : swapsWith value (some (.Attribute o nm pos')) pos.line X.env = pure false := by rfl) : PS X (.Assign [.Attribute o nm pos'] value pos) (sFl C nm ta tv) := by
  refine ⟨fun pins s σ H D I h => ?_⟩
  refine plainObj_wpAny_Assign_Attribute (thn (hv.run pins s σ H _ I h) fun u s1 ⟨y, H1, I1, ry, q⟩ => thn (ha.run pins s1 σ H1 _ I1 q) fun ov s2 ⟨x, H2, I2, rx, a, dx, fs, ex, ea, l, q2⟩ => ?_) hs
  subst ex
  obtain rfl : ov = Value.ref a := rx
  exact setattr_ok I2 ea c n l ry fun s3 I3 => ⟨σ, _, I3, q2⟩
end
end Mk

-- R0
set_option Elab.async false
set_option linter.all false
set_option maxRecDepth 100000
set_option maxHeartbeats 4000000
namespace Mk
open PySem PySem.Spec PyProof.Rows L2 PySem.W
/-! ### a - b, a != b of instances of an own class -/
section
variable {prog : Program} {w : World} {A : Around} {E : Value → Shared → Prop} {s : Shared} {K : PySem.W.Frag} {x C f : Addr} {ox : Obj} {od : Option Obj} {b : Value}
theorem check_slot {M : Model} {id owner n : String} {rest : List Value} {Q : Unit → Shared → Prop} (X : K.In s.heap) (I : InstAt s.heap x ox C od) (hk : builtinKind id = some .slot) (hs : splitId id = some (owner, n))
    (ha : argsOk id ⟨.ref x :: rest, []⟩) (ho : PySem.W.mroIn K C (.type owner) = some true) (hq : Q () s) : wpAny M A (checkBuiltinCall id ⟨.ref x :: rest, []⟩) Q E s := by
  simp only [checkBuiltinCall, hk, hs]
  refine wpAny_bind ?_
  · unfold isInstance
    refine wpAny_bind (I.type.here ((PySem.W.looks_mroIn X ho).here ?_))
    simp only [Bool.not_true, Bool.false_eq_true, if_false]
    cases hsig : Manifest.signature? id with
    | none => exact wpAny_pure hq
    | some sig =>
      simp only [argsOk, hsig] at ha
      have h2 : Bind.checkArgs id sig ⟨.ref x :: rest, []⟩ = pure () := ha
      show wpAny M A (Bind.checkArgs id sig ⟨.ref x :: rest, []⟩) Q E _
      rw [h2]
      exact wpAny_pure hq
theorem ne_bind (self : Value) : bindSpecial (.builtin "object.__ne__") self = pure (.builtin "object.__ne__", [self]) :=
  (Slot.of (T := "object") (name := "__ne__") (owner := "object") (n := "__ne__") (by rw [typeLookup_type, builtinLookup_eq_fast]; kernel_rfl) (by decide +kernel) (by decide +kernel) (by decide +kernel)
    (.inl (by decide +kernel)) (by rw [isSubtype_type]; kernel_rfl)).bind self
theorem ifBound_ne {M : Model} {args : List Value} {Q : Option Value → Shared → Prop} (X : K.In s.heap) (I : InstAt s.heap x ox C od) (hs : findIn K (.ref C) "__ne__" = some (some (.builtin "object.__ne__")))
    (h : wpAny M A (call (.builtin "object.__ne__") (.ref x :: args)) (fun v => Q (some v)) E s) : wpAny M A (callSpecialIfBound? (.ref x) "__ne__" args) Q E s := by
  simp only [callSpecialIfBound?, bindSpecialIfBound?]
  refine wpAny_holding (wpAny_bind (wpAny_bind (wpAny_bind (I.type.here ((looks_findIn X hs).here ?_)))))
  refine wpAny_bind (wpAny_askSetting (wpAny_ite ?_))
  have fin : wpAny M A (call (.builtin "object.__ne__") ([.ref x] ++ args) >>= fun v => pure (some v)) Q E s := wpAny_bind (wpAny_mono h (fun v s' h' => wpAny_pure h') fun _ _ h' => h')
  rw [ne_bind]
  split
  · exact wpAny_bind (wpAny_pure (wpAny_pure fin))
  · exact wpAny_tryCatch (wpAny_bind (wpAny_pure (wpAny_pure fin)))
theorem objNe {Q : Fin → Shared → Prop} (X : K.In s.heap) (I : InstAt s.heap x ox C od) (hs : findIn K (.ref C) "__eq__" = some (some (.ref f))) (hf : isFn K (.ref f) = true) (hu : A.units < cLine)
    (hcall : wpAny (model prog w) A (call (.ref f) [.ref x, b]) (fun v s' => ∃ c, v = .bool c ∧ Q (.done (.ret (.bool (!c)))) s') E s) :
    wpAny (model prog w) A (Builtin.«object.__ne__» ⟨[.ref x, b], []⟩) Q E s := by
  unfold Builtin.«object.__ne__»
  repeat (first
    | with_reducible refine wpAny_cRoomFor hu ?_
    | (refine wpAny_bind (m := callSpecialIfBound? (.ref x) (Str.ofString "__eq__") [b])
        (ifBound_K X I hs hf (wpAny_mono hcall (fun v s' hr => by
          obtain ⟨c, rfl, hq⟩ := hr
          repeat (first | exact hq | exact wpAny_pure hq | exact wpAny_truthy_bool hq | (refine wpAny_bind (m := truthy (.bool _)) (wpAny_truthy_bool ?_)) | wp_step)) fun _ _ e => e)))
    | wp_step)
theorem ne_own {Q : Value → Shared → Prop} {L : Addr} {h₀ : Heap} {m : Str → Option Value} (hu : A.units + 1 < cLine) (F : Fr h₀ L s.heap m) (X₀ : K.In h₀) (I : InstAt s.heap x ox C od) (hb : Looks (model prog w) s.heap (typeOf b) (.ref C))
    (hne : findIn K (.ref C) "__ne__" = some (some (.builtin "object.__ne__"))) (heq : findIn K (.ref C) "__eq__" = some (some (.ref f))) (hf : isFn K (.ref f) = true) (ho : PySem.W.mroIn K C (.type "object") = some true)
    (hpl : plainId "object.__ne__" = true) (ha : argsOk "object.__ne__" ⟨[.ref x, b], []⟩)
    (h : wpAny (model prog w) A.in1 (call (.ref f) [.ref x, b]) (fun v s' => ∃ c, v = .bool c ∧ Q (.bool (!c)) s') E s) : wpAny (model prog w) A (compareOp .NotEq (.ref x) b) Q E s := by
  have X := X₀.keeps F.keep
  have one : wpAny (model prog w) A (tryCompare (.ref x) "__ne__" b) (fun r s' => ∃ v, r = some v ∧ Q v s') E s := by
    unfold tryCompare
    refine wpAny_bind (ifBound_ne X I hne (wpAny_call (codeAny_call_builtin hpl PySem.F.cmpEntry_ne (check_slot X I PySem.F.cmpKind_ne PySem.F.cmpSplit_ne ha ho (objNe (A := A.in1) X I heq hf hu (wpAny_mono h (fun v s' hv => ?_) fun _ _ e => e))))))
    obtain ⟨c, rfl, hq⟩ := hv
    exact ⟨c, rfl, wpAny_pure ⟨_, rfl, hq⟩⟩
  show wpAny (model prog w) A (richCompare .NotEq (.ref x) b) Q E s
  unfold richCompare
  simp only [oneThing_ref]
  refine wpAny_holding (wpAny_bind (wpAny_cRoomFor (Nat.lt_of_succ_lt hu) ?_))
  refine wpAny_bind (I.type.here (wpAny_bind (hb.here ?_)))
  rw [if_neg (by simp)]
  refine wpAny_bind (wpAny_pure ?_)
  simp only [Bool.false_eq_true, if_false]
  refine wpAny_bind (wpAny_mono one (fun r s' z => ?_) fun _ _ e => e)
  obtain ⟨v, rfl, hq⟩ := z
  exact wpAny_pure hq
end
section
variable {X : Cx} {k : Nat} {f C : Addr} {ps : List Str} {sp : Sp} {pins : List (Addr × Obj)} {σ : L2.St} {H : Hp} {s : Shared}
theorem run_at {A' : Around} {Q : VK} {us : List Value} {vs : List V} (O : Ok X.prog X.w X.K X.mg X.base k f ps sp) (hr : Room k A') (hfr : A'.frames = X.A.frames) (I : Inv X pins σ H s) (r : Vals vs us) (h : sp vs H Q E0) :
    wpAny (model X.prog X.w) A' (call (.ref f) us) (EP X pins σ Q) X.xe s := by
  obtain ⟨⟨fd, F, b⟩, kp⟩ := O
  have e0 : Env0 X.prog X.w X.K X.mg X.base A' X.stack s H := by
    have e := I.env0
    exact ⟨by rw [hfr]; exact e.frames, e.mod, e.bs, e.bsz, e.funs, e.frf, e.hok, e.bare⟩
  have hl := F.len _ _ _ _ h
  refine wpAny_call (codeAny_mono (F.run A' X.stack s H ⟨us, []⟩ us vs Q E0 hr e0 (by
    have := b s us I.kIn (by rw [List.append_nil, ← r.length]; exact hl)
    simpa using this) r h) fun r s' hq => ?_)
  cases r with
  | error e => exact pass0 pins σ H s e s' I hq
  | ok fl =>
    cases fl with
    | ret u => exact I.after hq
    | next => exact False.elim hq
    | brk => exact False.elim hq
    | cont => exact False.elim hq
theorem cmpBack_of {Q : Value → Shared → Prop} {u : Value} {s' : Shared} (h : u ≠ .notImplemented) (q : Q u s') : PySem.W.CmpBack Q u s' := by
  cases u <;> first
    | exact q
    | exact absurd rfl h
theorem rel_ni {v : V} {u : Value} (r : RelV v u) : u ≠ .notImplemented := by
  intro e
  subst e
  cases v with
  | int i => obtain ⟨t, e⟩ := r; exact nomatch e
  | str i => obtain ⟨t, e⟩ := r; exact nomatch e
  | byt i => obtain ⟨t, e⟩ := r; exact nomatch e
  | flt i => obtain ⟨t, e⟩ := r; exact nomatch e
  | non => exact nomatch (show Value.notImplemented = Value.none from r)
  | bl b => exact nomatch (show Value.notImplemented = Value.bool b from r)
  | ref a => exact nomatch (show Value.notImplemented = Value.ref a from r)
  | ty n => exact nomatch (show Value.notImplemented = Value.type n from r)
def rOwn2 (C : Addr) (sp : Sp) : R2 := fun x y H Q => ∃ a b dx dy fs gs, x = .ref a ∧ y = .ref b ∧ H a = some (.ins C dx fs) ∧ H b = some (.ins C dy gs) ∧ sp [.ref a, .ref b] H Q E0
def rOwnNe (C : Addr) (sp : Sp) : R2 := fun x y H Q => ∃ a b dx dy fs gs, x = .ref a ∧ y = .ref b ∧ H a = some (.ins C dx fs) ∧ H b = some (.ins C dy gs) ∧ sp [.ref a, .ref b] H (fun v H' => ∃ c, v = .bl c ∧ Q (.bl (!c)) H') E0
theorem op_subOwn (O : Ok X.prog X.w X.K X.mg X.base k f ps sp) (hr : Room k X.A) (hs : findIn X.K (.ref C) "__sub__" = some (some (.ref f))) (hf : isFn X.K (.ref f) = true) (hc : selfFirst X.K C = true) : OpR X (binaryOp .Sub) (rOwn2 C sp) := by
  intro pins s σ H x y u v Q I rx ry h
  obtain ⟨a, b, dx, dy, fs, gs, rfl, rfl, ha, hb, h⟩ := h
  cases rx
  cases ry
  obtain ⟨mA, J, _⟩ := ins_get I.hok ha
  obtain ⟨mB, J', _⟩ := ins_get I.hok hb
  obtain ⟨od, J, _⟩ := J.look
  obtain ⟨od', J', _⟩ := J'.look
  obtain ⟨m, hF⟩ := I.fr
  refine PySem.W.binop_K (op := .Sub) hF I.ok.mod.kin J J'.type hc hs hf (thn (run_at O hr rfl I (vs := [.ref a, .ref b]) (.cons rfl (.cons rfl .nil)) h) fun u s' q => ?_)
  refine cmpBack_of ?_ q
  obtain ⟨v, H', I', r, q⟩ := q
  exact rel_ni r
theorem op_neOwn (O : Ok X.prog X.w X.K X.mg X.base k f ps sp) (hr : Room (k + 1) X.A) (hne : findIn X.K (.ref C) "__ne__" = some (some (.builtin "object.__ne__"))) (hs : findIn X.K (.ref C) "__eq__" = some (some (.ref f))) (hf : isFn X.K (.ref f) = true)
    (ho : PySem.W.mroIn X.K C (.type "object") = some true) : OpR X (compareOp .NotEq) (rOwnNe C sp) := by
  intro pins s σ H x y u v Q I rx ry h
  obtain ⟨a, b, dx, dy, fs, gs, rfl, rfl, ha, hb, h⟩ := h
  cases rx
  cases ry
  obtain ⟨mA, J, _⟩ := ins_get I.hok ha
  obtain ⟨mB, J', _⟩ := ins_get I.hok hb
  obtain ⟨od, J, _⟩ := J.look
  obtain ⟨od', J', _⟩ := J'.look
  obtain ⟨m, hF⟩ := I.fr
  refine ne_own (by have := hr.units; omega) hF I.ok.mod.kin J J'.type hne hs hf ho (by decide +kernel) (PySem.F.cmpArgs_ne _ _) (thn (run_at O hr.in1 rfl I (vs := [.ref a, .ref b]) (.cons rfl (.cons rfl .nil)) h) fun u s' q => ?_)
  obtain ⟨v, H', I', r, c, rfl, q⟩ := q
  cases r
  exact ⟨c, rfl, .bl (!c), H', I', rfl, q⟩
end
end Mk

-- D1
set_option Elab.async false
set_option linter.all false
set_option maxRecDepth 100000
set_option maxHeartbeats 4000000
namespace Mk
open PySem PySem.Spec PyProof.Rows L2
section
variable {P : Program} {w : World} {K : PySem.W.Frag} {mg : Str → Option Value} {base : Heap}
/-! numbers -/
def spGcd : Sp := fun vs H Q _ => ∃ a b : Int, vs = [.int a, .int b] ∧ 0 ≤ a ∧ 0 ≤ b ∧ Q (.int (Int.gcd a b : Nat)) H
theorem gcd_turn {a b : Int} (ha : 0 ≤ a) (hb : 0 < b) : Int.gcd b (a % b) = Int.gcd a b := by
  obtain ⟨x, rfl⟩ := Int.eq_ofNat_of_zero_le ha
  obtain ⟨y, rfl⟩ := Int.eq_ofNat_of_zero_le (Int.le_of_lt hb)
  rw [← Int.natCast_emod]
  simp only [Int.gcd_natCast_natCast]
  rw [Nat.gcd_comm x y, Nat.gcd_comm y (x % y)]
  exact (Nat.gcd_rec y x).symm
theorem sc_greatest_divisor : FnScope ["a", "b"] ["a", "b"] (defScope s_greatest_divisor) := ⟨rfl, rfl, rfl, by decide +kernel, rfl, by decide +kernel, by decide +kernel⟩
theorem ok_greatest_divisor (T : Tx K mg) : Ok P w K mg base 1 (He.ga K "greatest_divisor") ["a", "b"] spGcd := by
  refine ok_mk (f_greatest_divisor T) (df_kp (f_greatest_divisor T)) sc_greatest_divisor (fun _ _ _ _ _ _ us hl => match us, hl with | [_, _], _ => rfl) (fun vs H Q E h => ?_) (fun cdv A outer s H vs Q E hr h => ?_)
  · obtain ⟨a, b, rfl, _⟩ := h
    rfl
  · obtain ⟨a, b, rfl, ha, hb, k⟩ := h
    refine ⟨_, (pss_cons (ps_while PassesOwn.never (pt_cmpR op_gt (pv 1) pe_int (nomark _))
      (pss_one (ps_par (i := 0) (j := 1) rfl sc_greatest_divisor.nd rfl rfl (by decide) rfl rfl (pa_cons (pv 1) (pa_cons (pe_op op_mod (pv 0) (pv 1)) pa_nil)) (by rfl))))
      (pss_one (ps_ret (pv 0)))), ?_⟩
    refine ⟨fun m σ H' => ∃ x y : Int, σ = [some (.int x), some (.int y)] ∧ H' = H ∧ 0 ≤ x ∧ 0 ≤ y ∧ Int.gcd x y = Int.gcd a b ∧ m = y.toNat, ⟨_, a, b, rfl, rfl, ha, hb, rfl, rfl⟩, ?_⟩
    rintro m σ H' ⟨x, y, rfl, rfl, hx, hy, e, rfl⟩
    refine ⟨_, rfl, _, _, rfl, rfl, _, rfl, ?_⟩
    refine ite2 (fun hp => ?_) (fun hp => ?_)
    · have hp : 0 < y := of_decide_eq_true hp
      refine ⟨_, fun σ' H' q => q, ?_⟩
      refine ⟨_, rfl, _, rfl, _, rfl, _, _, rfl, rfl, hp, _, _, rfl, ?_⟩
      have := Int.emod_nonneg x (show y ≠ 0 by omega)
      have := Int.emod_lt_of_pos x hp
      exact ⟨_, by omega, y, x % y, rfl, rfl, hy, by omega, by rw [gcd_turn hx hp, e], rfl⟩
    · have hp : ¬ 0 < y := fun z => hp (decide_eq_true z)
      refine ⟨_, rfl, ?_⟩
      have e0 : y = 0 := by omega
      subst e0
      have e2 : ((Int.gcd a b : Nat) : Int) = x := by
        rw [← e, Int.gcd_zero_right]
        omega
      show Q (.int x) _
      rw [← e2]
      exact k
end
end Mk

-- R1
set_option Elab.async false
set_option linter.all false
set_option maxRecDepth 100000
set_option maxHeartbeats 4000000
namespace Mk
open PySem PySem.Spec PyProof.Rows L2
/-! ### data and how the heap bears it: G is the part of the heap that is written no more -/
abbrev Rep (α : Type) := Hp → V → α → Prop
def rInt : Rep Int := fun _ v n => v = .int n
def rStr : Rep Str := fun _ v s => v = .str s
def rLst {α : Type} (R : Rep α) : Rep (List α) := fun G v xs => ∃ p vs, v = .ref p ∧ G p = some (.lst vs) ∧ Paired (R G) vs xs
def rTup {α : Type} (R : Rep α) : Rep (List α) := fun G v xs => ∃ p vs, v = .ref p ∧ G p = some (.tup vs) ∧ Paired (R G) vs xs
def rLf {α : Type} (f : α → V) : Rep (List α) := fun G v xs => ∃ p, v = .ref p ∧ G p = some (.lst (xs.map f))
def rTf {α : Type} (f : α → V) : Rep (List α) := fun G v xs => ∃ p, v = .ref p ∧ G p = some (.tup (xs.map f))
def rPr {α β : Type} (R : Rep α) (S : Rep β) : Rep (α × β) := fun G v q => ∃ p a b, v = .ref p ∧ G p = some (.tup [a, b]) ∧ R G a q.1 ∧ S G b q.2
def rTr {α β γ : Type} (R : Rep α) (S : Rep β) (U : Rep γ) : Rep (α × β × γ) := fun G v q => ∃ p a b c, v = .ref p ∧ G p = some (.tup [a, b, c]) ∧ R G a q.1 ∧ S G b q.2.1 ∧ U G c q.2.2
class Mono {α : Type} (R : Rep α) : Prop where
  mono : ∀ {G G' : Hp} {v : V} {x : α}, Same G G' → R G v x → R G' v x
theorem paired_mono {α : Type} {R : Rep α} [Mono R] {G G' : Hp} (s : Same G G') : ∀ {vs : List V} {xs : List α}, Paired (R G) vs xs → Paired (R G') vs xs
  | _, _, .nil => .nil
  | _, _, .cons h t => .cons (Mono.mono s h) (paired_mono s t)
instance : Mono rInt := ⟨fun _ h => h⟩
instance : Mono rStr := ⟨fun _ h => h⟩
instance {α : Type} {R : Rep α} [Mono R] : Mono (rLst R) := ⟨fun s ⟨p, vs, h1, h2, h3⟩ => ⟨p, vs, h1, s _ _ h2, paired_mono s h3⟩⟩
instance {α : Type} {R : Rep α} [Mono R] : Mono (rTup R) := ⟨fun s ⟨p, vs, h1, h2, h3⟩ => ⟨p, vs, h1, s _ _ h2, paired_mono s h3⟩⟩
instance {α : Type} {f : α → V} : Mono (rLf f) := ⟨fun s ⟨p, h1, h2⟩ => ⟨p, h1, s _ _ h2⟩⟩
instance {α : Type} {f : α → V} : Mono (rTf f) := ⟨fun s ⟨p, h1, h2⟩ => ⟨p, h1, s _ _ h2⟩⟩
instance {α β : Type} {R : Rep α} {S : Rep β} [Mono R] [Mono S] : Mono (rPr R S) := ⟨fun s ⟨p, a, b, h1, h2, h3, h4⟩ => ⟨p, a, b, h1, s _ _ h2, Mono.mono s h3, Mono.mono s h4⟩⟩
instance {α β γ : Type} {R : Rep α} {S : Rep β} {U : Rep γ} [Mono R] [Mono S] [Mono U] : Mono (rTr R S U) := ⟨fun s ⟨p, a, b, c, h1, h2, h3, h4, h5⟩ => ⟨p, a, b, c, h1, s _ _ h2, Mono.mono s h3, Mono.mono s h4, Mono.mono s h5⟩⟩
theorem paired_map {α : Type} {f : α → V} : ∀ {vs : List V} {xs : List α}, Paired (fun v x => v = f x) vs xs → vs = xs.map f
  | _, _, .nil => rfl
  | _, _, .cons h t => by rw [h, paired_map t]; rfl
theorem map_paired {α : Type} {F : V → α → Prop} {f : α → V} (h : ∀ x, F (f x) x) : ∀ xs : List α, Paired F (xs.map f) xs
  | [] => .nil
  | x :: xs => .cons (h x) (map_paired h xs)
theorem paired_get {β α : Type} {F : β → α → Prop} : ∀ {vs : List β} {xs : List α} {i : Nat} {v : β}, Paired F vs xs → vs[i]? = some v → ∃ x, xs[i]? = some x ∧ F v x
  | _, _, i, v, .nil, h => by simp at h
  | _, _, 0, v, .cons a _, h => by
    have e := Option.some.inj h
    subst e
    exact ⟨_, rfl, a⟩
  | _, _, i + 1, v, .cons _ t, h => by
    obtain ⟨x, h1, h2⟩ := paired_get (i := i) (v := v) t (by simpa using h)
    exact ⟨x, by simpa using h1, h2⟩
theorem paired_get' {β α : Type} {F : β → α → Prop} : ∀ {vs : List β} {xs : List α} {i : Nat} {x : α}, Paired F vs xs → xs[i]? = some x → ∃ v, vs[i]? = some v ∧ F v x
  | _, _, i, v, .nil, h => by simp at h
  | _, _, 0, v, .cons a _, h => by
    have e := Option.some.inj h
    subst e
    exact ⟨_, rfl, a⟩
  | _, _, i + 1, v, .cons _ t, h => by
    obtain ⟨x, h1, h2⟩ := paired_get' (i := i) t (by simpa using h)
    exact ⟨x, by simpa using h1, h2⟩
theorem paired_len {β α : Type} {F : β → α → Prop} : ∀ {vs : List β} {xs : List α}, Paired F vs xs → vs.length = xs.length
  | _, _, .nil => rfl
  | _, _, .cons _ t => by rw [List.length_cons, List.length_cons, paired_len t]
theorem paired_snoc {β α : Type} {F : β → α → Prop} {v : β} {x : α} (h : F v x) : ∀ {vs : List β} {xs : List α}, Paired F vs xs → Paired F (vs ++ [v]) (xs ++ [x])
  | _, _, .nil => .cons h .nil
  | _, _, .cons a t => .cons a (paired_snoc h t)
theorem paired_append {β α : Type} {F : β → α → Prop} : ∀ {vs ws : List β} {xs ys : List α}, Paired F vs xs → Paired F ws ys → Paired F (vs ++ ws) (xs ++ ys)
  | _, _, _, _, .nil, s => s
  | _, _, _, _, .cons a t, s => .cons a (paired_append t s)
/-! ### what a piece of code may do: M may be written, all else that was tracked stands; what G has more is new -/
structure Nw (M : Addr → Prop) (G H G' H' : Hp) : Prop where
  hh : ∀ b o, ¬ M b → H b = some o → H' b = some o
  dom : ∀ b, H' b = none → H b = none
  gg : Same G G'
  gh : Same G' H'
  nw : ∀ b o, G' b = some o → H b = none ∨ G b = some o
abbrev nM : Addr → Prop := fun _ => False
section
variable {M : Addr → Prop} {G H G1 H1 G2 H2 : Hp} {p : Addr} {o : HO}
theorem Nw.refl (s : Same G H) : Nw M G H G H := ⟨fun _ _ _ h => h, fun _ h => h, Same.refl G, s, fun _ _ h => .inr h⟩
theorem Nw.trans (a : Nw M G H G1 H1) (b : Nw M G1 H1 G2 H2) : Nw M G H G2 H2 :=
  ⟨fun c u n h => b.hh c u n (a.hh c u n h), fun c h => a.dom c (b.dom c h), a.gg.trans b.gg, b.gh, fun c u h => (b.nw c u h).elim (fun z => .inl (a.dom c z)) fun z => a.nw c u z⟩
theorem Nw.sub (a : Nw nM G H G1 H1) : Nw M G H G1 H1 := ⟨fun c u _ h => a.hh c u (fun z => z) h, a.dom, a.gg, a.gh, a.nw⟩
theorem Nw.same (a : Nw nM G H G1 H1) : Same H H1 := fun b o h => a.hh b o (fun z => z) h
theorem Nw.free (a : Nw M G H G1 H1) (h : H1 p = none) : H p = none := a.dom p h
theorem Same.none (s : Same G H) (h : H p = none) : G p = none := s.free h
theorem Nw.gfree (a : Nw M G H G1 H1) (h : H1 p = none) : G1 p = none := a.gh.free h
/-- something that is not frozen stays unfrozen -/
theorem Nw.loc (a : Nw M G H G1 H1) (h : H p = some o) (g : G p = none) : G1 p = none := by
  cases e : G1 p with
  | none => rfl
  | some u =>
    rcases a.nw p u e with z | z
    · rw [h] at z; cases z
    · rw [g] at z; cases z
theorem same_upd (s : Same G H) (h : H p = none) : Same G (upd H p o) := fun b u e => by
  rw [upd_ne (ne_of_none (s b u e) h)]
  exact s b u e
theorem same_upd' (s : Same G H) (g : G p = none) : Same G (upd H p o) := fun b u e => by
  have : b ≠ p := fun z => by subst z; rw [g] at e; cases e
  rw [upd_ne this]
  exact s b u e
theorem same_new (h : H p = none) : Same H (upd H p o) := same_upd (Same.refl H) h
theorem same_both (s : Same G H) (h : H p = none) : Same (upd G p o) (upd H p o) := fun b u e => by
  by_cases q : b = p
  · subst q
    rw [upd_same] at e ⊢
    exact e
  · rw [upd_ne q] at e ⊢
    exact s b u e
/-- a new object, written no more -/
theorem Nw.alloc (a : Nw M G H G1 H1) (h : H1 p = none) : Nw M G H (upd G1 p o) (upd H1 p o) where
  hh := fun b u n e => by rw [upd_ne (ne_of_none (a.hh b u n e) h)]; exact a.hh b u n e
  dom := fun b e => by
    by_cases q : b = p
    · subst q; rw [upd_same] at e; cases e
    · rw [upd_ne q] at e; exact a.dom b e
  gg := a.gg.trans (same_new (a.gfree h))
  gh := same_both a.gh h
  nw := fun b u e => by
    by_cases q : b = p
    · subst q; exact .inl (a.dom b h)
    · rw [upd_ne q] at e; exact a.nw b u e
/-- a new object that may still be written -/
theorem Nw.allocH (a : Nw M G H G1 H1) (h : H1 p = none) : Nw M G H G1 (upd H1 p o) where
  hh := fun b u n e => by rw [upd_ne (ne_of_none (a.hh b u n e) h)]; exact a.hh b u n e
  dom := fun b e => by
    by_cases q : b = p
    · subst q; rw [upd_same] at e; cases e
    · rw [upd_ne q] at e; exact a.dom b e
  gg := a.gg
  gh := same_upd a.gh h
  nw := a.nw
/-- writing what was made on the way -/
theorem Nw.putH (a : Nw M G H G1 H1) (h : H p = none) (g : G1 p = none) : Nw M G H G1 (upd H1 p o) where
  hh := fun b u n e => by
    have : b ≠ p := ne_of_none e h
    rw [upd_ne this]; exact a.hh b u n e
  dom := fun b e => by
    by_cases q : b = p
    · subst q; exact h
    · rw [upd_ne q] at e; exact a.dom b e
  gg := a.gg
  gh := same_upd' a.gh g
  nw := a.nw
/-- writing what may be written -/
theorem Nw.putM (a : Nw M G H G1 H1) (m : M p) (g : G1 p = none) : Nw M G H G1 (upd H1 p o) where
  hh := fun b u n e => by
    have : b ≠ p := fun z => n (z ▸ m)
    rw [upd_ne this]; exact a.hh b u n e
  dom := fun b e => by
    by_cases q : b = p
    · subst q; rw [upd_same] at e; cases e
    · rw [upd_ne q] at e; exact a.dom b e
  gg := a.gg
  gh := same_upd' a.gh g
  nw := a.nw
/-- what was made on the way is written no more -/
theorem Nw.frz (a : Nw M G H G1 H1) (h : H p = none) (e : H1 p = some o) : Nw M G H (upd G1 p o) H1 where
  hh := a.hh
  dom := a.dom
  gg := a.gg.trans fun b u q => by
    by_cases z : b = p
    · subst z
      have := a.gh b u q
      rw [upd_same]
      rw [e] at this
      exact this
    · rw [upd_ne z]; exact q
  gh := fun b u q => by
    by_cases z : b = p
    · subst z; rw [upd_same] at q; rw [e]; exact q
    · rw [upd_ne z] at q; exact a.gh b u q
  nw := fun b u q => by
    by_cases z : b = p
    · subst z; exact .inl h
    · rw [upd_ne z] at q; exact a.nw b u q
theorem same_frz (g : G p = none ∨ G p = some o) : Same G (upd G p o) := fun b u q => by
  by_cases z : b = p
  · subst z
    rw [upd_same]
    rcases g with g | g
    · rw [g] at q; cases q
    · rw [g] at q; exact q
  · rw [upd_ne z]; exact q
/-- writing what is new, seen from before -/
theorem Nw.thru {x : Addr} (a : Nw M G H G1 H1) (h : H x = none) (b : Nw (fun c => c = x) G1 H1 G2 H2) : Nw M G H G2 H2 :=
  ⟨fun c u n e => b.hh c u (fun z => by rw [z, h] at e; cases e) (a.hh c u n e), fun c e => a.dom c (b.dom c e), a.gg.trans b.gg, b.gh, fun c u e => (b.nw c u e).elim (fun z => .inl (a.dom c z)) fun z => a.nw c u z⟩
theorem Nw.obj {x dx C : Addr} (a : Nw M G H G1 H1) (hx : H1 x = none) (hd : H1 dx = none) (ne : dx ≠ x) : Nw M G H G1 (upd (upd H1 dx (.own x)) x (.ins C dx [])) :=
  (a.allocH hd).allocH (by rw [upd_ne fun e => ne e.symm]; exact hx)
end
/-! ### a list comprehension, by a word of the turn, what is made so far, the two heaps -/
theorem lc_I {β : Type} {J : It} {n : Nat} {Gd : Hp → Prop} {Y : Nat → Hp → V → Hp → Prop} (w : Walk J n Gd Y) {M : Addr → Prop} {G : Hp} {g : TG} {tt : TT} {te : TE} {own : List Nat} {σ : L2.St} {H1 : Hp} {D : Addr} {Qd : Hp → Prop}
    (R : Rep β) [Mono R] (I : Nat → List β → Hp → Hp → Prop) (hD : H1 D = none) (s : Same G H1) (hn : n ≤ 100000)
    (hI : ∀ i ys Gc Hc o, Nw M G H1 Gc Hc → I i ys Gc Hc → I i ys Gc (upd Hc D o)) (h0 : I 0 [] G (upd H1 D (.lst [])))
    (hG : ∀ Gc Hc, Nw M G H1 Gc Hc → Gd Hc) (hM : ¬ M D)
    (hs : ∀ i x ys Gc Hc H' (Ky : V → Hp → Prop) (Kn : Hp → Prop), i < n → Nw M G H1 Gc Hc → I i ys Gc Hc → Y i Hc x H' →
      (∀ y H4 G4 z, Nw M Gc Hc G4 H4 → R G4 y z → I (i + 1) (ys ++ [z]) G4 H4 → Ky y H4) → (∀ H3 G4, Nw M Gc Hc G4 H3 → I (i + 1) ys G4 H3 → Kn H3) →
      g x (wipe σ own) H' fun σ2 H2 => wipe σ2 own = wipe σ own ∧ tt σ2 H2 fun b H3 => if b = true then te σ2 H3 Ky else Kn H3)
    (hd : ∀ ys vs Gc Hc, Nw M G H1 Gc Hc → I n ys Gc Hc → Hc D = some (.lst vs) → Gc D = none → Paired (R Gc) vs ys → Qd Hc) :
    ∃ W : Nat → Nat → Hp → Prop, (∃ m, W 0 m (upd H1 D (.lst []))) ∧ ∀ i m H, W i m H →
      (J.stop i H ∧ Qd H) ∨ (J.go i H ∧ ∃ Nx : Hp → Prop, (∀ H', Nx H' → ∃ m', m' < m ∧ W (i + 1) m' H') ∧ ∀ x H', J.yld i H x H' → g x (wipe σ own) H' fun σ2 H2 => wipe σ2 own = wipe σ own ∧ tt σ2 H2 fun b H3 =>
        if b = true then te σ2 H3 fun y H4 => ∃ acc, H4 D = some (.lst acc) ∧ acc.length < sizeLine ∧ Nx (upd H4 D (.lst (acc ++ [y]))) else Nx H3) := by
  refine ⟨fun i m Hc => m = n - i ∧ i ≤ n ∧ ∃ ys vs Gc, Nw M G H1 Gc Hc ∧ I i ys Gc Hc ∧ Hc D = some (.lst vs) ∧ Gc D = none ∧ Paired (R Gc) vs ys ∧ vs.length ≤ i, ⟨n, by simp, Nat.zero_le _, [], [], G, (Nw.refl s).allocH hD, h0, upd_same, s.free hD, .nil, Nat.le_refl _⟩, ?_⟩
  rintro i m Hc ⟨rfl, hi, ys, vs, Gc, nw, hi2, hd2, hg2, hp, hl⟩
  by_cases hlt : i < n
  · refine .inr ⟨w.goes i Hc hlt (hG _ _ nw), fun H' => ∃ ys vs Gc, Nw M G H1 Gc H' ∧ I (i + 1) ys Gc H' ∧ H' D = some (.lst vs) ∧ Gc D = none ∧ Paired (R Gc) vs ys ∧ vs.length ≤ i + 1, fun H' q => ⟨n - (i + 1), by omega, rfl, hlt, q⟩, fun x H' y => ?_⟩
    refine hs i x ys Gc Hc H' _ _ hlt nw hi2 (w.yields i Hc x H' hlt (hG _ _ nw) y) (fun y H4 G4 z n2 r i2 => ?_) (fun H3 G4 n2 i2 => ?_)
    · have l1 := n2.hh D _ hM hd2
      have l2 := n2.loc hd2 hg2
      refine ⟨vs, l1, Nat.lt_of_le_of_lt hl (Nat.lt_of_lt_of_le hlt (Nat.le_trans hn (by decide))), ys ++ [z], vs ++ [y], G4, (nw.trans n2).putH hD l2, hI _ _ _ _ _ (nw.trans n2) i2, upd_same, l2, paired_snoc r (paired_mono n2.gg hp), ?_⟩
      rw [List.length_append, List.length_singleton]
      omega
    · exact ⟨ys, vs, G4, nw.trans n2, i2, n2.hh D _ hM hd2, n2.loc hd2 hg2, paired_mono n2.gg hp, by omega⟩
  · have e : i = n := by omega
    subst e
    exact .inl ⟨w.stops Hc (hG _ _ nw), hd ys vs Gc Hc nw hi2 hd2 hg2 hp⟩
end Mk

-- R2
set_option Elab.async false
set_option linter.all false
set_option maxRecDepth 100000
set_option maxHeartbeats 4000000
namespace PySem
open Sem (wp)
set_option maxHeartbeats 4000000 in
theorem mk_enumerate_newB {v : Value} {o : Obj} {H : Heap → Prop} (B : Begins v o H) :
    Meets (Builtin.«enumerate.__new__» ⟨[.type "enumerate", v], []⟩) (fun _ R s => H s.heap ∧
      R (.ok (.ret (.ref (s.heap.push o).objs.size))) { s with heap := (s.heap.push o).push { cls := .type "enumerate", data := .fields #[.none, .bool false, .ref s.heap.objs.size, rawInt 0, .none, .none] } }) :=
  .of_wp fun prog w A R s h => by
    obtain ⟨hp, g, d, tk, os⟩ := s; obtain ⟨h1, h⟩ := h
    have hsub := sub_enumerate
    have q1 : ∀ {A' : Around} {E : Value → Shared → Prop} {Q : Value → Shared → Prop}, Q (.ref hp.objs.size) ⟨hp.push o, g, d, tk, os⟩ → wpAny (model prog w) A' (pyIter v) Q E ⟨hp, g, d, tk, os⟩ :=
      fun q => B.iter prog w _ _ ⟨hp, g, d, tk, os⟩ _ h1 q
    wp_walk using q1
    refine wpAny_stack_any fun st => wpAny_pure ?_
    split
    · rename_i c _ _ _ _ _
      cases (c == Value.type "enumerate")
      · wp_walk using q1
        exact ⟨_, rfl, h⟩
      · wp_walk using q1
        exact ⟨_, rfl, h⟩
    · wp_walk using q1
      exact ⟨_, rfl, h⟩
section
variable {prog : Program} {w : World} {A : Around} {E : Value → Shared → Prop} {s : Shared}
theorem mk_enum_begins {v : Value} {o : Obj} {H : Heap → Prop} {Q : Value → Shared → Prop} (B : Begins v o H) (h1 : H s.heap)
    (h : ∀ h', IsEnum h' (s.heap.objs.size + 1) s.heap.objs.size 0 .none → h'.get? s.heap.objs.size = some o → h'.objs.size = s.heap.objs.size + 2 →
      (∀ b o, s.heap.get? b = some o → h'.get? b = some o) → Q (.ref (s.heap.objs.size + 1)) { s with heap := h' }) :
    wpAny (model prog w) A (call (.type "enumerate") [v]) Q E s := by
  refine callType_new F.called_enumerate (by decide) (F.typeCall_enumerate_1 _) (F.newCall_enumerate_1 _) (fun obj => F.args_object_init_2 obj _) F.entry_enumerate_new
    (mk_enumerate_newB B) ⟨h1, ?_⟩
  have hz : (s.heap.push o).objs.size = s.heap.objs.size + 1 := Heap.size_push ..
  show _ ∧ _
  rw [hz]
  have he : IsEnum ((s.heap.push o).push { cls := .type "enumerate", data := .fields #[.none, .bool false, .ref s.heap.objs.size, rawInt 0, .none, .none] }) (s.heap.objs.size + 1) s.heap.objs.size 0 .none := by
    have := Heap.get?_push_size (s.heap.push o) (o := { cls := .type "enumerate", data := .fields #[.none, .bool false, .ref s.heap.objs.size, rawInt 0, .none, .none] }) rfl
    rw [hz] at this; exact this
  refine ⟨⟨_, he, rfl⟩, h _ he (Heap.get?_push_of_some _ (Heap.get?_push_size _ B.free)) (by rw [Heap.size_push, hz]) fun b o x => Heap.get?_push_of_some _ (Heap.get?_push_of_some _ x)⟩
end
end PySem
namespace Mk
open PySem PySem.Spec PyProof.Rows L2
/-! ### zip and enumerate over lists, tuples, texts in any mix -/
inductive Sq where
  | lst (a : Addr) | tup (a : Addr) | txt (z : Str)
def Sq.v : Sq → V
  | .lst a => .ref a
  | .tup a => .ref a
  | .txt z => .str z
def signs (z : Str) : List V := z.cps.toList.map fun c => .str ⟨#[c]⟩
def Sq.Is (H : Hp) : Sq → List V → Prop
  | .lst a, xs => Rd H a (.lst xs)
  | .tup a, xs => Rd H a (.tup xs)
  | .txt z, xs => xs = signs z
def Sq.it (h : Heap) (i : Nat) (it : Addr) : Sq → Prop
  | .lst a => h.IsListIter it a i
  | .tup a => h.IsTupleIter it a i
  | .txt z => ∃ t, h.IsStrIter it (strIterType z) z t i
theorem rd_inj {H : Hp} {a : Addr} {o u : HO} (h : Rd H a o) (h' : Rd H a u) (d : ∀ ob z, o ≠ .frz ob z) (d' : ∀ ob z, u ≠ .frz ob z) : o = u := by
  rcases h with h | ⟨x, h⟩
  · rcases h' with h' | ⟨y, h'⟩
    · rw [h] at h'; exact Option.some.inj h'
    · rw [h] at h'; exact absurd (Option.some.inj h') (d _ _)
  · rcases h' with h' | ⟨y, h'⟩
    · rw [h] at h'; exact absurd (Option.some.inj h').symm (d' _ _)
    · rw [h] at h'; exact (HO.frz.inj (Option.some.inj h')).2
theorem Sq.inj {H : Hp} : ∀ {q : Sq} {xs ys : List V}, q.Is H xs → q.Is H ys → xs = ys
  | .lst a, xs, ys, h, h' => HO.lst.inj (rd_inj h h' (fun _ _ z => nomatch z) fun _ _ z => nomatch z)
  | .tup a, xs, ys, h, h' => HO.tup.inj (rd_inj h h' (fun _ _ z => nomatch z) fun _ _ z => nomatch z)
  | .txt z, xs, ys, h, h' => h.trans h'.symm
theorem Sq.at {h h' : Heap} {i : Nat} {it : Addr} (k : ∀ o, h.get? it = some o → h'.get? it = some o) : ∀ {q : Sq}, q.it h i it → q.it h' i it
  | .lst a, x => Heap.IsListIter.at x k
  | .tup a, x => Heap.IsTupleIter.at x k
  | .txt z, ⟨t, x⟩ => ⟨t, let ⟨o, e, r⟩ := x; ⟨o, k o e, r⟩⟩
theorem Sq.lt {h : Heap} {i : Nat} {it : Addr} : ∀ {q : Sq}, q.it h i it → ∃ o, h.get? it = some o ∧ ∀ v, o.data ≠ .cell v
  | .lst a, ⟨o, e, _, d⟩ => ⟨o, e, fun v z => by rw [d] at z; cases z⟩
  | .tup a, ⟨o, e, _, d⟩ => ⟨o, e, fun v z => by rw [d] at z; cases z⟩
  | .txt z, ⟨t, o, e, _, d⟩ => ⟨o, e, fun v z => by rw [d] at z; cases z⟩
/-- what its iterator draws -/
structure Dw (prog : Program) (w : World) (A : Around) (s : Shared) (q : Sq) (xs : List V) (it : Addr) (i : Nat) (z1 z2 : Addr → Prop) : Prop where
  ex : ∃ (fp : List Addr) (P : Nat → Value → Prop) (S : Nat → Heap → Prop), Draws prog w A it fp xs.length P S ∧ S i s.heap ∧ (∀ j h, S j h → q.it h j it) ∧ (∀ j v, P j v → ∃ x, xs[j]? = some x ∧ RelV x v) ∧ it ∈ fp ∧ ∀ c, c ∈ fp → c = it ∨ z1 c
theorem draws_of {X : Cx} {pins : List (Addr × Obj)} {σ : L2.St} {H : Hp} {s : Shared} {A : Around} (I : Inv X pins σ H s) (hh : A.handled = none) {it : Addr} {i : Nat} (hit : H it = none) : ∀ {q : Sq} {xs : List V}, q.Is H xs → q.it s.heap i it →
    ∃ (fp : List Addr) (P : Nat → Value → Prop) (S : Nat → Heap → Prop), Draws X.prog X.w A it fp xs.length P S ∧ S i s.heap ∧ (∀ j h, S j h → q.it h j it) ∧ (∀ j v, P j v → ∃ x, xs[j]? = some x ∧ RelV x v) ∧ it ∈ fp ∧ ∀ c, c ∈ fp → c = it ∨ ∃ o, H c = some o
  | .lst a, xs, hq, hi => by
    have hs : SqL X.K H a xs := .inl hq
    obtain ⟨its, rv, p, _⟩ := I.list hs
    have hsome : ∃ o, H a = some o := hq.elim (fun z => ⟨_, z⟩) fun ⟨o, z⟩ => ⟨_, z⟩
    have hne : a ≠ it := fun z => by obtain ⟨o, e⟩ := hsome; rw [z, hit] at e; cases e
    have D := Draws.list (prog := X.prog) (w := X.w) (A := A) hh it a hne its.toArray
    have hl : its.toArray.size = xs.length := by rw [List.size_toArray, ← rv.length]
    rw [hl] at D
    refine ⟨_, _, _, D, ⟨hi, p.isList⟩, fun j h z => z.1, fun j v z => ?_, by simp, fun c hc => ?_⟩
    · have z' : its[j]? = some v := by simpa using z
      cases e : xs[j]? with
      | none => rw [rv.none_of e] at z'; cases z'
      | some x =>
        obtain ⟨u, hu, ru⟩ := rv.get e
        rw [z'] at hu
        exact ⟨x, rfl, Option.some.inj hu ▸ ru⟩
    · have e' : c = it ∨ c = a := by simpa using hc
      exact e'.elim .inl fun z => .inr (by rw [z]; exact hsome)
  | .tup a, xs, hq, hi => by
    have hs : SqT X.K H a xs := .inl hq
    obtain ⟨its, rv, p, _⟩ := I.tuple hs
    have hsome : ∃ o, H a = some o := hq.elim (fun z => ⟨_, z⟩) fun ⟨o, z⟩ => ⟨_, z⟩
    have hne : a ≠ it := fun z => by obtain ⟨o, e⟩ := hsome; rw [z, hit] at e; cases e
    have D := Draws.tuple (prog := X.prog) (w := X.w) (A := A) hh it a hne its.toArray
    have hl : its.toArray.size = xs.length := by rw [List.size_toArray, ← rv.length]
    rw [hl] at D
    refine ⟨_, _, _, D, ⟨hi, show s.heap.IsTuple a its.toArray from p⟩, fun j h z => z.1, fun j v z => ?_, by simp, fun c hc => ?_⟩
    · have z' : its[j]? = some v := by simpa using z
      cases e : xs[j]? with
      | none => rw [rv.none_of e] at z'; cases z'
      | some x =>
        obtain ⟨u, hu, ru⟩ := rv.get e
        rw [z'] at hu
        exact ⟨x, rfl, Option.some.inj hu ▸ ru⟩
    · have e' : c = it ∨ c = a := by simpa using hc
      exact e'.elim .inl fun z => .inr (by rw [z]; exact hsome)
  | .txt z, xs, hq, ⟨t, hi⟩ => by
    subst hq
    have D := Draws.text (prog := X.prog) (w := X.w) (A := A) hh it z t
    have hl : z.cps.size = (signs z).length := by simp [signs]
    rw [hl] at D
    refine ⟨_, _, _, D, hi, fun j h q => ⟨t, q⟩, fun j v q => ?_, by simp, fun c hc => ?_⟩
    · obtain ⟨c, u, e, rfl⟩ := q
      refine ⟨.str ⟨#[c]⟩, ?_, u, rfl⟩
      unfold signs
      rw [List.getElem?_map, Array.getElem?_toList, e]
      rfl
    · exact .inl (by simpa using hc)
def ItzX (q1 q2 : Sq) : It :=
  ⟨fun i H => ∃ (xs ys : List V) (x y : V), q1.Is H xs ∧ q2.Is H ys ∧ xs[i]? = some x ∧ ys[i]? = some y,
    fun i H v H' => ∃ T x y, v = .ref T ∧ H T = none ∧ H' = upd H T (.tup [x, y]) ∧ (∀ xs, q1.Is H xs → xs[i]? = some x) ∧ ∀ ys, q2.Is H ys → ys[i]? = some y,
    fun i H => ∃ xs ys : List V, q1.Is H xs ∧ q2.Is H ys ∧ i = min xs.length ys.length⟩
/-- the cells of a zip, each another -/
structure Z5 (z TI TO i1 i2 : Addr) : Prop where
  a1 : TI ≠ z
  a2 : TO ≠ z
  a3 : TI ≠ TO
  a4 : TI ≠ i1
  a5 : TI ≠ i2
  a6 : z ≠ i1
  a7 : z ≠ i2
  a8 : TO ≠ i1
  a9 : TO ≠ i2
  a10 : i1 ≠ i2
theorem zsep {z TI TO i1 i2 : Addr} (Z : Z5 z TI TO i1 i2) {H : Hp} {fp1 fp2 : List Addr} (hz : H z = none) (hT : H TO = none) (h1 : H i1 = none) (h2 : H i2 = none) (m1 : i1 ∈ fp1) (m2 : i2 ∈ fp2)
    (s1 : ∀ c, c ∈ fp1 → c = i1 ∨ ∃ o, H c = some o) (s2 : ∀ c, c ∈ fp2 → c = i2 ∨ ∃ o, H c = some o) : ZipSep2 z TI TO i1 i2 fp1 fp2 := by
  have no : ∀ {c : Addr}, H c = none → ¬ ∃ o, H c = some o := fun e ⟨o, e'⟩ => by rw [e] at e'; cases e'
  exact ⟨Z.a1, Z.a2, Z.a3, Z.a4, m1, fun m => (s1 _ m).elim Z.a6 (no hz), fun m => (s1 _ m).elim Z.a8 (no hT), Z.a5, m2, fun m => (s2 _ m).elim Z.a7 (no hz), fun m => (s2 _ m).elim Z.a9 (no hT),
    fun m => (s2 _ m).elim Z.a10 (no h1), fun m => (s1 _ m).elim (Ne.symm Z.a10) (no h2)⟩
theorem mem45 {c z TI TO i1 i2 : Addr} (m : c ∈ [z, TO, i1, i2]) : c ∈ [z, TI, TO, i1, i2] := by
  have e' : c = z ∨ c = TO ∨ c = i1 ∨ c = i2 := by simpa using m
  rcases e' with h | h | h | h <;> simp [h]
theorem turn_zipX {P : Program} {w : World} {K : PySem.W.Frag} {elts : List Expr} {kk : Nat} {tpos : Pos} {q1 q2 : Sq} {z TI TO i1 i2 : Addr} (Z : Z5 z TI TO i1 i2) :
    Turn P w K (.Tuple elts kk tpos) (ItzX q1 q2) [z, TI, TO, i1, i2] z (fun i h => IsZip h z TI TO .none ∧ IsTupOf2 h TI (.ref i1) (.ref i2) ∧ (∃ x y, IsTupOf2 h TO x y) ∧ q1.it h i i1 ∧ q2.it h i i2) where
  mem := by simp
  obj := fun i h st c hc => by
    obtain ⟨hz, hTI, ⟨x, y, hTO⟩, h1, h2⟩ := st
    have e' : c = z ∨ c = TI ∨ c = TO ∨ c = i1 ∨ c = i2 := by simpa using hc
    rcases e' with q | q | q | q | q
    · rw [q]; exact ⟨_, hz, fun v q => nomatch q⟩
    · rw [q]; exact ⟨_, hTI, fun v q => nomatch q⟩
    · rw [q]; exact ⟨_, hTO, fun v q => nomatch q⟩
    · rw [q]; exact Sq.lt h1
    · rw [q]; exact Sq.lt h2
  keep := fun i h h' st k => by
    obtain ⟨hz, hTI, ⟨x, y, hTO⟩, h1, h2⟩ := st
    exact ⟨k z (by simp) _ hz, k TI (by simp) _ hTI, ⟨x, y, k TO (by simp) _ hTO⟩, Sq.at (fun o q => k i1 (by simp) o q) h1, Sq.at (fun o q => k i2 (by simp) o q) h2⟩
  item := by
    intro X hP hw hK hc i pins s σ H E I hf st hg
    subst hP hw hK
    obtain ⟨hz, hTI, hTO, h1, h2⟩ := st
    obtain ⟨xs, ys, x, y, hqx, hqy, hx, hy⟩ := hg
    have hd : X.A.in1.handled = none := I.ok.hd hc
    have n0 : ∀ c, c ∈ [z, TI, TO, i1, i2] → H c = none := fun c hc => (hf c hc).1
    obtain ⟨fp1, P1, S1, D1, t1, k1, p1, m1, b1⟩ := draws_of I hd (n0 i1 (by simp)) hqx h1
    obtain ⟨fp2, P2, S2, D2, t2, k2, p2, m2, b2⟩ := draws_of I hd (n0 i2 (by simp)) hqy h2
    have W := WalksT.zipD2 (zsep Z (n0 z (by simp)) (n0 TO (by simp)) (n0 i1 (by simp)) (n0 i2 (by simp)) m1 m2 b1 b2) D1 D2
    have hlt : i < min xs.length ys.length := by
      have a := (List.getElem?_eq_some_iff.mp hx).1
      have b := (List.getElem?_eq_some_iff.mp hy).1
      omega
    refine W.item i s _ _ hlt ⟨hz, hTI, hTO, t1, t2⟩ fun T vals h' tk hP hT0 hT hM hk => ⟨_, rfl, W.go elts kk tpos i T _ _ _ hM fun h'' hS hk' => ?_⟩
    obtain ⟨u1, u2, hp1, hp2, rfl⟩ := hP
    obtain ⟨x', e1, r1⟩ := p1 i u1 hp1
    obtain ⟨y', e2, r2⟩ := p2 i u2 hp2
    rw [hx] at e1
    rw [hy] at e2
    cases e1
    cases e2
    have ap := W.apart i T _ hM
    have hT2 : h''.IsTuple T #[u1, u2] := hT.at fun o q => hk' T o ap q
    have new : ObjOk X.prog X.w (upd H T (.tup [x, y])) h'' T (.tup [x, y]) :=
      ⟨by show 2 ≤ sizeLine; decide, [u1, u2], .cons r1 (.cons r2 .nil), hT2⟩
    have I1 : Inv X pins σ (upd H T (.tup [x, y])) { s with heap := h'', toks := tk } :=
      I.turnedNew (ch := [z, TI, TO, i1, i2]) (fun c o hb q => hk' c o (fun m => hb (mem45 m)) (hk c o (fun m => hb (mem45 m)) q)) hf hT0 new
    refine ⟨.ref T, _, I1, rfl, ⟨T, x, y, rfl, I.hok.fresh hT0, rfl, fun l hl => by rw [Sq.inj hl hqx]; exact hx, fun l hl => by rw [Sq.inj hl hqy]; exact hy⟩, ?_, fun c hcm => ?_⟩
    · obtain ⟨z1, z2, z3, z4, z5⟩ := hS
      exact ⟨z1, z2, z3, k1 _ _ z4, k2 _ _ z5⟩
    · have hne : c ≠ T := fun e => by
        have q := n0 c hcm
        have lt : c < s.heap.objs.size := by
          have e' : c = z ∨ c = TI ∨ c = TO ∨ c = i1 ∨ c = i2 := by simpa using hcm
          rcases e' with q | q | q | q | q
          · rw [q]; exact Heap.lt_size hz
          · rw [q]; exact Heap.lt_size hTI
          · rw [q]; obtain ⟨_, _, w⟩ := hTO; exact Heap.lt_size w
          · rw [q]; obtain ⟨_, w, _⟩ := Sq.lt h1; exact Heap.lt_size w
          · rw [q]; obtain ⟨_, w, _⟩ := Sq.lt h2; exact Heap.lt_size w
        rw [e] at lt
        exact absurd (Nat.lt_of_lt_of_le lt hT0) (Nat.lt_irrefl _)
      rw [upd_ne hne]
      exact n0 c hcm
  done := by
    intro X hP hw hK hc i pins s σ H E I hf st hg
    subst hP hw hK
    obtain ⟨hz, hTI, hTO, h1, h2⟩ := st
    obtain ⟨xs, ys, hqx, hqy, rfl⟩ := hg
    have hd : X.A.in1.handled = none := I.ok.hd hc
    have n0 : ∀ c, c ∈ [z, TI, TO, i1, i2] → H c = none := fun c hc => (hf c hc).1
    obtain ⟨fp1, P1, S1, D1, t1, k1, p1, m1, b1⟩ := draws_of I hd (n0 i1 (by simp)) hqx h1
    obtain ⟨fp2, P2, S2, D2, t2, k2, p2, m2, b2⟩ := draws_of I hd (n0 i2 (by simp)) hqy h2
    have W := WalksT.zipD2 (zsep Z (n0 z (by simp)) (n0 TO (by simp)) (n0 i1 (by simp)) (n0 i2 (by simp)) m1 m2 b1 b2) D1 D2
    exact W.done s _ _ ⟨hz, hTI, hTO, t1, t2⟩ fun h' tk hk => ⟨rfl, I.turnedL (t' := tk) (ch := [z, TI, TO, i1, i2]) (fun c o hb q => hk c o (fun m => hb (mem45 m)) q) hf⟩
  self := fun A i s Q E st h => wpAny_pyIter_zip st.1 h
def Sq.val (t : Tok) : Sq → Value
  | .lst a => .ref a
  | .tup a => .ref a
  | .txt z => .str z t
/-- its iterator, made anew -/
theorem begins_of {X : Cx} {pins : List (Addr × Obj)} {σ : L2.St} {H : Hp} {s : Shared} (I : Inv X pins σ H s) : ∀ {q : Sq} {xs : List V} {u : Value}, q.Is H xs → RelV q.v u →
    ∃ (o : Obj) (C : Heap → Prop), Begins u o C ∧ C s.heap ∧ ∀ (h' : Heap) (N : Addr), h'.get? N = some o → q.it h' 0 N
  | .lst a, xs, u, hq, r => by
    cases r
    obtain ⟨its, rv, p, _⟩ := I.list (show SqL X.K H a xs from .inl hq)
    exact ⟨_, _, begins_list a its.toArray, p.isList, fun h' N e => ⟨_, e, rfl, rfl⟩⟩
  | .tup a, xs, u, hq, r => by
    cases r
    obtain ⟨its, rv, p, _⟩ := I.tuple (show SqT X.K H a xs from .inl hq)
    exact ⟨_, _, begins_tuple a its.toArray, (show s.heap.IsTuple a its.toArray from p), fun h' N e => ⟨_, e, rfl, rfl⟩⟩
  | .txt z, xs, u, hq, r => by
    obtain ⟨t, rfl⟩ := (show ∃ t, u = Value.str z t from r)
    exact ⟨_, _, begins_text z t, trivial, fun h' N e => ⟨t, _, e, rfl, rfl⟩⟩
def iZipX (ta : TA) : TI := fun σ H R => ta σ H fun vs H1 => ∃ (q1 q2 : Sq) (xs ys : List V), vs = [q1.v, q2.v] ∧ q1.Is H1 xs ∧ q2.Is H1 ys ∧ R (ItzX q1 q2) H1
theorem pi_zipX {X : Cx} {e e2 : Expr} {ta : TA} {p pos tpos : Pos} {elts : List Expr} {kk : Nat} (hg : Gl X "zip") (hm : X.mg "zip" = none) (ha : PA X [e, e2] ta)
    (hs : starEach [e, e2] X.env = (false, eval e X.env) :: starEach [e2] X.env := by rfl) (hpl : (backTo pos (starEach [e2] X.env)).any (·.1) = false := by rfl) :
    PI X (.Tuple elts kk tpos) (.Call (.Name "zip" p) [e, e2] [] pos) (iZipX ta) := by
  refine ⟨fun pins s σ H R I h => ?_⟩
  refine Call_ (ld_blt I hg hm PyProof.Rows.boot_zip (PyProof.Rows.callWith_type1 (thn (ha.run pos pins s σ H _ I h) fun us s1 ⟨vs, H1, I1, r1, q1⟩ => ?_) hs hpl))
  obtain ⟨q1, q2, xs, ys, ex, hqx, hqy, q⟩ := q1
  subst ex
  cases r1 with
  | cons r rr =>
    cases rr with
    | cons r' rr =>
      cases rr
      have fresh5 : ∀ c, c ∈ [s1.heap.objs.size + 4, s1.heap.objs.size + 2, s1.heap.objs.size + 3, s1.heap.objs.size, s1.heap.objs.size + 1] → FpOk X pins H1 c := fun c hcm => by
        have e' : c = s1.heap.objs.size + 4 ∨ c = s1.heap.objs.size + 2 ∨ c = s1.heap.objs.size + 3 ∨ c = s1.heap.objs.size ∨ c = s1.heap.objs.size + 1 := by simpa using hcm
        have hle : s1.heap.objs.size ≤ c := by
          rcases e' with z | z | z | z | z
          · rw [z]; exact Nat.le_add_right _ _
          · rw [z]; exact Nat.le_add_right _ _
          · rw [z]; exact Nat.le_add_right _ _
          · rw [z]; exact Nat.le_refl _
          · rw [z]; exact Nat.le_add_right _ _
        exact I1.fpOk hle (I1.hok.fresh hle)
      obtain ⟨o1, C1, B1, c1, g1⟩ := begins_of I1 hqx r
      obtain ⟨o2, C2, B2, c2, g2⟩ := begins_of I1 hqy r'
      refine zip_begins2 B1 B2 c1 c2 fun h' hz hTI hTO e1 e2 hsz hk => wpAny_pyIter_zip hz ?_
      have I2 : Inv X pins σ H1 { s1 with heap := h' } := I1.kept (t' := s1.toks) hk
      have ne : ∀ {i j : Nat}, i ≠ j → (s1.heap.objs.size + i : Nat) ≠ s1.heap.objs.size + j := fun h e => h (Nat.add_left_cancel e)
      exact ⟨s1.heap.objs.size + 4, [s1.heap.objs.size + 4, s1.heap.objs.size + 2, s1.heap.objs.size + 3, s1.heap.objs.size, s1.heap.objs.size + 1], _, _, H1, rfl, I2,
        turn_zipX (q1 := q1) (q2 := q2) ⟨ne (by decide), ne (by decide), ne (by decide), ne (j := 0) (by decide), ne (by decide), ne (j := 0) (by decide), ne (by decide), ne (j := 0) (by decide), ne (by decide), ne (i := 0) (by decide)⟩, ⟨hz, hTI, ⟨_, _, hTO⟩, g1 _ _ e1, g2 _ _ e2⟩, fresh5, q⟩
theorem walk_zipX {q1 q2 : Sq} {xs ys : List V} {n : Nat} (hn : n = min xs.length ys.length) : Walk (ItzX q1 q2) n (fun H => q1.Is H xs ∧ q2.Is H ys) (YPair (fun i => xs[i]?) (fun i => ys[i]?)) := by
  subst hn
  refine ⟨fun i _ hi q => ?_, fun _ q => ⟨xs, ys, q.1, q.2, rfl⟩, fun i H v H' _ q y => ?_⟩
  · have h1 : i < xs.length := by omega
    have h2 : i < ys.length := by omega
    exact ⟨xs, ys, xs[i], ys[i], q.1, q.2, by simp [h1], by simp [h2]⟩
  · obtain ⟨T, x, z, h1, h2, h3, h4, h5⟩ := y
    exact ⟨T, x, z, h1, h2, h3, h4 xs q.1, h5 ys q.2⟩
/-! enumerate -/
def IteX (q : Sq) : It :=
  ⟨fun i H => ∃ (xs : List V) (x : V), q.Is H xs ∧ xs[i]? = some x,
    fun i H v H' => ∃ T x, v = .ref T ∧ H T = none ∧ H' = upd H T (.tup [.int (i : Nat), x]) ∧ ∀ xs, q.Is H xs → xs[i]? = some x,
    fun i H => ∃ xs : List V, q.Is H xs ∧ i = xs.length⟩
theorem turn_enumX {P : Program} {w : World} {K : PySem.W.Frag} {elts : List Expr} {kk : Nat} {tpos : Pos} {q : Sq} {e it : Addr} (hei : e ≠ it) :
    Turn P w K (.Tuple elts kk tpos) (IteX q) [e, it] e (fun i h => (∃ old, IsEnum h e it ((i : Nat) : Int) old) ∧ q.it h i it) where
  mem := by simp
  obj := fun i h st c hc => by
    obtain ⟨⟨old, he⟩, h1⟩ := st
    have e' : c = e ∨ c = it := by simpa using hc
    rcases e' with q | q
    · rw [q]; exact ⟨_, he, fun v q => nomatch q⟩
    · rw [q]; exact Sq.lt h1
  keep := fun i h h' st k => by
    obtain ⟨⟨old, he⟩, h1⟩ := st
    exact ⟨⟨old, k e (by simp) _ he⟩, Sq.at (fun o q => k it (by simp) o q) h1⟩
  item := by
    intro X hP hw hK hc i pins s σ H E I hf st hg
    subst hP hw hK
    obtain ⟨he, h1⟩ := st
    obtain ⟨xs, x, hqx, hx⟩ := hg
    have hd : X.A.in1.handled = none := I.ok.hd hc
    have n0 : ∀ c, c ∈ [e, it] → H c = none := fun c hc => (hf c hc).1
    obtain ⟨fp1, P1, S1, D1, t1, k1, p1, m1, b1⟩ := draws_of I hd (n0 it (by simp)) hqx h1
    have hef : e ∉ fp1 := fun m => (b1 _ m).elim hei fun ⟨o, z⟩ => by rw [n0 e (by simp)] at z; cases z
    have W := WalksT.enumFrom 0 D1 e hei hef m1
    have hlt : i < xs.length := (List.getElem?_eq_some_iff.mp hx).1
    have he0 : ∃ old, IsEnum s.heap e it (0 + (i : Int)) old := by rw [Int.zero_add]; exact he
    refine W.item i s _ _ hlt ⟨he0, t1⟩ fun T vals h' tk hP hT0 hT hM hk => ⟨_, rfl, W.go elts kk tpos i T _ _ _ hM fun h'' hS hk' => ?_⟩
    obtain ⟨t, u1, hp1, rfl⟩ := hP
    obtain ⟨x', e1, r1⟩ := p1 i u1 hp1
    rw [hx] at e1
    cases e1
    have ap := W.apart i T _ hM
    have hT2 : h''.IsTuple T #[.int (0 + (i : Int)) t, u1] := hT.at fun o q => hk' T o ap q
    rw [Int.zero_add] at hT2
    have new : ObjOk X.prog X.w (upd H T (.tup [.int (i : Nat), x])) h'' T (.tup [.int (i : Nat), x]) :=
      ⟨by show 2 ≤ sizeLine; decide, [.int i t, u1], .cons ⟨_, rfl⟩ (.cons r1 .nil), hT2⟩
    have I1 : Inv X pins σ (upd H T (.tup [.int (i : Nat), x])) { s with heap := h'', toks := tk } :=
      I.turnedNew (ch := [e, it]) (fun c o hb q => hk' c o hb (hk c o hb q)) hf hT0 new
    refine ⟨.ref T, _, I1, rfl, ⟨T, x, rfl, I.hok.fresh hT0, rfl, fun l hl => by rw [Sq.inj hl hqx]; exact hx⟩, ?_, fun c hcm => ?_⟩
    · obtain ⟨⟨old, z1⟩, z2⟩ := hS
      refine ⟨⟨old, ?_⟩, k1 _ _ z2⟩
      rw [Int.zero_add] at z1
      exact z1
    · have hne : c ≠ T := fun e0 => by
        have lt : c < s.heap.objs.size := by
          have e' : c = e ∨ c = it := by simpa using hcm
          rcases e' with q | q
          · rw [q]; obtain ⟨_, z⟩ := he; exact Heap.lt_size z
          · rw [q]; obtain ⟨_, w, _⟩ := Sq.lt h1; exact Heap.lt_size w
        rw [e0] at lt
        exact absurd (Nat.lt_of_lt_of_le lt hT0) (Nat.lt_irrefl _)
      rw [upd_ne hne]
      exact n0 c hcm
  done := by
    intro X hP hw hK hc i pins s σ H E I hf st hg
    subst hP hw hK
    obtain ⟨he, h1⟩ := st
    obtain ⟨xs, hqx, rfl⟩ := hg
    have hd : X.A.in1.handled = none := I.ok.hd hc
    have n0 : ∀ c, c ∈ [e, it] → H c = none := fun c hc => (hf c hc).1
    obtain ⟨fp1, P1, S1, D1, t1, k1, p1, m1, b1⟩ := draws_of I hd (n0 it (by simp)) hqx h1
    have hef : e ∉ fp1 := fun m => (b1 _ m).elim hei fun ⟨o, z⟩ => by rw [n0 e (by simp)] at z; cases z
    have W := WalksT.enumFrom 0 D1 e hei hef m1
    have he0 : ∃ old, IsEnum s.heap e it (0 + (xs.length : Int)) old := by rw [Int.zero_add]; exact he
    exact W.done s _ _ ⟨he0, t1⟩ fun h' tk hk => ⟨rfl, I.turnedL (t' := tk) (ch := [e, it]) (fun c o hb q => hk c o hb q) hf⟩
  self := fun A i s Q E st h => let ⟨⟨_, he⟩, _⟩ := st; wpAny_pyIter_enum he h
def iEnumX (ta : TA) : TI := fun σ H R => ta σ H fun vs H1 => ∃ (q : Sq) (xs : List V), vs = [q.v] ∧ q.Is H1 xs ∧ R (IteX q) H1
theorem pi_enumX {X : Cx} {e : Expr} {ta : TA} {p pos tpos : Pos} {elts : List Expr} {kk : Nat} (hg : Gl X "enumerate") (hm : X.mg "enumerate" = none) (ha : PA X [e] ta) (hs : starEach [e] X.env = (false, eval e X.env) :: starEach [] X.env := by rfl) (hpl : (backTo pos (starEach [] X.env)).any (·.1) = false := by rfl) :
    PI X (.Tuple elts kk tpos) (.Call (.Name "enumerate" p) [e] [] pos) (iEnumX ta) := by
  refine ⟨fun pins s σ H R I h => ?_⟩
  refine Call_ (ld_blt I hg hm PyProof.Rows.boot_enumerate (PyProof.Rows.callWith_type1 (thn (ha.run pos pins s σ H _ I h) fun us s1 ⟨vs, H1, I1, r1, q1⟩ => ?_) hs hpl))
  obtain ⟨q, xs, ex, hqx, hR⟩ := q1
  subst ex
  cases r1 with
  | cons r rr =>
    cases rr
    have fresh2 : ∀ c, c ∈ [s1.heap.objs.size + 1, s1.heap.objs.size] → FpOk X pins H1 c := fun c hcm => by
      have e' : c = s1.heap.objs.size + 1 ∨ c = s1.heap.objs.size := by simpa using hcm
      have hle : s1.heap.objs.size ≤ c := by
        rcases e' with z | z
        · rw [z]; exact Nat.le_add_right _ _
        · rw [z]; exact Nat.le_refl _
      exact I1.fpOk hle (I1.hok.fresh hle)
    obtain ⟨o1, C1, B1, c1, g1⟩ := begins_of I1 hqx r
    refine mk_enum_begins B1 c1 fun h' he e1 hsz hk => wpAny_pyIter_enum he ?_
    have I2 : Inv X pins σ H1 { s1 with heap := h' } := I1.kept (t' := s1.toks) hk
    exact ⟨s1.heap.objs.size + 1, [s1.heap.objs.size + 1, s1.heap.objs.size], _, _, H1, rfl, I2, turn_enumX (q := q) (Nat.succ_ne_self _), ⟨⟨_, he⟩, g1 _ _ e1⟩, fresh2, hR⟩
theorem walk_enumX {q : Sq} {xs : List V} : Walk (IteX q) xs.length (fun H => q.Is H xs) (YPair (fun i => some (.int (i : Nat))) (fun i => xs[i]?)) := by
  refine ⟨fun i _ hi q => ⟨xs, xs[i], q, by simp [hi]⟩, fun _ q => ⟨xs, q, rfl⟩, fun i H v H' _ q y => ?_⟩
  obtain ⟨T, x, h1, h2, h3, h4⟩ := y
  exact ⟨T, .int (i : Nat), x, h1, h2, h3, rfl, h4 xs q⟩
end Mk

-- R3
set_option Elab.async false
set_option linter.all false
set_option maxRecDepth 100000
set_option maxHeartbeats 4000000
namespace Mk
open PySem PySem.Spec PyProof.Rows L2
/-! ### d.values(), summed or listed -/
def valsO (p d : Addr) : HO := .ext fun h => h.IsValuesView p d
theorem valsO_ok {P : Program} {w : World} {H : Hp} {h : Heap} {p d : Addr} (e : h.get? p = some { cls := .type "dict_values", data := .fields #[.ref d] }) : ObjOk P w H h p (valsO p d) :=
  ⟨⟨_, e, rfl, rfl⟩, ⟨_, e⟩, fun h1 h2 x k => let ⟨o, ho, r⟩ := x; ⟨o, k o ho, r⟩⟩
section
variable {X : Cx}
def rVals : V → List V → Hp → VK → Prop := fun x xs H Q => ∃ (a : Addr) (kvs : List (Key × V)), x = .ref a ∧ xs = [] ∧ H a = some (.dK kvs) ∧ ∀ p, H p = none → Q (.ref p) (upd H p (valsO p a))
theorem mt_vals : MtR X "dict.values" rVals := by
  intro pins s σ H x xs v us Q I rx rxs h
  obtain ⟨a, kvs, rfl, rfl, ha, q⟩ := h
  cases rx
  cases rxs
  obtain ⟨z, hd, vs, rel, dd⟩ := dk_of I.hok ha
  have hf : H s.heap.objs.size = none := I.hok.fresh (Nat.le_refl _)
  refine call_meetsIn PySem.F.slot_dict_values dd.typeIs PySem.F.entry_dict_values (PySem.F.args_dict_values_1 _) (meets_dict_values (mixKind X.prog X.w) a hd) ⟨⟨vs, dd⟩, ?_⟩
  exact ⟨.ref s.heap.objs.size, upd H s.heap.objs.size (valsO s.heap.objs.size a), I.laid (t' := s.toks) (fun b u e => Heap.get?_push_of_some _ e) (Nat.le_refl _) (valsO_ok (Heap.get?_push_size _ rfl)), rfl, q _ hf⟩
theorem preSum_list : ∀ (ns : List Int), preSum (fun i => (ns[i]?).getD 0) ns.length = ns.sum
  | [] => rfl
  | n :: r => by
    show preSum _ (r.length + 1) = _
    rw [PySem.W.kdu_shift, List.sum_cons, ← preSum_list r]
    rfl
theorem kv_at : ∀ {kvs : List (Key × V)} {vs : List (Key × Value)} {ns : List Int} {i : Nat} {k : Key} {u : Value}, KV kvs vs → kvs.map (·.2) = ns.map V.int → vs[i]? = some (k, u) → ∃ t, u = .int ((ns[i]?).getD 0) t
  | _, _, ns, i, k, u, .nil, _, h => by simp at h
  | _, _, [], i, k, u, .cons _ _, e, h => by simp at e
  | _, _, n :: r, 0, k, u, .cons a _, e, h => by
    simp only [List.map_cons, List.cons.injEq] at e
    have h := Option.some.inj h
    subst h
    have := a.2
    rw [e.1] at this
    exact this
  | _, _, n :: r, i + 1, k, u, .cons _ t, e, h => by
    simp only [List.map_cons, List.cons.injEq] at e
    simpa using kv_at (i := i) t e.2 (by simpa using h)
def rSumV : List V → Hp → VK → Prop := fun xs H Q => ∃ (v d : Addr) (kvs : List (Key × V)) (ns : List Int), xs = [.ref v] ∧ H v = some (valsO v d) ∧ H d = some (.dK kvs) ∧ kvs.map (·.2) = ns.map V.int ∧ Q (.int ns.sum) H
theorem cr_sumV (hc : X.calm = true) : CallR X (.builtin "sum") rSumV := by
  intro pins s σ H xs us Q I r h
  obtain ⟨v, d, kvs, ns, rfl, hv, hd, e, q⟩ := h
  obtain rfl := Vals.ref1 r
  have view : s.heap.IsValuesView v d := (show ObjOk X.prog X.w H s.heap v (valsO v d) from I.hok v _ hv).1
  obtain ⟨z, lo, vs, rel, dd⟩ := dk_of I.hok hd
  obtain ⟨ep, hat⟩ := dd.dictAt
  have K := PySem.W.kdl_values (prog := X.prog) (w := X.w) (r := v) (d := d) (knd := mixKind X.prog X.w) (kvs := vs) (ep := ep)
  have hh : X.A.handled = none := I.ok.hd hc
  have hl : vs.length = ns.length := by
    have := congrArg List.length e
    rw [List.length_map, List.length_map] at this
    rw [← this]
    exact (Paired.length rel).symm
  refine call_sum_walkAnyS ?_
  obtain ⟨oI, S, hit, W, st⟩ := K.iter X.A.in1 s hh ⟨view, hat⟩
  refine hit _ _ ⟨s.heap.objs.size, _, _, _, vs.length, _, _, fun i => (ns[i]?).getD 0, rfl, W.toS, st, fun b hb => ?_, fun i u hu => ?_, fun s' t' hm => ?_⟩
  · show b < (s.heap.push oI).objs.size
    rw [size_push']
    rcases List.mem_cons.mp hb with e | hb
    · rw [e]; exact Nat.lt_succ_self _
    · rw [List.mem_singleton.mp hb]; exact Nat.lt_succ_of_lt (K.there _ ⟨view, hat⟩).2
  · obtain ⟨k, hk⟩ := hu
    exact kv_at rel e hk
  · have hk : ∀ b o, s.heap.get? b = some o → s'.heap.get? b = some o := fun b o e =>
      hm.heap b o (fun hI => absurd (Heap.lt_size e) (by rw [List.mem_singleton.mp hI]; exact Nat.lt_irrefl _)) (Heap.get?_push_of_some _ e)
    rw [Moved.eq_with hm]
    rw [hl, preSum_list]
    exact ⟨.int _, H, I.kept hk, ⟨_, rfl⟩, q⟩
end
end Mk

-- R4
set_option Elab.async false
set_option linter.all false
set_option maxRecDepth 100000
set_option maxHeartbeats 4000000
namespace Mk
open PySem PySem.Spec PyProof.Rows L2
/-! ### sorted(set(zs)) of texts: what the set is, through all adds -/
def sTx (v : Value) : Str := match v with
  | .str k _ => k
  | _ => Str.empty
theorem tail_ep (ep : Nat) (es : Array (Int × Value)) (t : SetTable) (b : Bool) : (Froz.tailTx ep es t b).1.toList.Perm es.toList ∧ (Ris t.place.toList → Ris (Froz.tailTx ep es t b).2.2.place.toList) ∧ (Froz.tailTx ep es t b).2.2.led = t.led := by
  unfold Froz.tailTx
  split
  · exact ⟨relayAll_perm _ _ _, fun _ => relayAll_ris _ _ _, relayAll_led _ _ _⟩
  · exact ⟨.refl _, id, rfl⟩
theorem add_all (h : Int) (v : Value) (D : Froz.SD) : (Froz.addTx h v D).1.toList.Perm (D.1.toList ++ [(h, v)]) ∧ (Ris D.2.2.place.toList → Ris (Froz.addTx h v D).2.2.place.toList) ∧ (Froz.addTx h v D).2.2.led = D.2.2.led := by
  have p := layNew_perm D.2.2 D.1 h v
  rw [Array.toList_push] at p
  have r := layNew_ris D.2.2 D.1 h v
  have l := layNew_led D.2.2 D.1 h v
  unfold Froz.addTx
  obtain ⟨a, b, c⟩ := tail_ep D.2.1 (layNew D.2.2 D.1 h v).1 (if (layNew D.2.2 D.1 h v).2.1.plain = true then { (layNew D.2.2 D.1 h v).2.1 with plain := false } else (layNew D.2.2 D.1 h v).2.1) (layNew D.2.2 D.1 h v).2.2.1
  refine ⟨a.trans p, fun q => b ?_, c.trans ?_⟩
  · split
    · exact r q
    · exact r q
  · split
    · exact l
    · exact l
/-- the set of texts at a has the members ks -/
structure Tb (P : Program) (w : World) (h : Heap) (a : Addr) (ks : List Str) : Prop where
  ex : ∃ D : Froz.SD, h.get? a = some (Froz.sObj "set" D) ∧ Froz.TxOk P w D ks ∧ (D.1.toList.map fun e => sTx e.2).Perm ks ∧ (∀ e ∈ D.1.toList, ∃ k u, e.2 = .str k u) ∧ Ris D.2.2.place.toList ∧ (w.params.followText "set-order" = true ∨ D.2.2.led = true)
def TbO (P : Program) (w : World) (a : Addr) (ks : List Str) : HO := .ext fun h => Tb P w h a ks
section
variable {P : Program} {w : World} {A : Around} {E : Value → Shared → Prop} {s : Shared} {a : Addr} {ks : List Str}
theorem Tb.at {h h' : Heap} (T : Tb P w h a ks) (k : ∀ o, h.get? a = some o → h'.get? a = some o) : Tb P w h' a ks := let ⟨D, g, r⟩ := T.ex; ⟨D, k _ g, r⟩
theorem tbO_ok {H : Hp} {h : Heap} (T : Tb P w h a ks) : ObjOk P w H h a (TbO P w a ks) := ⟨T, let ⟨D, g, _⟩ := T.ex; ⟨_, g⟩, fun _ _ x k => Tb.at x k⟩
theorem tb_empty {h : Heap} (g : h.get? a = some { cls := .type "set", dict := none, data := .set #[] 0 (.fresh 0 0 (!w.params.followText "set-order")) }) : Tb P w h a [] := by
  refine ⟨(#[], 0, .fresh 0 0 (!w.params.followText "set-order")), g, Froz.TxOk.nil rfl, .refl _, fun e h => by simp at h, List.Pairwise.nil, ?_⟩
  cases h : w.params.followText "set-order"
  · exact .inr rfl
  · exact .inl rfl
/-- one add, be it new or not -/
theorem tb_add {k : Str} {u : Tok} {Q : Bool → Shared → Prop} (T : Tb P w s.heap a ks) (nd : ks.Nodup) (hb : ks.length + 1 < scanBound)
    (hQ : ∀ h' b ks', Heap.SameBut a s.heap h' → Tb P w h' a ks' → ks'.Nodup → ks'.length ≤ ks.length + 1 → (∀ j, j ∈ ks' ↔ j = k ∨ j ∈ ks) → Q b { s with heap := h' }) : wpAny (model P w) A (setAddHashed a (.str k u) (hashStr w k)) Q E s := by
  obtain ⟨D, g, F, pm, st, rs, ld⟩ := T.ex
  by_cases hk : k ∈ ks
  · have hsz : D.1.size = ks.length := F.sz
    have hb0 : D.1.size < scanBound := by omega
    have hkey : (strKind P w).is k (.str k u) = true := Froz.is_str k u
    have hd : (Froz.sObj "set" D).data = .set D.1 D.2.1 D.2.2 := rfl
    unfold setAddHashed setAddHashedIn
    refine wpAny_holding (wpAny_bind (wpAny_setState_of g hd F.fit ?_))
    dsimp only
    rw [byScan_of rfl hb0 F.el]
    simp only [↓reduceIte]
    unfold setAddByScan
    refine wpAny_bind (wpAny_bind (wpAny_rule (wpAny_bind (wpAny_setScan_of hkey g hd F.fit F.el ?_))))
    obtain ⟨e, he, q⟩ := (F.mem k).mp hk
    cases hf : List.findIdx? (fun e => (strKind P w).is k e.2) D.1.toList with
    | none =>
      have c := List.findIdx?_eq_none_iff.mp hf e he
      rw [q] at c
      cases c
    | some j =>
      dsimp only
      refine wpAny_pure (wpAny_pure ?_)
      exact hQ s.heap false ks (Heap.SameBut.refl a s.heap) T nd (Nat.le_succ _) fun j => ⟨.inr, fun z => z.elim (fun z => z ▸ hk) id⟩
  · refine Froz.add_x (l := ks) (D := D) g F hk hb ?_
    obtain ⟨p1, p2, p3⟩ := add_all (hashStr w k) (.str k u) D
    refine hQ _ true (k :: ks) (Heap.SameBut.update s.heap a _) ⟨_, Froz.get_upd _ g rfl, Froz.add_ok u F, ?_, fun e he => ?_, p2 rs, by rw [p3]; exact ld⟩ (List.nodup_cons.mpr ⟨hk, nd⟩) (Nat.le_refl _) fun j => List.mem_cons
    · refine (p1.map _).trans ?_
      rw [List.map_append, List.map_singleton]
      exact (List.perm_append_singleton _ _).trans (List.Perm.cons k pm)
    · rcases List.mem_append.mp (p1.mem_iff.mp he) with z | z
      · exact st e z
      · rw [List.mem_singleton.mp z]
        exact ⟨k, u, rfl⟩
theorem tb_loop {I : Addr} {fp wr : List Addr} {G : Array GenState → Array GenState → Prop} {n : Nat} {Pv : Nat → Value → Prop} {St : Nat → Shared → Prop} {R : Result → Shared → Prop}
    (W : WalksS P w A.in1 I fp wr G n Pv St) (hSf : a ∉ fp) (zs : List Str) (hn : n = zs.length) (hb : zs.length + 1 < scanBound) (hval : ∀ i v, Pv i v → ∃ k t, zs[i]? = some k ∧ v = .str k t) :
    ∀ (m i : Nat) (s : Shared), i + m = n → St i s → (∃ ks, Tb P w s.heap a ks ∧ ks.Nodup ∧ ks.length ≤ i ∧ ∀ j, j ∈ ks ↔ j ∈ zs.take i) →
      (∀ s' ks, Moved (a :: wr) G s s' → Tb P w s'.heap a ks → ks.Nodup → (∀ j, j ∈ ks ↔ j ∈ zs) → R (.ok (.ret .none)) s') →
      codeAny (model P w) A (.builtin "set.update.loop" ⟨[.ref a, .ref I], []⟩) R s := by
  have hSw : a ∉ wr := fun h => hSf (W.sub _ h)
  have hsub : ∀ b ∈ wr, b ∈ a :: wr := fun b hb => List.mem_cons_of_mem _ hb
  intro m
  induction m with
  | zero =>
    rintro i s hin hst ⟨ks, T, nd, hl, hm⟩ hR
    have hin : n = i := hin.symm
    subst hin
    refine codeAny_builtin F.entry_set_update_loop ?_
    rw [Around.under_plainId F.plain_set_update_loop _]
    show wpAny _ A.in1 (pyNext (.ref I) >>= _) _ _ s
    refine wpAny_bind (W.done s _ _ hst fun s' hmv => ?_)
    show wpAny _ A.in1 (ret Value.none) _ _ s'
    refine wpAny_pure (hR s' ks (hmv.mono hsub) (T.at fun o e => hmv.heap a o hSw e) nd fun j => ?_)
    rw [hm j, List.take_of_length_le (Nat.le_of_eq hn.symm)]
  | succ m ih =>
    rintro i s hin hst ⟨ks, T, nd, hl, hm⟩ hR
    refine codeAny_builtin F.entry_set_update_loop ?_
    rw [Around.under_plainId F.plain_set_update_loop _]
    show wpAny _ A.in1 (pyNext (.ref I) >>= _) _ _ s
    refine wpAny_bind (W.item i s _ _ (by omega) hst fun v s' hP hst' hmv => ?_)
    obtain ⟨z, t, hz, rfl⟩ := hval i v hP
    show wpAny _ A.in1 (holding [Value.str z t] (setAdd a (.str z t)) >>= _) _ _ s'
    refine wpAny_bind (wpAny_holding ?_)
    unfold setAdd
    refine wpAny_holding (wpAny_bind ((strKind P w).pyHash (k := z) (Froz.is_str _ _) ?_))
    refine tb_add (s := { s' with toks := s'.toks + 1 }) (T.at fun o e => hmv.heap a o hSw e) nd (by omega) fun h' b ks' sb T' nd' hl' hm' => ?_
    have oth : ∀ c o, c ≠ a → s'.heap.get? c = some o → h'.get? c = some o := fun c o hc e => by rw [sb.2 c hc]; exact e
    refine wpAny_pure ⟨plainId_quiet F.plain_set_update_loop _, ih (i + 1) _ (by omega) (W.frame _ s' _ _ hst' (Nat.le_succ _) fun c hc o e => oth c o (fun h => hSf (h ▸ hc)) e) ⟨ks', T', nd', by omega, fun j => ?_⟩ fun s'' k2 mv2 T2 n2 m2 => ?_⟩
    · rw [hm' j, hm j, List.take_add_one, hz]
      simp [List.mem_append, or_comm]
    · exact hR s'' k2 (Moved.trans W.gtrans ((hmv.mono hsub).then_heap (Nat.le_succ _) fun c o hc e => oth c o (fun h => hc (by rw [h]; exact List.mem_cons_self)) e) mv2) T2 n2 m2
abbrev set0 (w : World) : Obj := { cls := .type "set", dict := none, data := .set #[] 0 (.fresh 0 0 (!w.params.followText "set-order")) }
theorem strs_get : ∀ {us : List Value} {zs : List Str} {i : Nat} {v : Value}, StrsAre us zs → us[i]? = some v → ∃ k t, zs[i]? = some k ∧ v = .str k t
  | _, _, _, _, .nil, h => by simp at h
  | _, _, 0, _, .cons k t _, h => ⟨k, t, rfl, (Option.some.inj h).symm⟩
  | _, _, i + 1, v, .cons k t r, h => by
    obtain ⟨k2, t2, e, e2⟩ := strs_get (i := i) r (by simpa using h)
    exact ⟨k2, t2, by simpa using e, e2⟩
/-- set(l) -/
theorem set_of_texts {l : Addr} {items : Array Value} (zs : List Str) {Q : Value → Shared → Prop} (hh : A.handled = none) (hl : s.heap.IsList l items) (hi : StrsAre items.toList zs) (hb : zs.length + 1 < scanBound)
    (h : ∀ (h' : Heap) (tk : Nat) ks, Tb P w h' s.heap.objs.size ks → ks.Nodup → (∀ j, j ∈ ks ↔ j ∈ zs) → (∀ b o, s.heap.get? b = some o → h'.get? b = some o) → Q (.ref s.heap.objs.size) { s with heap := h', toks := tk }) :
    wpAny (model P w) A (call (.type "set") [.ref l]) Q E s := by
  have hsz : items.size = zs.length := by rw [← Array.length_toList, StrsAre.len_eq hi]
  have hval : ∀ (i : Nat) (v : Value), items[i]? = some v → ∃ k t, zs[i]? = some k ∧ v = .str k t := fun i v hv => strs_get hi (by rw [Array.getElem?_toList]; exact hv)
  obtain ⟨c, tl, hmro⟩ := F.called_set.mro
  have hmade := F.called_set.made
  have hsub := F.called_set.sub
  have hnt := F.called_set.notType
  have hcc := F.called_set.canCreate
  have hck := F.typeCall_set_1 (.ref l)
  refine wpAny_call (codeAny_of_tree ?_)
  show wpAny _ _ (callAny (.type "set") _) _ _ _
  refine wpAny_pure ⟨Code.quiet_builtin _ (by decide +kernel), codeAny_builtin F.entry_type_call ?_⟩
  rw [Around.under_plain (weight_type_call_type "set" [.ref l] []) rfl]
  repeat (any_goals (first | assumption | wp_step))
  refine codeAny_mono (code_set_led1 (.ref l) (E := E) (Q₁ := fun x s₁ => x = .ref s.heap.objs.size ∧ s₁ = { s with heap := s.heap.push (set0 w) }) ⟨rfl, rfl⟩) fun r s₁ hr => ?_
  match r, hr with
  | .error e, hr => exact hr
  | .ok .next, hr => exact hr.elim
  | .ok .brk, hr => exact hr.elim
  | .ok .cont, hr => exact hr.elim
  | .ok (.ret x), hr =>
    obtain ⟨rfl, rfl⟩ := hr
    have gS : (s.heap.push (set0 w)).get? s.heap.objs.size = some (set0 w) := Heap.get?_push_size _ rfl
    have gT : Shared.TypeIs { s with heap := s.heap.push (set0 w) } (.ref s.heap.objs.size) "set" := ⟨_, gS, rfl⟩
    have il := F.called_set.init.lookup
    have ib := F.called_set.init.bind (.ref s.heap.objs.size)
    repeat (any_goals (first | assumption | wp_step))
    refine codeAny_mono (codeAny_call_builtin (R := wants (fun r s₂ => r = .none ∧ ∃ h' tk ks, s₂ = { s with heap := h', toks := tk } ∧ Tb P w h' s.heap.objs.size ks ∧ ks.Nodup ∧ (∀ j, j ∈ ks ↔ j ∈ zs) ∧
        (∀ b o, s.heap.get? b = some o → h'.get? b = some o)) E) F.called_set.init.plain F.entry_set_init (check_set_init_1 gT ?_)) fun r₂ s₂ hr₂ => ?_
    · obtain ⟨⟨oc, od, oda, osl⟩, hol, hcl, nl, hdl⟩ := hl
      simp only at hcl hdl
      subst hcl hdl
      have hol' : (s.heap.push (set0 w)).get? l = some { cls := .type "list", dict := od, data := .seq items nl, slots := osl } := Heap.get?_push_of_some _ hol
      have k1 := F.sub_list_set
      have k2 := F.sub_list_frozenset
      have hne : (Value.type "list" == Value.type "dict") = false := by decide
      have hl1 : (s.heap.push (set0 w)).IsList l items := ⟨_, hol', rfl, nl, rfl⟩
      have lt0 : l < s.heap.objs.size := Heap.lt_size hol
      have z1 : (s.heap.push (set0 w)).objs.size = s.heap.objs.size + 1 := Heap.size_push ..
      unfold Builtin.«set.__init__» noKeywords Builtin.Frozenset.updateFrom
      generalize hPI : pyIter = PI
      wp_walk
      subst hPI
      refine wpAny_pyIter_list hl1 (wpAny_bind (wpAny_runValue ?_))
      refine tb_loop ((Walks.list (by simp [hh]) _ l (Nat.ne_of_lt (by rw [z1]; exact Nat.lt_succ_of_lt lt0)) items).toS) (by rw [z1]; exact fun z => (List.mem_cons.mp z).elim (fun z => Nat.ne_of_lt (Nat.lt_succ_self _) z) fun z => Nat.ne_of_gt lt0 (List.mem_singleton.mp z)) zs hsz hb hval items.size 0 _ (by omega)
        ⟨⟨_, Heap.get?_push_size _ rfl, rfl, rfl⟩, hl1.push _⟩ ⟨[], tb_empty (Heap.get?_push_of_some _ gS), List.nodup_nil, Nat.le_refl _, fun j => by simp⟩ fun s' ks mv T nd hm => ?_
      obtain ⟨h', g2, d', tk', os'⟩ := s'
      obtain rfl : g2 = s.gens := mv.gens
      obtain rfl : d' = s.drawn := mv.drawn
      obtain rfl : os' = s.os := mv.os
      show wpAny _ _ _ _ _ _
      refine wpAny_pure ?_
      show wpAny _ _ (ret Value.none) _ _ _
      refine wpAny_pure ⟨rfl, h', tk', ks, rfl, T, nd, hm, fun b o e => mv.heap b o ?_ (Heap.get?_push_of_some _ (Heap.get?_push_of_some _ e))⟩
      have lb := Heap.lt_size e
      rw [z1]
      exact fun z => (List.mem_cons.mp z).elim (fun z => Nat.ne_of_lt lb z) fun z => Nat.ne_of_lt (Nat.lt_succ_of_lt lb) (List.mem_singleton.mp z)
    · match r₂, hr₂ with
      | .error e, hr => exact hr
      | .ok .next, hr => exact hr.elim
      | .ok .brk, hr => exact hr.elim
      | .ok .cont, hr => exact hr.elim
      | .ok (.ret x), hr =>
        obtain ⟨rfl, h', tk, ks, rfl, T, nd, hm, kp⟩ := hr
        repeat (any_goals (first | assumption | wp_step))
        exact h _ _ _ T nd hm kp
theorem strs_sTx : ∀ {vs : List Value}, (∀ v ∈ vs, ∃ k u, v = .str k u) → StrsAre vs (vs.map sTx)
  | [], _ => .nil
  | v :: vs, h => by
    obtain ⟨k, u, rfl⟩ := h v List.mem_cons_self
    exact .cons k u (strs_sTx fun x hx => h x (List.mem_cons_of_mem _ hx))
/-- sorted(t) -/
theorem sorted_texts {Q : Value → Shared → Prop} (T : Tb P w s.heap a ks) (hh : A.handled = none) (h64 : ks.length < 64)
    (hQ : ∀ s' p (out : Array Value) (c : Nat) (ys : List Str), (∀ b o, s.heap.get? b = some o → s'.heap.get? b = some o) → s'.gens = s.gens → s'.os = s.os → s.heap.objs.size ≤ p →
      s'.heap.get? p = some (seqObj "list" out c) → StrsAre out.toList ys → ys.Perm ks → sortedS ys = true → Q (.ref p) s') : wpAny (model P w) A (call (.builtin "sorted") [.ref a]) Q E s := by
  obtain ⟨D, g, F, pm, st, rs, ld⟩ := T.ex
  have hsz : D.1.size = ks.length := F.sz
  refine Calls.call_function_entry kind_sorted plain_sorted entry_sorted (args_sorted1 _) ?_
  unfold Builtin.«sorted»
  refine wpAny_bind (m := checkCount "sorted" 1 1 _) (wpAny_pure (wpAny_bind (collect_set (A := A.in1) hh ⟨_, g, rfl, rfl⟩ F.fit (by unfold scanBound; omega) rs ld fun s1 vs k1 z1 g1 o1 p1 => ?_)))
  have S : StrsAre vs (vs.map sTx) := strs_sTx fun v hv => by
    obtain ⟨e, he, q⟩ := List.mem_map.mp (p1.mem_iff.mp hv)
    rw [← q]
    exact st e he
  have lv : vs.length = ks.length := by rw [p1.length_eq, List.length_map, Array.length_toList, hsz]
  have pk : (vs.map sTx).Perm ks := by
    have q := p1.map sTx
    rw [List.map_map] at q
    exact q.trans pm
  refine wpAny_bind (wpAny_newList ?_ (by rw [lv, sizeLine_eq]; omega))
  have gL : (s1.heap.push (seqObj "list" vs.toArray 0)).get? s1.heap.objs.size = some (seqObj "list" vs.toArray 0) := Heap.get?_push_size _ rfl
  refine wpAny_bind (wpAny_holding (wpAny_call_entry slot_list_sort ⟨_, gL, rfl⟩ entry_list_sort (list_sort_treeK strKind_oneLt gL S.keysOf (fun v₁ v₂ rest e => keyKind_strs (by rw [← e]; exact S)) (by rw [lv]; exact h64) fun st' hp hs => ⟨_, rfl, ?_⟩) (args_list_sort _)))
  obtain ⟨ys, q1, q2, q3⟩ := sorted_out_str S hp hs
  obtain ⟨c, gc⟩ := sortedHeap_at (vs := vs) (out := (arrOf st').map (·.2)) gL
  refine wpAny_pure ⟨_, rfl, hQ _ s1.heap.objs.size _ c ys (fun b u e => ?_) g1 o1 z1 gc q1 (q2.trans pk) q3⟩
  have q := k1 b u e
  have lt := Heap.lt_size q
  show (sortedHeap (s1.heap.push (seqObj "list" vs.toArray 0)) s1.heap.objs.size vs _).get? b = some u
  rw [sortedHeap_old (Nat.ne_of_lt lt) (by rw [size_push']; exact Nat.lt_succ_of_lt lt)]
  exact Heap.get?_push_of_some _ q
end
section
variable {X : Cx}
def rSetL (X : Cx) : List V → Hp → VK → Prop := fun xs H Q => ∃ (l : Addr) (zs : List Str), xs = [.ref l] ∧ H l = some (.lst (zs.map V.str)) ∧ zs.length ≤ 1000 ∧ ∀ p ks, ks.Nodup → (∀ j, j ∈ ks ↔ j ∈ zs) → H p = none → Q (.ref p) (upd H p (TbO X.prog X.w p ks))
theorem cr_setL (hc : X.calm = true) : CallR X (.type "set") (rSetL X) := by
  intro pins s σ H xs us Q I r h
  obtain ⟨l, zs, rfl, hl, hz, q⟩ := h
  rw [Vals.ref1 r]
  obtain ⟨hs, its, n, rv, ho⟩ := I.hok l _ hl
  have hn : H s.heap.objs.size = none := I.hok.fresh (Nat.le_refl _)
  refine set_of_texts (P := X.prog) (w := X.w) (items := its.toArray) zs (I.ok.hd hc) ⟨_, ho, rfl, n, rfl⟩ (by simpa using rv.strs) (by unfold scanBound; omega) fun h' tk ks T nd hm k => ?_
  exact ⟨.ref s.heap.objs.size, _, I.laid (t' := tk) k (Nat.le_refl _) (tbO_ok T), rfl, q _ ks nd hm hn⟩
def rSortTb (X : Cx) : List V → Hp → VK → Prop := fun xs H Q => ∃ (a : Addr) (ks : List Str), xs = [.ref a] ∧ H a = some (TbO X.prog X.w a ks) ∧ ks.length < 64 ∧ ∀ ys p, ys.Perm ks → sortedS ys = true → H p = none → Q (.ref p) (upd H p (.lst (ys.map V.str)))
theorem cr_sortedTb (hc : X.calm = true) : CallR X (.builtin "sorted") (rSortTb X) := by
  intro pins s σ H xs us Q I r h
  obtain ⟨a, ks, rfl, ha, h64, q⟩ := h
  rw [Vals.ref1 r]
  have T : Tb X.prog X.w s.heap a ks := (show ObjOk X.prog X.w H s.heap a (TbO X.prog X.w a ks) from I.hok a _ ha).1
  refine sorted_texts T (I.ok.hd hc) h64 fun s' p out c ys k g o hp hg hi hs hm => ?_
  have hlen : (ys.map V.str).length ≤ sizeLine := by rw [List.length_map, hs.length_eq, sizeLine_eq]; omega
  have hn : H p = none := I.hok.fresh hp
  have J : Inv X pins σ (upd H p (.lst (ys.map V.str))) { s with heap := s'.heap, gens := s'.gens, drawn := s'.drawn, toks := s'.toks } :=
    I.call (ch := []) (Un.laid k hp hn) (I.hok.laid k hp ⟨hlen, out.toList, c, vals_of_strs hi, hg⟩) (by rw [g]; exact I.bare) (fun _ z => nomatch z)
  obtain ⟨h', g', d', t', o'⟩ := s'
  obtain rfl : o' = s.os := o
  exact ⟨.ref p, _, J, rfl, q ys p hs hm hn⟩
end
end Mk

-- R5
set_option Elab.async false
set_option linter.all false
set_option maxRecDepth 100000
set_option maxHeartbeats 4000000
namespace Mk
open PySem PySem.Spec PyProof.Rows L2
/-! ### texts in order -/
def sLt (a b : Str) : Prop := a.cps.toList < b.cps.toList
theorem sLt_irr {a : Str} : ¬ sLt a a := List.lt_irrefl _
theorem sLt_trans {a b c : Str} (h : sLt a b) (h' : sLt b c) : sLt a c := List.lt_trans h h'
theorem sLt_tri {a b : Str} (h : a ≠ b) (h' : ¬ sLt b a) : sLt a b := by
  rcases Classical.em (sLt a b) with q | q
  · exact q
  · exact absurd (PySem.W.str_of_cps (List.le_antisymm (List.not_lt.mp h') (List.not_lt.mp q))) h
abbrev Srt (l : List Str) : Prop := l.Pairwise sLt
theorem Srt.nd {l : List Str} (h : Srt l) : l.Nodup := h.imp fun q e => by subst e; exact sLt_irr q
theorem le_all : ∀ {r : List Str} {p : Str}, risingS p r = true → (∀ x ∈ r, ¬ sLt x p) ∧ sortedS r = true
  | [], p, _ => ⟨fun x h => (by cases h), rfl⟩
  | x :: r, p, h => by
    rw [risingS, Bool.and_eq_true, Bool.not_eq_true', ltCps_eq, decide_eq_false_iff_not] at h
    obtain ⟨a, b⟩ := h
    obtain ⟨c, d⟩ := le_all b
    refine ⟨fun y hy => ?_, b⟩
    rcases List.mem_cons.mp hy with e | hy
    · rw [e]; exact a
    · intro q
      refine c y hy ?_
      rcases Classical.em (p = x) with e | e
      · rw [← e]; exact q
      · exact sLt_trans q (sLt_tri e a)
theorem srt_of : ∀ {l : List Str}, sortedS l = true → l.Nodup → Srt l
  | [], _, _ => .nil
  | p :: r, h, n => by
    obtain ⟨a, b⟩ := le_all (p := p) (r := r) h
    obtain ⟨n1, n2⟩ := List.nodup_cons.mp n
    exact List.pairwise_cons.mpr ⟨fun x hx => sLt_tri (fun e => n1 (e ▸ hx)) (a x hx), srt_of b n2⟩
theorem srt_uniq : ∀ {xs ys : List Str}, Srt xs → Srt ys → (∀ k, k ∈ xs ↔ k ∈ ys) → xs = ys
  | [], [], _, _, _ => rfl
  | [], y :: ys, _, _, h => by cases (h y).mpr List.mem_cons_self
  | x :: xs, [], _, _, h => by cases (h x).mp List.mem_cons_self
  | x :: xs, y :: ys, a, b, h => by
    obtain ⟨a1, a2⟩ := List.pairwise_cons.mp a
    obtain ⟨b1, b2⟩ := List.pairwise_cons.mp b
    have e : x = y := by
      rcases List.mem_cons.mp ((h x).mp List.mem_cons_self) with e | m1
      · exact e
      · rcases List.mem_cons.mp ((h y).mpr List.mem_cons_self) with e | m2
        · exact e.symm
        · exact absurd (sLt_trans (a1 y m2) (b1 x m1)) sLt_irr
    subst e
    rw [srt_uniq a2 b2 fun k => ?_]
    have := h k
    rw [List.mem_cons, List.mem_cons] at this
    constructor
    · intro m
      rcases this.mp (.inr m) with e | z
      · subst e; exact absurd (a1 k m) sLt_irr
      · exact z
    · intro m
      rcases this.mpr (.inr m) with e | z
      · subst e; exact absurd (b1 k m) sLt_irr
      · exact z
theorem srt_perm {ys ks : List Str} (h : sortedS ys = true) (p : ys.Perm ks) (n : ks.Nodup) : Srt ys := srt_of h (p.nodup_iff.mpr n)
/-! ### list(d.values()) -/
section
variable {X : Cx}
def rListV : List V → Hp → VK → Prop := fun xs H Q => ∃ (v d : Addr) (kvs : List (Key × V)), xs = [.ref v] ∧ H v = some (valsO v d) ∧ H d = some (.dK kvs) ∧ ∀ p, H p = none → Q (.ref p) (upd H p (.lst (kvs.map (·.2))))
theorem kv_vals : ∀ {kvs : List (Key × V)} {vs : List (Key × Value)} {us : List Value}, KV kvs vs → us.length = vs.length → (∀ (i : Nat) (u : Value), us[i]? = some u → ∃ k, vs[i]? = some (k, u)) → Vals (kvs.map (·.2)) us
  | _, _, [], .nil, _, _ => .nil
  | _, _, _ :: _, .nil, e, _ => by simp at e
  | _, _, [], .cons _ _, e, _ => by simp at e
  | _, _, u :: us, .cons a t, e, h => by
    obtain ⟨k, hk⟩ := h 0 u rfl
    have hk := Option.some.inj hk
    refine .cons ?_ (kv_vals t (by simpa using e) fun i w hw => by simpa using h (i + 1) w (by simpa using hw))
    have := a.2
    rw [hk] at this
    exact this
theorem cr_listV (hc : X.calm = true) : CallR X (.type "list") rListV := by
  intro pins s σ H xs us Q I r h
  obtain ⟨v, d, kvs, rfl, hv, hd, q⟩ := h
  obtain rfl := Vals.ref1 r
  have view : s.heap.IsValuesView v d := (show ObjOk X.prog X.w H s.heap v (valsO v d) from I.hok v _ hv).1
  obtain ⟨z, lo, vs, rel, dd⟩ := dk_of I.hok hd
  obtain ⟨ep, hat⟩ := dd.dictAt
  have hl : kvs.length = vs.length := Paired.length rel
  refine PySem.W.kdl_call (PySem.W.kdl_values (prog := X.prog) (w := X.w) (r := v) (d := d) (knd := mixKind X.prog X.w) (kvs := vs) (ep := ep)) (I.ok.hd hc) ⟨view, hat⟩ (by rw [← hl]; exact z) fun h' tk acc c hkeep hS hacc => ?_
  refine ⟨.ref s.heap.objs.size, upd H s.heap.objs.size (.lst (kvs.map (·.2))), I.laid hkeep (Nat.le_refl _) (show ObjOk X.prog X.w _ _ _ (.lst (kvs.map (·.2))) from ⟨by rw [List.length_map]; exact z, acc.toList, c, ?_, by rw [Array.toArray_toList]; exact hS⟩), rfl, q _ (I.hok.fresh (Nat.le_refl _))⟩
  refine kv_vals rel (by rw [Array.length_toList, hacc.1]) fun i u hu => hacc.2 i u (by rw [← Array.getElem?_toList]; exact hu)
/-! ### sorted(t) of a tuple of texts -/
def rSortST : List V → Hp → VK → Prop := fun vs H Q => ∃ (a : Addr) (xs : List Str), vs = [V.ref a] ∧ H a = some (.tup (xs.map V.str)) ∧ xs.length < 64 ∧ ∀ (ys : List Str) (p : Addr), ys.Perm xs → sortedS ys = true → H p = none → Q (.ref p) (upd H p (.lst (ys.map V.str)))
theorem cr_sortST : CallR X (.builtin "sorted") rSortST := by
  intro pins s σ H vs us Q I r h
  obtain ⟨a, xs, rfl, ha, h64, q⟩ := h
  rw [Vals.ref1 r]
  obtain ⟨hz, its, rv, o, ho, hc, n, hd⟩ := I.hok a _ ha
  have S : StrsAre its xs := rv.strs
  have hl : its.length = xs.length := S.len_eq
  refine Calls.call_function_entry kind_sorted plain_sorted entry_sorted (args_sorted1 _) ?_
  unfold Builtin.«sorted»
  refine wpAny_bind (m := checkCount "sorted" 1 1 _) (wpAny_pure (wpAny_bind (wpAny_collect_seq a (.inr rfl) ho hc hd (fun h' hk => ?_) (by simp [hl, sizeLine_eq]; omega))))
  refine wpAny_bind (wpAny_newList ?_ (by simp [hl, sizeLine_eq]; omega))
  have gL : (h'.push (seqObj "list" its.toArray.toList.toArray 0)).get? h'.objs.size = some (seqObj "list" its.toArray.toList.toArray 0) := Heap.get?_push_size _ rfl
  have S' : StrsAre its.toArray.toList xs := by simpa using S
  refine wpAny_bind (wpAny_holding (wpAny_call_entry slot_list_sort ⟨_, gL, rfl⟩ entry_list_sort (list_sort_treeK strKind_oneLt (s := { s with heap := h'.push (seqObj "list" its.toArray.toList.toArray 0) }) gL S'.keysOf (fun v₁ v₂ rest e => keyKind_strs (by rw [← e]; exact S')) (by simp [hl]; exact h64) fun st' hp hs => ⟨_, rfl, ?_⟩) (args_list_sort _)))
  obtain ⟨ys, q1, q2, q3⟩ := sorted_out_str S' hp hs
  obtain ⟨c, gc⟩ := sortedHeap_at (vs := its.toArray.toList) (out := (arrOf st').map (·.2)) gL
  have I1 : Inv X pins σ H { s with heap := h', toks := s.toks } := I.kept hk
  refine wpAny_pure ⟨_, rfl, .ref h'.objs.size, upd H h'.objs.size (.lst (ys.map V.str)), I1.laid (t' := s.toks) (fun b u e => ?_) (Nat.le_refl _)
    (show ObjOk X.prog X.w _ _ _ (.lst (ys.map V.str)) from ⟨by rw [List.length_map, q2.length_eq, sizeLine_eq]; omega, ((arrOf st').map (·.2)).toList, c, vals_of_strs q1, by rw [Array.toArray_toList]; exact gc⟩), rfl, q ys _ q2 q3 (I1.hok.fresh (Nat.le_refl _))⟩
  have hb : b < h'.objs.size := Heap.lt_size e
  rw [sortedHeap_old (Nat.ne_of_lt hb) (by rw [size_push']; exact Nat.lt_succ_of_lt hb)]
  exact Heap.get?_push_of_some _ e
/-! ### sorted(l) of pairs (text, int) -/
def isSI (H : Hp) (x : V) (p : Str × Int) : Prop := ∃ t, x = .ref t ∧ H t = some (.tup [.str p.1, .int p.2])
def encSI (p : Str × Int) : PyData := .tuple [.str p.1, .int p.2]
def rSortSI : List V → Hp → VK → Prop := fun vs H Q => ∃ (a : Addr) (xs : List V) (ps : List (Str × Int)), vs = [V.ref a] ∧ H a = some (.lst xs) ∧ Paired (isSI H) xs ps ∧ (ps.map (·.1)).Nodup ∧ ps.length ≤ 1000 ∧
  ∀ ys qs p, Paired (isSI H) ys qs → qs.Perm ps → Srt (qs.map (·.1)) → H p = none → Q (.ref p) (upd H p (.lst ys))
def unV : Value → V := fun v => match v with
  | .ref a => .ref a
  | _ => .non
theorem alikeSI (p q : Str × Int) : PySem.W.alike (encSI p) (encSI q) = true := by simp [encSI, PySem.W.alike, PySem.W.alikeAll]
theorem leSI {p q : Str × Int} (h : PySem.W.dataLe false encSI p q = true) : ¬ sLt q.1 p.1 := by
  intro c
  have e : PySem.W.dataLt (encSI q) (encSI p) = true := by
    have ne : q.1 ≠ p.1 := fun e => sLt_irr (e ▸ c)
    show PySem.W.dataLt (.tuple [.str q.1, .int q.2]) (.tuple [.str p.1, .int p.2]) = true
    rw [PySem.W.dataLt_pair (by simp [PySem.W.alike]) (by simp [PySem.W.alike]), if_neg (by simpa [PyData.eqv] using ne), PySem.W.dataLt_str]
    exact decide_eq_true c
  have h : (!PySem.W.dataLt (encSI q) (encSI p)) = true := h
  rw [e] at h
  cases h
theorem srt_le : ∀ {l : List Str}, l.Pairwise (fun a b => ¬ sLt b a) → l.Nodup → Srt l
  | [], _, _ => .nil
  | x :: l, h, n => by
    obtain ⟨h1, h2⟩ := List.pairwise_cons.mp h
    obtain ⟨n1, n2⟩ := List.nodup_cons.mp n
    exact List.pairwise_cons.mpr ⟨fun y hy => sLt_tri (fun e => n1 (e ▸ hy)) (h1 y hy), srt_le h2 n2⟩
theorem each_of {H : Hp} : ∀ {xs : List V} {ps : List (Str × Int)} {us : List Value}, Paired (isSI H) xs ps → Vals xs us → PySem.W.EachIs (fun (v : Value) (p : Str × Int) => ∃ t, v = .ref t ∧ H t = some (.tup [.str p.1, .int p.2])) us ps
  | _, _, _, .nil, .nil => .nil
  | _, _, _, .cons ⟨t, e, h⟩ r, .cons a b => by
    subst e
    exact .cons ⟨t, a, h⟩ (each_of r b)
theorem of_each {H : Hp} : ∀ {us : List Value} {ps : List (Str × Int)}, PySem.W.EachIs (fun (v : Value) (p : Str × Int) => ∃ t, v = .ref t ∧ H t = some (.tup [.str p.1, .int p.2])) us ps → Paired (isSI H) (us.map unV) ps ∧ Vals (us.map unV) us
  | _, _, .nil => ⟨.nil, .nil⟩
  | _, _, .cons ⟨t, e, h⟩ r => by
    subst e
    obtain ⟨a, b⟩ := of_each r
    exact ⟨.cons ⟨t, rfl, h⟩ a, .cons rfl b⟩
theorem cr_sortSI (hu : X.A.units + 64 < cLine) : CallR X (.builtin "sorted") rSortSI := by
  intro pins s σ H vs us Q I r h
  obtain ⟨a, xs, ps, rfl, ha, hp, nd, hn, q⟩ := h
  rw [Vals.ref1 r]
  obtain ⟨hz, its, n, rv, ho⟩ := I.hok a _ ha
  have E := each_of hp rv
  have lp : ps.length ≤ sizeLine := by rw [sizeLine_eq]; omega
  have er : PySem.W.EachIs (fun v b => ∃ as, Reads s.heap v (encSI b) as) its ps := E.mono fun v p h => by
    obtain ⟨t, e, ht⟩ := h
    subst e
    obtain ⟨_, its2, rv2, o2, ho2, hc2, n2, hd2⟩ := I.hok t _ ht
    match its2, rv2, hd2 with
    | [u1, u2], .cons ⟨t1, e1⟩ (.cons ⟨t2, e2⟩ .nil), hd2 =>
      subst e1 e2
      exact ⟨_, .tuple ho2 hc2 hd2 (.cons (.str _ _) (.cons (.int _ _) .nil))⟩
  have hd : ∀ p ∈ ps, X.A.units + 2 + (encSI p).depth < cLine := fun p _ => by
    have e : (encSI p).depth = 1 := by simp [encSI, PyData.depth, PyData.depthAll]
    rw [e]
    omega
  refine PySem.W.sorted_data (enc := encSI) (bs := ps) (vs := its) ⟨_, ho, rfl, n, rfl⟩ E er (PySem.W.AllAlike.of alikeSI) (PySem.W.Sortable.tuples fun p => ⟨_, _, rfl⟩) lp hd ?_
  · intro out lo eo
    obtain ⟨P1, V1⟩ := of_each eo
    obtain ⟨c, gc⟩ := sortedAll_at s.heap its out.toArray
    have T := PySem.W.sortLe_total (listOrd itemOrd) false fun b => PySem.W.keyToks (encSI b)
    have pm : (ps.mergeSort (PySem.W.dataLe false encSI)).Perm ps := List.mergeSort_perm _ _
    refine ⟨.ref (s.heap.objs.size + 1), upd H (s.heap.objs.size + 1) (.lst (out.map unV)), I.laid (t' := s.toks) (fun _ _ => sortedAll_old) (Nat.le_succ _) ⟨by rw [List.length_map, lo]; exact lp, out, c, V1, gc⟩, rfl, q _ _ _ P1 pm (srt_le ?_ ((pm.map _).nodup_iff.mpr nd)) (I.hok.fresh (Nat.le_succ _))⟩
    rw [List.pairwise_map]
    exact (PySem.W.sort_pairwise T ps).imp fun h => leSI h
end
end Mk

-- D2
set_option Elab.async false
set_option linter.all false
set_option maxRecDepth 100000
set_option maxHeartbeats 4000000
namespace Mk
open PySem PySem.Spec PyProof.Rows L2
open C8 (InsC call_isC)
set_option exponentiation.threshold 20000
/-! ### shares as rational numbers -/
theorem rat_parts {o u : Int} (h : 0 < u) : ((o : Rat) / (u : Rat)).num = o / (Int.gcd o u : Nat) ∧ (((o : Rat) / (u : Rat)).den : Int) = u / (Int.gcd o u : Nat) := by
  obtain ⟨n, rfl⟩ := Int.eq_ofNat_of_zero_le (Int.le_of_lt h)
  have hn : n ≠ 0 := by omega
  have e : (o : Rat) / ((n : Int) : Rat) = Rat.normalize o n hn := by
    rw [Rat.normalize_eq_mkRat, Rat.mkRat_eq_div]
    rfl
  rw [e, Rat.normalize_eq]
  refine ⟨rfl, ?_⟩
  show ((n / o.natAbs.gcd n : Nat) : Int) = (n : Int) / ((Int.gcd o n : Nat) : Int)
  rw [Int.natCast_ediv]
  rfl
theorem nat_lt_two {a b c : Nat} (h : a ≤ b) (h2 : b < 2 ^ c) : a < 2 ^ c := Nat.lt_of_le_of_lt h h2
theorem natAbs_ediv_le (a : Int) (g : Nat) : (a / (g : Int)).natAbs ≤ a.natAbs := by
  rcases Nat.eq_zero_or_pos g with e | hg
  · subst e; simp
  · exact Int.natAbs_ediv_le_natAbs a g
abbrev Bq (n : Nat) (q : Rat) : Prop := q.num.natAbs < 2 ^ n ∧ q.den < 2 ^ n
theorem bq_of {o u : Int} {n : Nat} (h : 0 < u) (ho : o.natAbs < 2 ^ n) (hu : u.natAbs < 2 ^ n) : Bq n ((o : Rat) / (u : Rat)) := by
  obtain ⟨a, b⟩ := rat_parts (o := o) h
  refine ⟨?_, ?_⟩
  · rw [a]
    exact nat_lt_two (natAbs_ediv_le _ _) ho
  · have : (((o : Rat) / (u : Rat)).den : Int).natAbs ≤ u.natAbs := by rw [b]; exact natAbs_ediv_le _ _
    exact nat_lt_two (by simpa using this) hu
theorem Bq.mono {m n : Nat} {q : Rat} (h : Bq m q) (l : m ≤ n) : Bq n q := ⟨Nat.lt_of_lt_of_le h.1 (Nat.pow_le_pow_right (by decide) l), Nat.lt_of_lt_of_le h.2 (Nat.pow_le_pow_right (by decide) l)⟩
theorem den_pos (q : Rat) : (0 : Int) < q.den := by have := q.den_nz; omega
theorem den_ne (q : Rat) : ((q.den : Int) : Rat) ≠ 0 := fun h => by
  have := (Rat.intCast_inj (a := (q.den : Int)) (b := 0)).mp h
  have := den_pos q
  omega
theorem num_div (q : Rat) : (q.num : Rat) / ((q.den : Int) : Rat) = q := by
  have e := Rat.mkRat_self q
  rw [Rat.mkRat_eq_div] at e
  exact e
theorem div_lt {a b : Rat} : a.num * b.den < b.num * a.den ↔ a < b := (Rat.lt_iff a b).symm
theorem eq_parts {a b : Rat} : (a.num = b.num ∧ (a.den : Int) = b.den) ↔ a = b := by
  constructor
  · rintro ⟨h1, h2⟩
    exact Rat.ext h1 (by omega)
  · rintro rfl
    exact ⟨rfl, rfl⟩
theorem num_eq (q : Rat) : (q.num : Rat) = q * ((q.den : Int) : Rat) := by
  have h := num_div q
  have d := den_ne q
  grind
theorem sub_div {a b : Rat} : (((a.num * b.den - b.num * a.den : Int) : Rat) / ((a.den * b.den : Int) : Rat)) = a - b := by
  have ha := num_eq a
  have hb := num_eq b
  have da := den_ne a
  have db := den_ne b
  rw [Rat.intCast_sub, Rat.intCast_mul, Rat.intCast_mul, Rat.intCast_mul, ha, hb]
  grind
section
variable {P : Program} {w : World} {K : PySem.W.Frag} {mg : Str → Option Value} {base : Heap}
def shO (K : PySem.W.Frag) (dx : Addr) (q : Rat) : HO := .ins (He.ga K "Share") dx [("over", .int q.num), ("under", .int (q.den : Int))]
def rSh (K : PySem.W.Frag) : Rep Rat := fun G v q => ∃ a dx, v = .ref a ∧ G a = some (shO K dx q)
instance : Mono (rSh K) := ⟨fun s ⟨a, dx, e, h⟩ => ⟨a, dx, e, s _ _ h⟩⟩
/-- what a call may give back -/
def Ret {α : Type} (M : Addr → Prop) (G H : Hp) (R : Rep α) (x : α) (Q : VK) : Prop := ∀ v G' H', Nw M G H G' H' → R G' v x → Q v H'
/-! ### least_multiple, power -/
def spLm : Sp := fun vs H Q _ => ∃ a b : Int, vs = [.int a, .int b] ∧ 0 < a ∧ 0 < b ∧ a.natAbs < 2 ^ 4000 ∧ b.natAbs < 2 ^ 4000 ∧ Q (.int (Int.lcm a b : Nat)) H
theorem sc_least_multiple : FnScope ["a", "b"] ["a", "b"] (defScope s_least_multiple) := ⟨rfl, rfl, rfl, by decide +kernel, rfl, by decide +kernel, by decide +kernel⟩
theorem lcm_eq {a b : Int} (ha : 0 < a) (hb : 0 < b) : a / (Int.gcd a b : Nat) * b = (Int.lcm a b : Nat) := by
  obtain ⟨m, rfl⟩ := Int.eq_ofNat_of_zero_le (Int.le_of_lt ha)
  obtain ⟨n, rfl⟩ := Int.eq_ofNat_of_zero_le (Int.le_of_lt hb)
  show (m : Int) / ((Nat.gcd m n : Nat) : Int) * n = ((Nat.lcm m n : Nat) : Int)
  rw [← Int.natCast_ediv, ← Int.natCast_mul, Nat.lcm, Nat.div_mul_right_comm (Nat.gcd_dvd_left m n)]
theorem gcd_pos' {a b : Int} (hb : 0 < b) : (0 : Int) < (Int.gcd a b : Nat) := by
  have : Int.gcd a b ≠ 0 := fun h => by
    have := (Int.gcd_eq_zero_iff.mp h).2
    omega
  omega
theorem gcd_le' {a b : Int} (hb : 0 < b) : (Int.gcd a b) ≤ b.natAbs := Nat.le_of_dvd (by omega) (Nat.gcd_dvd_right _ _)
theorem ok_least_multiple (T : Tx K mg) : Ok P w K mg base 2 (He.ga K "least_multiple") ["a", "b"] spLm := by
  refine ok_mk (f_least_multiple T) (df_kp (f_least_multiple T)) sc_least_multiple (fun _ _ _ _ _ _ us hl => match us, hl with | [_, _], _ => rfl) (fun vs H Q E h => ?_) (fun cdv A outer s H vs Q E hr h => ?_)
  · obtain ⟨a, b, rfl, _⟩ := h
    rfl
  · obtain ⟨a, b, rfl, ha, hb, sa, sb, k⟩ := h
    refine ⟨_, (pss_one (ps_ret (pe_op op_mulX (pe_op op_fdivW (pv 0) (pe_c (ok_greatest_divisor T) (hr.mono (by decide)) rfl (g_greatest_divisor T) (pa_cons (pv 0) (pa_cons (pv 1) pa_nil)))) (pv 1)))), ?_⟩
    have hg := gcd_pos' (a := a) hb
    refine ⟨_, rfl, _, rfl, _, rfl, a, b, rfl, by omega, by omega, a, _, rfl, rfl, wide_div hg (b := 4000) (nat_lt_two (by simpa using gcd_le' (a := a) hb) sb) (by decide) (by decide), _, rfl, _, _, rfl, rfl,
      mulx_ok (nat_lt_two (natAbs_ediv_le _ _) sa) sb (by decide), ?_⟩
    rw [← lcm_eq ha hb] at k
    exact k
def spPow : Sp := fun vs H Q _ => ∃ (a : Int) (n : Nat), vs = [.int a, .int n] ∧ n ≤ 8 ∧ a.natAbs < 2 ^ 200 ∧ Q (.int (a ^ n)) H
theorem sc_power : FnScope ["a", "n", "found", "_"] ["a", "n"] (defScope s_power) := ⟨rfl, rfl, rfl, by decide +kernel, rfl, by decide +kernel, by decide +kernel⟩
theorem ok_power (T : Tx K mg) : Ok P w K mg base 1 (He.ga K "power") ["a", "n"] spPow := by
  refine ok_mk (f_power T) (df_kp (f_power T)) sc_power (fun _ _ _ _ _ _ us hl => match us, hl with | [_, _], _ => rfl) (fun vs H Q E h => ?_) (fun cdv A outer s H vs Q E hr h => ?_)
  · obtain ⟨a, n, rfl, _⟩ := h
    rfl
  · obtain ⟨a, n, rfl, hn, sa, k⟩ := h
    refine ⟨_, (pss_cons (ps_set (i := 2) sc_power.nd rfl (Or.inl rfl) pe_int)
      (pss_cons (ps_for PassesOwn.never rfl (pi_range1 (by rfl) (b_range T) (pa_cons (pv 1) pa_nil)) (pg_name (i := 3) sc_power.nd rfl (Or.inl rfl))
      (pss_one (ps_set (i := 2) sc_power.nd rfl (Or.inl rfl) (pe_op op_mulX (pv 2) (pv 0)))))
      (pss_one (ps_ret (pv 2))))), ?_⟩
    refine ⟨_, rfl, (n : Int), rfl, by omega, by omega, ?_⟩
    rw [Int.toNat_natCast]
    refine for_it walk_range (fun i σ H' => ∃ x, σ = [some (.int a), some (.int n), some (.int (a ^ i)), x] ∧ H' = H) ⟨none, by rw [Int.pow_zero]; rfl, rfl⟩ (fun _ _ _ _ _ => trivial) ?_ ?_
    · rintro i x σ H1 H2 hi ⟨y, rfl, rfl⟩ ⟨rfl, rfl⟩
      refine ⟨_, rfl, _, rfl, _, _, rfl, rfl, mulx_ok (a := 200 * i + 1) ?_ sa (by omega), some (.int (0 + (i : Nat))), ?_, rfl⟩
      · rw [Int.natAbs_pow]
        have := Nat.pow_lt_pow_left (show a.natAbs < 2 ^ 200 from sa) (n := i)
        rw [Nat.pow_succ, Nat.pow_mul]
        rcases Nat.eq_zero_or_pos i with z | z
        · subst z; simp
        · have := this (by omega)
          omega
      · rw [Int.pow_succ]
        rfl
    · rintro σ H1 ⟨y, rfl, rfl⟩
      exact ⟨_, rfl, k⟩
/-! ### Share -/
theorem tx_ext (T : Tx K mg) : extB K = true := T.c.2
theorem in_Share (T : Tx K mg) : InsC K (He.ga K "Share") := by
  have h := tx_ext T
  simp only [extB, insB, Bool.and_eq_true, decide_eq_true_eq] at h
  exact ⟨c_Share T, He.eqO_ok h.1.1, He.eqO_ok h.1.2.1, h.1.2.2.1, h.1.2.2.2.1, h.1.2.2.2.2⟩
theorem in_Marking (T : Tx K mg) : InsC K (He.ga K "Marking") := by
  have h := tx_ext T
  simp only [extB, insB, Bool.and_eq_true, decide_eq_true_eq] at h
  have h := h.2.1
  exact ⟨c_Marking T, He.eqO_ok h.1, He.eqO_ok h.2.1, h.2.2.1, h.2.2.2.1, h.2.2.2.2⟩
theorem sh_ne (T : Tx K mg) : PySem.W.findIn K (.ref (He.ga K "Share")) "__ne__" = some (some (.builtin "object.__ne__")) := by
  have h := tx_ext T
  simp only [extB, Bool.and_eq_true] at h
  exact He.eqO_ok h.2.2.1
theorem sh_sub (T : Tx K mg) : PySem.W.findIn K (.ref (He.ga K "Share")) "__sub__" = some (some (.ref (He.ma K (He.ga K "Share") "__sub__"))) := by
  have h := tx_ext T
  simp only [extB, Bool.and_eq_true] at h
  exact He.eqO_ok h.2.2.2.1
theorem sh_eq (T : Tx K mg) : PySem.W.findIn K (.ref (He.ga K "Share")) "__eq__" = some (some (.ref (He.ma K (He.ga K "Share") "__eq__"))) := by
  have h := tx_ext T
  simp only [extB, Bool.and_eq_true] at h
  exact He.eqO_ok h.2.2.2.2.1
theorem sh_first (T : Tx K mg) : PySem.W.selfFirst K (He.ga K "Share") = true := by
  have h := tx_ext T
  simp only [extB, Bool.and_eq_true] at h
  exact h.2.2.2.2.2
def spShI (K : PySem.W.Frag) : Sp := fun vs H Q _ => ∃ (x dx : Addr) (o u : Int), vs = [.ref x, .int o, .int u] ∧ H x = some (.ins (He.ga K "Share") dx []) ∧ 0 < u ∧ u.natAbs < 2 ^ 9000 ∧ Q .non (upd H x (shO K dx ((o : Rat) / (u : Rat))))
theorem sc_Share_init : FnScope ["self", "over", "under", "divisor"] ["self", "over", "under"] (defScope s_Share_init) := ⟨rfl, rfl, rfl, by decide +kernel, rfl, by decide +kernel, by decide +kernel⟩
theorem upd_upd' {H : Hp} {p : Addr} {o o' : HO} : upd (upd H p o) p o' = upd H p o' := by
  funext b
  by_cases e : b = p
  · subst e; rw [upd_same, upd_same]
  · rw [upd_ne e, upd_ne e, upd_ne e]
theorem abs_eq (a : Int) : (if a < 0 then -a else a) = (a.natAbs : Int) := by split <;> omega
theorem ok_Share_init (T : Tx K mg) : Ok P w K mg base 2 (He.ma K (He.ga K "Share") "__init__") ["self", "over", "under"] (spShI K) := by
  refine ok_mk (f_Share_init T) (df_kp (f_Share_init T)) sc_Share_init (fun _ _ _ _ _ _ us hl => match us, hl with | [_, _, _], _ => rfl) (fun vs H Q E h => ?_) (fun cdv A outer s H vs Q E hr h => ?_)
  · obtain ⟨x, dx, o, u, rfl, _⟩ := h
    rfl
  · obtain ⟨x, dx, o, u, rfl, hx, hu, su, k⟩ := h
    refine ⟨_, (pss_cons (ps_if (pt_cmpR op_eq (pv 2) pe_int (nomark _))
        (pss_one ps_never)
        pss_nil)
      (pss_cons (ps_set (i := 3) sc_Share_init.nd rfl (Or.inl rfl) (pe_c (ok_greatest_divisor T) (hr.mono (by decide)) rfl (g_greatest_divisor T) (pa_cons (pe_callB call_abs (by rfl) (b_abs T) (by decide +kernel) (pa_cons (pv 1) pa_nil)) (pa_cons (pe_callB call_abs (by rfl) (b_abs T) (by decide +kernel) (pa_cons (pv 2) pa_nil)) pa_nil))))
      (pss_cons (ps_if (pt_cmpR op_lt (pv 2) pe_int (nomark _))
        (pss_one (ps_set (i := 3) sc_Share_init.nd rfl (Or.inl rfl) (pe_un un_neg (pv 3))))
        pss_nil)
      (pss_cons (ps_f (c_Share T) (n_Share_over T) (pv 0) (pe_op op_fdivW (pv 1) (pv 3)))
      (pss_one (ps_f (c_Share T) (n_Share_under T) (pv 0) (pe_op op_fdivW (pv 2) (pv 3)))))))), ?_⟩
    have hg := gcd_pos' (a := o) hu
    have W : CDivW o (Int.gcd o u : Nat) := wide_div hg (b := 9000) (nat_lt_two (by simpa using gcd_le' (a := o) hu) su) (by decide) (by decide)
    obtain ⟨e1, e2⟩ := rat_parts (o := o) hu
    refine ⟨_, rfl, rfl, _, rfl, ite2 (fun c => ?_) fun _ => ?_⟩
    · exfalso
      have c := of_decide_eq_true c
      injection c with c
      omega
    have ea : Int.gcd (if o < 0 then -o else o) (if u < 0 then -u else u) = Int.gcd o u := by
      rw [abs_eq, abs_eq, Int.gcd_natCast_natCast]
      rfl
    refine ⟨_, rfl, _, rfl, _, rfl, _, rfl, _, _, rfl, by split <;> omega, by split <;> omega, ?_⟩
    refine ⟨_, rfl, _, _, rfl, rfl, _, rfl, ite2 (fun c => ?_) fun _ => ?_⟩
    · have c := of_decide_eq_true c
      omega
    rw [ea]
    refine ⟨_, rfl, _, rfl, _, _, rfl, rfl, W, _, rfl, x, dx, _, rfl, hx, by decide, ?_⟩
    refine ⟨_, rfl, _, rfl, _, _, rfl, rfl, wide_div hg (b := 9000) (nat_lt_two (by simpa using gcd_le' (a := o) hu) su) (by decide) (by decide), _, rfl, x, dx, _, rfl, upd_same, show (1 : Nat) < 1000 by decide, ?_⟩
    rw [upd_upd']
    have e : shO K dx ((o : Rat) / (u : Rat)) = .ins (He.ga K "Share") dx (putF "under" (.int (u / (Int.gcd o u : Nat))) (putF "over" (.int (o / (Int.gcd o u : Nat))) [])) := by
      unfold shO
      rw [e1, e2]
      rfl
    rw [e] at k
    exact k
/-- Share(o, u), as tNew asks -/
theorem sh_new {M : Addr → Prop} {G H G1 H1 : Hp} {Q : VK} {o u : Int} (hu : 0 < u) (su : u.natAbs < 2 ^ 9000) (nw : Nw M G H G1 H1) (k : Ret M G H (rSh K) ((o : Rat) / (u : Rat)) Q) :
    ∀ x dx, H1 x = none → H1 dx = none → dx ≠ x → spShI K (.ref x :: [.int o, .int u]) (upd (upd H1 dx (.own x)) x (.ins (He.ga K "Share") dx [])) (fun v H2 => v = .non ∧ Q (.ref x) H2) E0 := by
  intro x dx hx hd ne
  refine ⟨x, dx, o, u, rfl, upd_same, hu, su, rfl, ?_⟩
  rw [upd_upd']
  have n1 := nw.alloc (o := .own x) hd
  have hx1 : upd H1 dx (.own x) x = none := by rw [upd_ne (fun e => ne e.symm)]; exact hx
  exact k _ _ _ (n1.alloc hx1) ⟨x, dx, rfl, upd_same⟩
theorem sh_new1 {M : Addr → Prop} {G H G1 H1 : Hp} {R : VK} {o u : Int} {x dx : Addr} (hx : H1 x = none) (hd : H1 dx = none) (ne : dx ≠ x) (hu : 0 < u) (su : u.natAbs < 2 ^ 9000) (nw : Nw M G H G1 H1)
    (k : ∀ G' H', Nw M G H G' H' → rSh K G' (.ref x) ((o : Rat) / (u : Rat)) → R .non H') : spShI K [.ref x, .int o, .int u] (upd (upd H1 dx (.own x)) x (.ins (He.ga K "Share") dx [])) R E0 := by
  refine ⟨x, dx, o, u, rfl, upd_same, hu, su, ?_⟩
  rw [upd_upd']
  have hx1 : upd H1 dx (.own x) x = none := by rw [upd_ne (fun e => ne e.symm)]; exact hx
  exact k _ _ ((nw.alloc (o := .own x) hd).alloc hx1) ⟨x, dx, rfl, upd_same⟩
def spSub (K : PySem.W.Frag) : Sp := fun vs H Q _ => ∃ G va vb a b, vs = [va, vb] ∧ Same G H ∧ rSh K G va a ∧ rSh K G vb b ∧ Bq 4000 a ∧ Bq 4000 b ∧ Ret nM G H (rSh K) (a - b) Q
theorem sc_Share_sub : FnScope ["self", "other"] ["self", "other"] (defScope s_Share_sub) := ⟨rfl, rfl, rfl, by decide +kernel, rfl, by decide +kernel, by decide +kernel⟩
theorem mulN {a b : Int} {n : Nat} (ha : a.natAbs < 2 ^ n) (hb : b.natAbs < 2 ^ n) (h : n ≤ 67108864) : CMulX a b := mulx_ok ha hb (by omega)
theorem den_bq {q : Rat} {n : Nat} (h : Bq n q) : (q.den : Int).natAbs < 2 ^ n := by simpa using h.2
theorem mul_lt_pow {a b : Int} {m n : Nat} (ha : a.natAbs < 2 ^ m) (hb : b.natAbs < 2 ^ n) : (a * b).natAbs < 2 ^ (m + n) := by
  rw [Int.natAbs_mul, Nat.pow_add]
  exact Nat.mul_lt_mul'' ha hb
theorem pow_up {a m n : Nat} (h : a < 2 ^ m) (l : m ≤ n) : a < 2 ^ n := Nat.lt_of_lt_of_le h (Nat.pow_le_pow_right (by decide) l)
theorem ok_Share_sub (T : Tx K mg) : Ok P w K mg base 4 (He.ma K (He.ga K "Share") "__sub__") ["self", "other"] (spSub K) := by
  refine ok_mk (f_Share_sub T) (df_kp (f_Share_sub T)) sc_Share_sub (fun _ _ _ _ _ _ us hl => match us, hl with | [_, _], _ => rfl) (fun vs H Q E h => ?_) (fun cdv A outer s H vs Q E hr h => ?_)
  · obtain ⟨G, va, vb, a, b, rfl, _⟩ := h
    rfl
  · obtain ⟨G, va, vb, a, b, rfl, sm, ⟨x, dx, rfl, hx⟩, ⟨y, dy, rfl, hy⟩, sa, sb, k⟩ := h
    have hx := sm _ _ hx
    have hy := sm _ _ hy
    refine ⟨_, (pss_one (ps_ret (pe_k (k_Share T) (ok_Share_init T) (hr.mono (by decide)) rfl (g_Share T) (pa_cons (pe_op op_sub (pe_op op_mulX (pe_f (c_Share T) (n_Share_over T) (pv 0)) (pe_f (c_Share T) (n_Share_under T) (pv 1))) (pe_op op_mulX (pe_f (c_Share T) (n_Share_over T) (pv 1)) (pe_f (c_Share T) (n_Share_under T) (pv 0)))) (pa_cons (pe_op op_mulX (pe_f (c_Share T) (n_Share_under T) (pv 0)) (pe_f (c_Share T) (n_Share_under T) (pv 1))) pa_nil))))), ?_⟩
    refine ⟨_, rfl, x, dx, _, _, rfl, hx, rfl, _, rfl, y, dy, _, _, rfl, hy, rfl, _, _, rfl, rfl, mulN sa.1 (den_bq sb) (by decide), ?_⟩
    refine ⟨_, rfl, y, dy, _, _, rfl, hy, rfl, _, rfl, x, dx, _, _, rfl, hx, rfl, _, _, rfl, rfl, mulN sb.1 (den_bq sa) (by decide), _, _, rfl, rfl, ?_⟩
    refine ⟨_, rfl, x, dx, _, _, rfl, hx, rfl, _, rfl, y, dy, _, _, rfl, hy, rfl, _, _, rfl, rfl, mulN (den_bq sa) (den_bq sb) (by decide), ?_⟩
    refine sh_new (M := nM) (Int.mul_pos (den_pos a) (den_pos b)) (pow_up (mul_lt_pow (den_bq sa) (den_bq sb)) (by decide)) (Nw.refl sm) ?_
    rw [sub_div]
    exact k
theorem itT {c A B : Prop} [Decidable c] (hc : c) (h : A) : if c then A else B := by rw [if_pos hc]; exact h
theorem itF {c A B : Prop} [Decidable c] (hc : ¬ c) (h : B) : if c then A else B := by rw [if_neg hc]; exact h
def spEq (K : PySem.W.Frag) : Sp := fun vs H Q _ => ∃ G va vb a b, vs = [va, vb] ∧ Same G H ∧ rSh K G va a ∧ rSh K G vb b ∧ Q (.bl (decide (a = b))) H
theorem sc_Share_eq : FnScope ["self", "other"] ["self", "other"] (defScope s_Share_eq) := ⟨rfl, rfl, rfl, by decide +kernel, rfl, by decide +kernel, by decide +kernel⟩
theorem ok_Share_eq (T : Tx K mg) : Ok P w K mg base 1 (He.ma K (He.ga K "Share") "__eq__") ["self", "other"] (spEq K) := by
  refine ok_mk (f_Share_eq T) (df_kp (f_Share_eq T)) sc_Share_eq (fun _ _ _ _ _ _ us hl => match us, hl with | [_, _], _ => rfl) (fun vs H Q E h => ?_) (fun cdv A outer s H vs Q E hr h => ?_)
  · obtain ⟨G, va, vb, a, b, rfl, _⟩ := h
    rfl
  · obtain ⟨G, va, vb, a, b, rfl, sm, ⟨x, dx, rfl, hx⟩, ⟨y, dy, rfl, hy⟩, k⟩ := h
    have hx := sm _ _ hx
    have hy := sm _ _ hy
    refine ⟨_, (pss_one (ps_ret (pe_and (pe_callB (call_isC (in_Share T)) (by rfl) (b_isinstance T) (by decide +kernel) (pa_cons (pv 1) (pa_cons (pe_glob (v := .ref (He.ga K "Share")) rfl (g_Share T) rfl) pa_nil))) (pe_and (pe_cmpR op_eq (pe_f (c_Share T) (n_Share_over T) (pv 0)) (pe_f (c_Share T) (n_Share_over T) (pv 1)) (nomark _)) (pe_one (pe_cmpR op_eq (pe_f (c_Share T) (n_Share_under T) (pv 0)) (pe_f (c_Share T) (n_Share_under T) (pv 1)) (nomark _))))))), ?_⟩
    refine ⟨_, rfl, y, dy, _, rfl, hy, true, rfl, itT rfl ?_⟩
    refine ⟨_, rfl, x, dx, _, _, rfl, hx, rfl, _, rfl, y, dy, _, _, rfl, hy, rfl, rfl, _, rfl, ite2 (fun c => ?_) fun c => ?_⟩
    · have c := of_decide_eq_true c
      injection c with c
      refine ⟨_, rfl, x, dx, _, _, rfl, hx, rfl, _, rfl, y, dy, _, _, rfl, hy, rfl, rfl, ?_⟩
      have e : decide (a = b) = decide (V.int (a.den : Int) = V.int (b.den : Int)) := decide_eq_decide.mpr ⟨fun e => by rw [e], fun e => eq_parts.mp ⟨c, by injection e⟩⟩
      rw [e] at k
      exact k
    · have e : decide (a = b) = false := decide_eq_false fun e => c (by rw [e]; exact decide_eq_true rfl)
      rw [e] at k
      exact k
def spBelow (K : PySem.W.Frag) : Sp := fun vs H Q _ => ∃ G va vb a b, vs = [va, vb] ∧ Same G H ∧ rSh K G va a ∧ rSh K G vb b ∧ Bq 9000 a ∧ Bq 9000 b ∧ Q (.bl (decide (a < b))) H
theorem sc_Share_is_below : FnScope ["self", "other"] ["self", "other"] (defScope s_Share_is_below) := ⟨rfl, rfl, rfl, by decide +kernel, rfl, by decide +kernel, by decide +kernel⟩
theorem ok_Share_is_below (T : Tx K mg) : Ok P w K mg base 1 (He.ma K (He.ga K "Share") "is_below") ["self", "other"] (spBelow K) := by
  refine ok_mk (f_Share_is_below T) (df_kp (f_Share_is_below T)) sc_Share_is_below (fun _ _ _ _ _ _ us hl => match us, hl with | [_, _], _ => rfl) (fun vs H Q E h => ?_) (fun cdv A outer s H vs Q E hr h => ?_)
  · obtain ⟨G, va, vb, a, b, rfl, _⟩ := h
    rfl
  · obtain ⟨G, va, vb, a, b, rfl, sm, ⟨x, dx, rfl, hx⟩, ⟨y, dy, rfl, hy⟩, sa, sb, k⟩ := h
    have hx := sm _ _ hx
    have hy := sm _ _ hy
    refine ⟨_, (pss_one (ps_ret (pe_cmpR op_lt (pe_op op_mulX (pe_f (c_Share T) (n_Share_over T) (pv 0)) (pe_f (c_Share T) (n_Share_under T) (pv 1))) (pe_op op_mulX (pe_f (c_Share T) (n_Share_over T) (pv 1)) (pe_f (c_Share T) (n_Share_under T) (pv 0))) (nomark _)))), ?_⟩
    refine ⟨_, rfl, x, dx, _, _, rfl, hx, rfl, _, rfl, y, dy, _, _, rfl, hy, rfl, _, _, rfl, rfl, mulN sa.1 (den_bq sb) (by decide), ?_⟩
    refine ⟨_, rfl, y, dy, _, _, rfl, hy, rfl, _, rfl, x, dx, _, _, rfl, hx, rfl, _, _, rfl, rfl, mulN sb.1 (den_bq sa) (by decide), _, _, rfl, rfl, ?_⟩
    have e : decide (a < b) = decide (a.num * b.den < b.num * a.den) := decide_eq_decide.mpr div_lt.symm
    rw [e] at k
    exact k
/-! ### lesser_of, at_most_one -/
def spLess (K : PySem.W.Frag) : Sp := fun vs H Q _ => ∃ G va vb a b, vs = [va, vb] ∧ Same G H ∧ rSh K G va a ∧ rSh K G vb b ∧ Bq 9000 a ∧ Bq 9000 b ∧ ∀ v, rSh K G v (if a < b then a else b) → Q v H
theorem sc_lesser_of : FnScope ["share", "other"] ["share", "other"] (defScope s_lesser_of) := ⟨rfl, rfl, rfl, by decide +kernel, rfl, by decide +kernel, by decide +kernel⟩
theorem ok_lesser_of (T : Tx K mg) : Ok P w K mg base 2 (He.ga K "lesser_of") ["share", "other"] (spLess K) := by
  refine ok_mk (f_lesser_of T) (df_kp (f_lesser_of T)) sc_lesser_of (fun _ _ _ _ _ _ us hl => match us, hl with | [_, _], _ => rfl) (fun vs H Q E h => ?_) (fun cdv A outer s H vs Q E hr h => ?_)
  · obtain ⟨G, va, vb, a, b, rfl, _⟩ := h
    rfl
  · obtain ⟨G, va, vb, a, b, rfl, sm, ra, rb, sa, sb, k⟩ := h
    refine ⟨_, (pss_one (ps_ret (pe_ifExp (pt_val (pe_m (pv 0) (c_Share T) (m_Share_is_below T) (ok_Share_is_below T) (hr.mono (by decide)) (pa_cons (pv 1) pa_nil))) (pv 0) (pv 1)))), ?_⟩
    obtain ⟨x, dx, rfl, hx⟩ := ra
    refine ⟨_, rfl, x, dx, _, rfl, sm _ _ hx, rfl, _, rfl, G, _, _, a, b, rfl, sm, ⟨x, dx, rfl, hx⟩, rb, sa, sb, ?_⟩
    refine ⟨_, rfl, ite2 (fun c => ?_) fun c => ?_⟩
    · refine ⟨_, rfl, k _ ?_⟩
      rw [if_pos (of_decide_eq_true c)]
      exact ⟨x, dx, rfl, hx⟩
    · refine ⟨_, rfl, k _ ?_⟩
      rw [if_neg fun z => c (decide_eq_true z)]
      exact rb
def spAmo (K : PySem.W.Frag) : Sp := fun vs H Q _ => ∃ G va a, vs = [va] ∧ Same G H ∧ rSh K G va a ∧ Bq 9000 a ∧ Ret nM G H (rSh K) (if a < 1 then a else 1) Q
theorem sc_at_most_one : FnScope ["level"] ["level"] (defScope s_at_most_one) := ⟨rfl, rfl, rfl, by decide +kernel, rfl, by decide +kernel, by decide +kernel⟩
theorem ok_at_most_one (T : Tx K mg) : Ok P w K mg base 4 (He.ga K "at_most_one") ["level"] (spAmo K) := by
  refine ok_mk (f_at_most_one T) (df_kp (f_at_most_one T)) sc_at_most_one (fun _ _ _ _ _ _ us hl => match us, hl with | [_], _ => rfl) (fun vs H Q E h => ?_) (fun cdv A outer s H vs Q E hr h => ?_)
  · obtain ⟨G, va, a, rfl, _⟩ := h
    rfl
  · obtain ⟨G, va, a, rfl, sm, ra, sa, k⟩ := h
    refine ⟨_, (pss_one (ps_ret (pe_c (ok_lesser_of T) (hr.mono (by decide)) rfl (g_lesser_of T) (pa_cons (pv 0) (pa_cons (pe_k (k_Share T) (ok_Share_init T) (hr.mono (by decide)) rfl (g_Share T) (pa_cons pe_int (pa_cons pe_int pa_nil))) pa_nil))))), ?_⟩
    refine ⟨_, rfl, ?_⟩
    intro x dx hx hd ne
    refine sh_new1 (M := nM) hx hd ne (by decide) (by decide) (Nw.refl sm) fun G' H' n rv => ⟨rfl, ?_⟩
    have e1 : ((1 : Int) : Rat) / ((1 : Int) : Rat) = 1 := by decide +kernel
    rw [e1] at rv
    exact ⟨G', _, _, a, 1, rfl, n.gh, Mono.mono n.gg ra, rv, sa, ⟨by decide, by decide⟩, fun u ru => k u G' H' n ru⟩
end
end Mk

-- D3
set_option Elab.async false
set_option linter.all false
set_option maxRecDepth 100000
set_option maxHeartbeats 4000000
set_option exponentiation.threshold 20000
namespace Mk
open PySem PySem.Spec PyProof.Rows L2
open C8 (InsC call_isC)
/-- a list comprehension that makes nothing but its list: what is made so far is acc i -/
theorem lcA {J : It} {n : Nat} {Gd : Hp → Prop} {Y : Nat → Hp → V → Hp → Prop} (w : Walk J n Gd Y) {g : TG} {tt : TT} {te : TE} {own : List Nat} {σ : L2.St} {H1 : Hp} {D : Addr} {Qd : Hp → Prop} (acc : Nat → List V) (h0 : acc 0 = []) (hn : n ≤ 100000)
    (hl : ∀ i, i < n → (acc i).length ≤ i) (hG : ∀ l, Gd (upd H1 D (.lst l)))
    (hs : ∀ i x H' (Ky : V → Hp → Prop) (Kn : Hp → Prop), i < n → Y i (upd H1 D (.lst (acc i))) x H' → (∀ y, acc (i + 1) = acc i ++ [y] → Ky y (upd H1 D (.lst (acc i)))) → (acc (i + 1) = acc i → Kn (upd H1 D (.lst (acc i)))) →
      g x (wipe σ own) H' fun σ2 H2 => wipe σ2 own = wipe σ own ∧ tt σ2 H2 fun b H3 => if b = true then te σ2 H3 Ky else Kn H3) (hd : Qd (upd H1 D (.lst (acc n)))) :
    ∃ W : Nat → Nat → Hp → Prop, (∃ m, W 0 m (upd H1 D (.lst []))) ∧ ∀ i m H, W i m H →
      (J.stop i H ∧ Qd H) ∨ (J.go i H ∧ ∃ Nx : Hp → Prop, (∀ H', Nx H' → ∃ m', m' < m ∧ W (i + 1) m' H') ∧ ∀ x H', J.yld i H x H' → g x (wipe σ own) H' fun σ2 H2 => wipe σ2 own = wipe σ own ∧ tt σ2 H2 fun b H3 =>
        if b = true then te σ2 H3 fun y H4 => ∃ acc, H4 D = some (.lst acc) ∧ acc.length < sizeLine ∧ Nx (upd H4 D (.lst (acc ++ [y]))) else Nx H3) := by
  refine lc_it w (fun i H => H = upd H1 D (.lst (acc i))) (by rw [h0]) (fun i H _ e => by rw [e]; exact hG _) (fun i x H H' hi e y => ?_) fun H e => by rw [e]; exact hd
  subst e
  refine hs i x H' _ _ hi y (fun y e => ⟨acc i, upd_same, ?_, ?_⟩) (fun e => by rw [e])
  · have := hl i hi
    rw [sizeLine_eq]
    omega
  · rw [upd_upd', e]
/-- f over xs, every one kept -/
theorem lcM {J : It} {Gd : Hp → Prop} {xs ys : List V} (w : Walk J xs.length Gd (YAt xs)) {g : TG} {te : TE} {own : List Nat} {σ : L2.St} {H1 : Hp} {D : Addr} {Qd : Hp → Prop} (hy : ys.length = xs.length) (hn : xs.length ≤ 100000)
    (hG : ∀ l, Gd (upd H1 D (.lst l)))
    (hs : ∀ (i : Nat) (x y : V) (l : List V) (Ky : V → Hp → Prop), xs[i]? = some x → ys[i]? = some y → Ky y (upd H1 D (.lst l)) → g x (wipe σ own) (upd H1 D (.lst l)) fun σ2 H2 => wipe σ2 own = wipe σ own ∧ te σ2 H2 Ky) (hd : Qd (upd H1 D (.lst ys))) :
    ∃ W : Nat → Nat → Hp → Prop, (∃ m, W 0 m (upd H1 D (.lst []))) ∧ ∀ i m H, W i m H →
      (J.stop i H ∧ Qd H) ∨ (J.go i H ∧ ∃ Nx : Hp → Prop, (∀ H', Nx H' → ∃ m', m' < m ∧ W (i + 1) m' H') ∧ ∀ x H', J.yld i H x H' → g x (wipe σ own) H' fun σ2 H2 => wipe σ2 own = wipe σ own ∧ tYes σ2 H2 fun b H3 =>
        if b = true then te σ2 H3 fun y H4 => ∃ acc, H4 D = some (.lst acc) ∧ acc.length < sizeLine ∧ Nx (upd H4 D (.lst (acc ++ [y]))) else Nx H3) := by
  refine lcA w (fun i => ys.take i) rfl hn (fun i _ => List.length_take_le i ys) hG (fun i x H' Ky Kn hi e k1 k2 => ?_) (by rw [List.take_of_length_le (by omega)]; exact hd)
  obtain ⟨rfl, hx⟩ := e
  have hyi : ys[i]? = some ys[i] := List.getElem?_eq_getElem (by omega)
  exact hs i x _ _ Ky hx hyi (k1 _ (by rw [List.take_add_one, hyi]; rfl))
/-- f over a walk of turns, every one kept -/
theorem lcM' {J : It} {n : Nat} {Gd : Hp → Prop} {f : Nat → V} {ys : List V} (w : Walk J n Gd (YFn f)) {g : TG} {te : TE} {own : List Nat} {σ : L2.St} {H1 : Hp} {D : Addr} {Qd : Hp → Prop} (hy : ys.length = n) (hn : n ≤ 100000)
    (hG : ∀ l, Gd (upd H1 D (.lst l)))
    (hs : ∀ (i : Nat) (y : V) (l : List V) (Ky : V → Hp → Prop), i < n → ys[i]? = some y → Ky y (upd H1 D (.lst l)) → g (f i) (wipe σ own) (upd H1 D (.lst l)) fun σ2 H2 => wipe σ2 own = wipe σ own ∧ te σ2 H2 Ky) (hd : Qd (upd H1 D (.lst ys))) :
    ∃ W : Nat → Nat → Hp → Prop, (∃ m, W 0 m (upd H1 D (.lst []))) ∧ ∀ i m H, W i m H →
      (J.stop i H ∧ Qd H) ∨ (J.go i H ∧ ∃ Nx : Hp → Prop, (∀ H', Nx H' → ∃ m', m' < m ∧ W (i + 1) m' H') ∧ ∀ x H', J.yld i H x H' → g x (wipe σ own) H' fun σ2 H2 => wipe σ2 own = wipe σ own ∧ tYes σ2 H2 fun b H3 =>
        if b = true then te σ2 H3 fun y H4 => ∃ acc, H4 D = some (.lst acc) ∧ acc.length < sizeLine ∧ Nx (upd H4 D (.lst (acc ++ [y]))) else Nx H3) := by
  refine lcA w (fun i => ys.take i) rfl hn (fun i _ => List.length_take_le i ys) hG (fun i x H' Ky Kn hi e k1 k2 => ?_) (by rw [List.take_of_length_le (by omega)]; exact hd)
  obtain ⟨rfl, rfl⟩ := e
  have hyi : ys[i]? = some ys[i] := List.getElem?_eq_getElem (by omega)
  exact hs i _ _ Ky hi hyi (k1 _ (by rw [List.take_add_one, hyi]; rfl))
/-! ### whole_parts -/
section
variable {P : Program} {w : World} {K : PySem.W.Frag} {mg : Str → Option Value} {base : Heap}
/-- weights in proportion to shares -/
def spWP (K : PySem.W.Frag) : Sp := fun vs H Q _ => ∃ (G : Hp) (v : V) (qs : List Rat) (D : Nat), vs = [v] ∧ Same G H ∧ rLst (rSh K) G v qs ∧ qs.length ≤ 100 ∧ 0 < D ∧ D < 2 ^ 3900 ∧ (∀ q ∈ qs, 0 < q ∧ q ≤ 1 ∧ q.den ∣ D) ∧
  ∀ (ws : List Int) (c : Rat), 0 < c → ws.map (fun z : Int => (z : Rat)) = qs.map (fun q => q * c) → (∀ x ∈ ws, 0 < x ∧ x.natAbs < 2 ^ 3900) → Ret nM G H (rTf V.int) ws Q
theorem sc_whole_parts : FnScope ["shares", "under", "share", "parts", "divisor", "part"] ["shares"] (defScope s_whole_parts) := ⟨rfl, rfl, rfl, by decide +kernel, rfl, by decide +kernel, by decide +kernel⟩
/-- q·u, where the lower number of q divides u -/
def prt (u : Int) (q : Rat) : Int := q.num * (u / (q.den : Int))
theorem prt_eq {u : Int} {q : Rat} (h : (q.den : Int) ∣ u) : ((prt u q : Int) : Rat) = q * (u : Rat) := by
  obtain ⟨k, rfl⟩ := h
  have hd := den_pos q
  rw [prt, Int.mul_ediv_cancel_left _ (by omega), Rat.intCast_mul, Rat.intCast_mul, num_eq q]
  grind
theorem num_pos' {q : Rat} (h : 0 < q) : 0 < q.num := by
  have := (Rat.lt_iff 0 q).mp h
  simpa using this
theorem int_pos_rat {a : Int} (h : 0 < a) : (0 : Rat) < (a : Rat) := by
  have := (Rat.intCast_lt_intCast (a := 0) (b := a)).mpr h
  simpa using this
theorem div_pos' {a b : Rat} (ha : 0 < a) (hb : 0 < b) : 0 < a / b := by
  rw [Rat.div_def]
  exact Rat.mul_pos ha (Rat.inv_pos.mpr hb)
theorem ok_whole_parts (T : Tx K mg) : Ok P w K mg base 3 (He.ga K "whole_parts") ["shares"] (spWP K) := by
  refine ok_mk (f_whole_parts T) (df_kp (f_whole_parts T)) sc_whole_parts (fun _ _ _ _ _ _ us hl => match us, hl with | [_], _ => rfl) (fun vs H Q E h => ?_) (fun cdv A outer s H vs Q E hr h => ?_)
  · obtain ⟨G, v, qs, D, rfl, _⟩ := h
    rfl
  · obtain ⟨G, v, qs, D, rfl, sm, ⟨p, vs, rfl, hp, pr⟩, hn, hD, sD, hq, k⟩ := h
    have hpH := sm _ _ hp
    have hlen := paired_len pr
    refine ⟨_, (pss_cons (ps_set (i := 1) sc_whole_parts.nd rfl (Or.inr rfl) pe_int)
      (pss_cons (ps_for PassesOwn.never rfl (pi_list (pv 0)) (pg_name (i := 2) sc_whole_parts.nd rfl (Or.inl rfl))
      (pss_one (ps_set (i := 1) sc_whole_parts.nd rfl (Or.inr rfl) (pe_c (ok_least_multiple T) (hr.mono (by decide)) rfl (g_least_multiple T) (pa_cons (pv 1) (pa_cons (pe_f (c_Share T) (n_Share_under T) (pv 2)) pa_nil))))))
      (pss_cons (ps_setLc (i := 3) (own := [("share", 2)]) (g := (gName 2)) (tt := tYes) rfl sc_whole_parts.nd rfl rfl (sw_true rfl rfl rfl (by decide +kernel)) (pi_list (pv 0)) (blkOk_by (N := ["shares", "under", "share", "parts", "divisor", "part"]) (sc := defScope s_whole_parts) (by decide +kernel)) (fun _ _ _ _ _ => (pg_name (i := 2) sc_whole_parts.nd rfl (Or.inl rfl))) (fun _ _ _ _ _ => pts_nil) (fun _ _ _ _ _ => (pe_op op_mulX (pe_f (c_Share T) (n_Share_over T) (pv 2)) (pe_op op_fdivW (pv 1) (pe_f (c_Share T) (n_Share_under T) (pv 2))))))
      (pss_cons (ps_set (i := 4) sc_whole_parts.nd rfl (Or.inr rfl) pe_int)
      (pss_cons (ps_for PassesOwn.never rfl (pi_list (pv 3)) (pg_name (i := 5) sc_whole_parts.nd rfl (Or.inl rfl))
      (pss_one (ps_if (pt_cmpR op_gt (pv 5) pe_int (nomark _))
        (pss_one (ps_set (i := 4) sc_whole_parts.nd rfl (Or.inr rfl) (pe_c (ok_greatest_divisor T) (hr.mono (by decide)) rfl (g_greatest_divisor T) (pa_cons (pv 5) (pa_cons (pv 4) pa_nil)))))
        pss_nil)))
      (pss_one (ps_ret (pe_callTy call_tuple_of (by rfl) (b_tuple T) (by decide +kernel) (pa_cons (pe_lc (own := [("part", 5)]) (g := (gName 5)) (tt := tYes) rfl sc_whole_parts.nd (pi_list (pv 3)) (blkOk_by (N := ["shares", "under", "share", "parts", "divisor", "part"]) (sc := defScope s_whole_parts) (by decide +kernel)) (fun _ _ _ _ _ => (pg_name (i := 5) sc_whole_parts.nd rfl (Or.inl rfl))) (fun _ _ _ _ _ => pts_nil) (fun _ _ _ _ _ => (pe_op op_fdivW (pv 5) (pv 4)))) pa_nil))))))))), ?_⟩
    refine ⟨_, rfl, p, rfl, ⟨vs, SqL.of hpH⟩, ?_⟩
    refine for_it (walk_list (xs := vs)) (fun i σ H' => ∃ (u : Nat) (x : Option V), σ = [some (.ref p), some (.int u), x, none, none, none] ∧ H' = H ∧ 0 < u ∧ u ∣ D ∧ ∀ j (q : Rat), j < i → qs[j]? = some q → q.den ∣ u) ⟨1, none, rfl, rfl, by decide, Nat.one_dvd D, fun j q h => absurd h (Nat.not_lt_zero _)⟩
      (fun i σ H' _ h => by obtain ⟨u, x, rfl, rfl, _⟩ := h; exact SqL.of hpH) ?_ ?_
    · rintro i x σ H1 H2 hi ⟨u, y, rfl, rfl, hu, hd, hj⟩ ⟨rfl, hx⟩
      obtain ⟨q, hqi, a, dx, rfl, hs⟩ := paired_get pr hx
      have hqm := hq q (List.mem_of_getElem? hqi)
      have hden : q.den ∣ D := hqm.2.2
      have hdp := den_pos q
      have us : u < 2 ^ 4000 := pow_up (nat_lt_two (Nat.le_of_dvd hD hd) sD) (by decide)
      have ds : q.den < 2 ^ 4000 := pow_up (nat_lt_two (Nat.le_of_dvd hD hden) sD) (by decide)
      refine ⟨_, rfl, _, rfl, a, dx, _, _, rfl, sm _ _ hs, rfl, (u : Int), (q.den : Int), rfl, by omega, hdp, us, ds, Nat.lcm u q.den, _, rfl, rfl, Nat.lcm_pos hu (by omega), Nat.lcm_dvd hd hden, fun j r hji hr => ?_⟩
      by_cases e : j = i
      · subst e
        rw [hqi] at hr
        injection hr with hr
        subst hr
        exact Nat.dvd_lcm_right _ _
      · exact Nat.dvd_trans (hj j r (by omega) hr) (Nat.dvd_lcm_left _ _)
    · rintro σ H1 ⟨u, y, rfl, rfl, hu, hd, hj⟩
      have hall : ∀ q ∈ qs, (q.den : Int) ∣ u := fun q hqm => by
        obtain ⟨i, hi⟩ := List.getElem?_of_mem hqm
        have := (List.getElem?_eq_some_iff.mp hi).1
        exact Int.natCast_dvd_natCast.mpr (hj i q (by omega) hi)
      refine ⟨_, rfl, p, rfl, ⟨vs, SqL.of hpH⟩, fun D1 hD1 => ?_⟩
      have us : u < 2 ^ 3900 := nat_lt_two (Nat.le_of_dvd hD hd) sD
      have dsm : ∀ q ∈ qs, q.den < 2 ^ 3900 := fun q hqm => nat_lt_two (Nat.le_of_dvd hD (hq q hqm).2.2) sD
      have hpos : ∀ q ∈ qs, 0 < prt u q ∧ (prt u q).natAbs ≤ u := fun q hqm => by
        obtain ⟨q0, q1, _⟩ := hq q hqm
        have hdp := den_pos q
        obtain ⟨m, hm⟩ := hall q hqm
        have nn : 0 < q.num := num_pos' q0
        have nd : q.num ≤ q.den := by
          have := (Rat.le_iff q 1).mp q1
          simpa using this
        have mp : 0 < m := by
          rcases Int.lt_or_le 0 m with z | z
          · exact z
          · exfalso
            have := Int.mul_nonneg (Int.le_of_lt hdp) (show 0 ≤ -m by omega)
            rw [Int.mul_neg] at this
            omega
        have e : prt u q = q.num * m := by rw [prt, hm, Int.mul_ediv_cancel_left _ (by omega)]
        have h1 : 0 < q.num * m := Int.mul_pos nn mp
        have h2 : q.num * m ≤ q.den * m := Int.mul_le_mul_of_nonneg_right nd (Int.le_of_lt mp)
        rw [e]
        omega
      let ys := qs.map fun q => V.int (prt u q)
      have hys : ys.length = vs.length := by rw [List.length_map]; exact hlen.symm
      have hne : p ≠ D1 := ne_of_none hpH hD1
      refine lcM (ys := ys) (walk_list (xs := vs)) hys (by omega) (fun l => SqL.of (by rw [upd_ne hne]; exact hpH)) (fun i x y' l Ky hx hy hk => ?_) ?_
      · obtain ⟨q, hqi, a, dx, rfl, hs⟩ := paired_get pr hx
        have hqm := List.mem_of_getElem? hqi
        have ha : upd H1 D1 (.lst l) a = some (shO K dx q) := by rw [upd_ne (ne_of_none (sm _ _ hs) hD1)]; exact sm _ _ hs
        have ey : y' = .int (prt u q) := by
          rw [List.getElem?_map, hqi] at hy
          exact (Option.some.inj hy).symm
        rw [ey] at hk
        have sn : q.num.natAbs < 2 ^ 3900 := by
          have nd : q.num ≤ q.den := by simpa using (Rat.le_iff q 1).mp (hq q hqm).2.1
          have nn : 0 < q.num := num_pos' (hq q hqm).1
          exact nat_lt_two (by omega) (dsm q hqm)
        refine ⟨rfl, _, rfl, a, dx, _, _, rfl, ha, rfl, _, rfl, _, rfl, a, dx, _, _, rfl, ha, rfl, _, _, rfl, rfl, wide_div (b := 3900) (den_pos q) (by simpa using dsm q hqm) (by decide) (by decide), _, _, rfl, rfl, ?_, hk⟩
        exact mulx_ok sn (nat_lt_two (natAbs_ediv_le _ _) (show (u : Int).natAbs < 2 ^ 3900 by simpa using us)) (by decide)
      · have h1D : upd H1 D1 (.lst ys) D1 = some (.lst ys) := upd_same
        have n1 : Nw nM G H1 G (upd H1 D1 (.lst ys)) := (Nw.refl sm).allocH hD1
        refine ⟨_, rfl, D1, rfl, ⟨ys, SqL.of h1D⟩, ?_⟩
        generalize upd H1 D1 (.lst ys) = H2 at h1D n1
        refine for_it (walk_list (xs := ys)) (fun i σ H' => ∃ (d : Nat) (x : Option V), σ = [some (.ref p), some (.int u), y, some (.ref D1), some (.int d), x] ∧ H' = H2 ∧ (0 < i → 0 < d) ∧ d ≤ u ∧ ∀ j (q : Rat), j < i → qs[j]? = some q → (d : Int) ∣ prt u q)
          ⟨0, none, rfl, rfl, fun h => absurd h (Nat.lt_irrefl _), Nat.zero_le _, fun j q h => absurd h (Nat.not_lt_zero _)⟩ (fun i σ H' _ h => by obtain ⟨u, x, _, rfl, _⟩ := h; exact SqL.of h1D) ?_ ?_
        · rintro i x σ H3 H4 hi ⟨d, x0, rfl, rfl, h0, hdu, hdj⟩ ⟨rfl, hx⟩
          rw [List.getElem?_map] at hx
          cases hqi : qs[i]? with
          | none => rw [hqi] at hx; cases hx
          | some q =>
            rw [hqi] at hx
            have hx := (Option.some.inj hx).symm
            subst hx
            obtain ⟨q0, ql⟩ := hpos q (List.mem_of_getElem? hqi)
            refine ⟨_, rfl, _, _, rfl, rfl, _, rfl, itT (decide_eq_true q0) ?_⟩
            refine ⟨_, rfl, _, rfl, _, _, rfl, Int.le_of_lt q0, Int.natCast_nonneg d, ?_⟩
            have gp : 0 < Int.gcd (prt u q) d := by
              have : Int.gcd (prt u q) d ≠ 0 := fun z => by
                have := (Int.gcd_eq_zero_iff.mp z).1
                omega
              omega
            refine ⟨Int.gcd (prt u q) d, _, rfl, rfl, fun _ => gp, Nat.le_trans (Nat.le_of_dvd (by omega) (Nat.gcd_dvd_left _ _)) ql, fun j r hji hr => ?_⟩
            by_cases e : j = i
            · subst e
              rw [hqi] at hr
              injection hr with hr
              subst hr
              exact Int.gcd_dvd_left ..
            · exact Int.dvd_trans (Int.gcd_dvd_right ..) (hdj j r (by omega) hr)
        · rintro σ H3 ⟨d, x0, rfl, rfl, h0, hdu, hdj⟩
          refine ⟨_, rfl, D1, rfl, ⟨ys, SqL.of h1D⟩, fun D2 hD2 => ?_⟩
          have hall2 : ∀ q ∈ qs, 0 < d ∧ (d : Int) ∣ prt u q := fun q hqm => by
            obtain ⟨i, hi⟩ := List.getElem?_of_mem hqm
            have hl := (List.getElem?_eq_some_iff.mp hi).1
            have hl2 : i < ys.length := by rw [hys, hlen]; exact hl
            exact ⟨h0 (by omega), hdj i q hl2 hi⟩
          let ws := qs.map fun q => prt u q / (d : Int)
          have hws : (ws.map V.int).length = ys.length := by simp [ws, ys]
          have hne2 : D1 ≠ D2 := ne_of_none h1D hD2
          refine lcM (ys := ws.map V.int) (walk_list (xs := ys)) hws (by omega) (fun l => SqL.of (by rw [upd_ne hne2]; exact h1D)) (fun i x y' l Ky hx hy' hk => ?_) ?_
          · rw [List.getElem?_map] at hx
            cases hqi : qs[i]? with
            | none => rw [hqi] at hx; cases hx
            | some q =>
              rw [hqi] at hx
              have hx := (Option.some.inj hx).symm
              subst hx
              have ey : y' = .int (prt u q / (d : Int)) := by
                rw [List.getElem?_map, List.getElem?_map, hqi] at hy'
                exact (Option.some.inj hy').symm
              rw [ey] at hk
              have dp := (hall2 q (List.mem_of_getElem? hqi)).1
              exact ⟨rfl, _, rfl, _, rfl, _, _, rfl, rfl, wide_div (b := 3900) (by omega) (by simpa using nat_lt_two hdu us) (by decide) (by decide), hk⟩
          · refine ⟨D2, ws.map V.int, rfl, .inl ⟨SqL.of upd_same, fun l hl => ?_⟩⟩
            have n2 := n1.allocH (o := .lst (ws.map V.int)) hD2
            refine k ws (if qs = [] then 1 else (u : Rat) / (d : Rat)) ?_ ?_ ?_ _ (upd G l (.tup (ws.map V.int))) _ (n2.alloc hl) ⟨l, rfl, upd_same⟩
            · split
              · decide +kernel
              · rename_i ne
                obtain ⟨q, hqm⟩ := List.exists_mem_of_ne_nil _ ne
                have dp := (hall2 q hqm).1
                exact div_pos' (int_pos_rat (a := (u : Int)) (by omega)) (int_pos_rat (a := (d : Int)) (by omega))
            · rw [List.map_map]
              refine List.map_congr_left fun q hqm => ?_
              have ne : qs ≠ [] := fun e => by rw [e] at hqm; cases hqm
              rw [if_neg ne]
              obtain ⟨dp, m, hm⟩ := hall2 q hqm
              have e := prt_eq (hall q hqm)
              rw [hm, Rat.intCast_mul] at e
              have dr : (((d : Int)) : Rat) ≠ 0 := fun z => by
                have := (Rat.intCast_inj (a := (d : Int)) (b := 0)).mp z
                omega
              show ((prt u q / (d : Int) : Int) : Rat) = q * (((u : Int) : Rat) / ((d : Int) : Rat))
              rw [hm, Int.mul_ediv_cancel_left _ (by omega)]
              grind
            · intro x hx
              obtain ⟨q, hqm, rfl⟩ := List.mem_map.mp hx
              obtain ⟨dp, m, hm⟩ := hall2 q hqm
              obtain ⟨p0, pl⟩ := hpos q hqm
              have e : prt u q / (d : Int) = m := by rw [hm, Int.mul_ediv_cancel_left _ (by omega)]
              refine ⟨?_, nat_lt_two (Nat.le_trans (natAbs_ediv_le _ _) pl) us⟩
              rw [e]
              rcases Int.lt_or_le 0 m with z | z
              · exact z
              · exfalso
                have := Int.mul_nonneg (Int.natCast_nonneg d) (show 0 ≤ -m by omega)
                rw [Int.mul_neg] at this
                omega
end
end Mk

-- D4
set_option Elab.async false
set_option linter.all false
set_option maxRecDepth 100000
set_option maxHeartbeats 4000000
set_option exponentiation.threshold 20000
namespace Mk
open PySem PySem.Spec PyProof.Rows L2
open C8 (InsC call_isC)
theorem get_new {H : Hp} {p b : Addr} {o u : HO} (h : H b = some u) (hp : H p = none) : upd H p o b = some u := by
  rw [upd_ne (ne_of_none h hp)]
  exact h
theorem len_ok {α : Type} {l : List α} (h : l.length ≤ 100000) : l.length ≤ sizeLine := by
  rw [sizeLine_eq]
  omega
theorem nodup_le {α : Type} [DecidableEq α] : ∀ {l m : List α}, l.Nodup → (∀ x ∈ l, x ∈ m) → l.length ≤ m.length
  | [], _, _, _ => Nat.zero_le _
  | x :: l, m, nd, h => by
    obtain ⟨n1, n2⟩ := List.nodup_cons.mp nd
    have hx := h x List.mem_cons_self
    have := nodup_le (m := m.erase x) n2 fun y hy => (List.mem_erase_of_ne fun (e : y = x) => n1 (e ▸ hy)).mpr (h y (List.mem_cons_of_mem _ hy))
    rw [List.length_erase_of_mem hx] at this
    have := List.length_pos_of_mem hx
    rw [List.length_cons]
    omega
/-- what a maker is to do: x is the new object, the only old one that it writes -/
def Ini {α : Type} (R : Rep α) (x : Addr) (G H : Hp) (v : α) (Q : VK) : Prop := ∀ G' H' o, Nw (fun c => c = x) G H G' H' → G' x = none → H' x = some o → R (upd G' x o) (.ref x) v → Q .non H'
theorem ini_done {α : Type} {M : Addr → Prop} {G H G1 H1 : Hp} {R : Rep α} {v : α} {S : VK} {x dx C : Addr} (nw : Nw M G H G1 H1) (hx : H1 x = none) (hd : H1 dx = none) (ne : dx ≠ x)
    (k : ∀ G' H', Nw M G H G' H' → R G' (.ref x) v → S .non H') : Ini R x G1 (upd (upd H1 dx (.own x)) x (.ins C dx [])) v S :=
  fun _ _ _ n _ hx' r => k _ _ (((nw.obj hx hd ne).thru (nw.dom x hx) n).frz (nw.dom x hx) hx') r
/-! ### dicts by text, as rows -/
theorem look_in {α : Type} {F : Key × V → α → Prop} {key : α → Str} (hk : ∀ kv x, F kv x → kv.1 = .inr (key x)) : ∀ {kvs : List (Key × V)} {xs : List α} {x : α}, Paired F kvs xs → (xs.map key).Nodup → x ∈ xs → ∃ kv, valV kvs (.inr (key x)) = some kv.2 ∧ F kv x
  | _, _, x, .nil, _, h => by cases h
  | kv :: kvs, y :: xs, x, .cons a t, nd, h => by
    rw [List.map_cons, List.nodup_cons] at nd
    by_cases e : key x = key y
    · have : x = y := by
        rcases List.mem_cons.mp h with z | z
        · exact z
        · exact absurd (List.mem_map.mpr ⟨x, z, e⟩) nd.1
      subst this
      exact ⟨kv, valV_pos (hk kv x a), a⟩
    · have hm : x ∈ xs := (List.mem_cons.mp h).resolve_left fun z => e (by rw [z])
      obtain ⟨kv', v1, v2⟩ := look_in hk t nd.2 hm
      refine ⟨kv', ?_, v2⟩
      rw [valV_neg fun z => ?_]
      · exact v1
      · rw [hk kv y a] at z
        injection z with z
        exact e z.symm
theorem look_no {α : Type} {F : Key × V → α → Prop} {key : α → Str} (hk : ∀ kv x, F kv x → kv.1 = .inr (key x)) {t : Str} : ∀ {kvs : List (Key × V)} {xs : List α}, Paired F kvs xs → t ∉ xs.map key → valV kvs (.inr t) = none
  | _, _, .nil, _ => rfl
  | kv :: kvs, y :: xs, .cons a r, h => by
    rw [List.map_cons, List.mem_cons, not_or] at h
    rw [valV_neg fun z => ?_]
    · exact look_no hk r h.2
    · rw [hk kv y a] at z
      injection z with z
      exact h.1 z.symm
theorem keys_of {α : Type} {F : Key × V → α → Prop} {key : α → Str} (hk : ∀ kv x, F kv x → kv.1 = .inr (key x)) : ∀ {kvs : List (Key × V)} {xs : List α}, Paired F kvs xs → kvs.map (·.1) = (xs.map key).map Sum.inr
  | _, _, .nil => rfl
  | kv :: kvs, y :: xs, .cons a r => by rw [List.map_cons, List.map_cons, List.map_cons, keys_of hk r, hk kv y a]
/-- a dict's keys are the texts ks -/
def KeysAre (kvs : List (Key × V)) (ks : List Str) : Prop := kvs.map (·.1) = ks.map Sum.inr
theorem KeysAre.len {kvs : List (Key × V)} {ks : List Str} (h : KeysAre kvs ks) : kvs.length = ks.length := by
  have := congrArg List.length h
  rw [List.length_map, List.length_map] at this
  exact this
theorem KeysAre.some {kvs : List (Key × V)} {ks : List Str} (h : KeysAre kvs ks) {t : Str} : (valV kvs (.inr t)).isSome = true ↔ t ∈ ks := by
  rw [← valV_any, List.any_eq_true]
  constructor
  · rintro ⟨kv, hm, e⟩
    have e := of_decide_eq_true e
    have : kv.1 ∈ kvs.map (·.1) := List.mem_map.mpr ⟨kv, hm, rfl⟩
    rw [h, e] at this
    obtain ⟨k, hk, e2⟩ := List.mem_map.mp this
    injection e2 with e2
    exact e2 ▸ hk
  · intro hm
    have : (Sum.inr t : Key) ∈ kvs.map (·.1) := by rw [h]; exact List.mem_map.mpr ⟨t, hm, rfl⟩
    obtain ⟨kv, hk, e⟩ := List.mem_map.mp this
    exact ⟨kv, hk, decide_eq_true e⟩
theorem KeysAre.put {kvs : List (Key × V)} {ks : List Str} (h : KeysAre kvs ks) (t : Str) (v : V) : KeysAre (putK kvs (.inr t) v) (if t ∈ ks then ks else ks ++ [t]) := by
  by_cases hm : t ∈ ks
  · rw [if_pos hm]
    have e := (h.some).mpr hm
    unfold putK KeysAre
    rw [valV_any, e, if_pos rfl, List.map_map, ← h]
    refine List.map_congr_left fun kv _ => ?_
    show (if kv.1 = .inr t then (kv.1, v) else kv).1 = kv.1
    split <;> rfl
  · rw [if_neg hm]
    have e : valV kvs (.inr t) = none := by
      cases q : valV kvs (.inr t) with
      | none => rfl
      | some z => exact absurd (h.some.mp (by rw [q]; rfl)) hm
    rw [putK_new _ e]
    unfold KeysAre
    rw [List.map_append, List.map_append, h]
    rfl
theorem put_nd {ks : List Str} (t : Str) (n : ks.Nodup) : (if t ∈ ks then ks else ks ++ [t]).Nodup := by
  split
  · exact n
  · rename_i hm
    exact List.nodup_append.mpr ⟨n, (by simp), fun a ha b hb e => hm (by rw [List.mem_singleton.mp hb] at e; exact e ▸ ha)⟩
theorem put_mem {ks : List Str} {t x : Str} : x ∈ (if t ∈ ks then ks else ks ++ [t]) ↔ x = t ∨ x ∈ ks := by
  split
  · rename_i hm
    exact ⟨.inr, fun h => h.elim (fun e => e ▸ hm) id⟩
  · rw [List.mem_append, List.mem_singleton]
    exact Or.comm
section
variable {P : Program} {w : World} {K : PySem.W.Frag} {mg : Str → Option Value} {base : Heap}
abbrev Row : Type := Str × List Str
def kRow (G : Hp) (kv : Key × V) (r : Row) : Prop := kv.1 = .inr r.1 ∧ rTf V.str G kv.2 r.2
theorem kRow_mono {G G' : Hp} (s : Same G G') : ∀ {kvs : List (Key × V)} {xs : List Row}, Paired (kRow G) kvs xs → Paired (kRow G') kvs xs
  | _, _, .nil => .nil
  | _, _, .cons a t => .cons ⟨a.1, Mono.mono s a.2⟩ (kRow_mono s t)
def rCh (K : PySem.W.Frag) : Rep (List Row) := fun G v rows => ∃ (a dx d : Addr) (kvs : List (Key × V)), v = .ref a ∧ G a = some (.ins (He.ga K "Changes") dx [("kept", .ref d)]) ∧ G d = some (.dK kvs) ∧ Paired (kRow G) kvs rows
instance : Mono (rCh K) := ⟨fun s ⟨a, dx, d, kvs, e, h1, h2, h3⟩ => ⟨a, dx, d, kvs, e, s _ _ h1, s _ _ h2, kRow_mono s h3⟩⟩
/-- rows as Changes keeps them -/
structure Rows (rows : List Row) : Prop where
  nd : (rows.map (·.1)).Nodup
  few : rows.length ≤ 60
  row : ∀ r ∈ rows, Srt r.2 ∧ r.1 ∈ r.2 ∧ r.2.length ≤ 60
def spChI (K : PySem.W.Frag) : Sp := fun vs H Q _ => ∃ (x dx : Addr) (G : Hp) (q : Sq) (es : List V) (rows : List Row), vs = [.ref x, q.v] ∧ Same G H ∧ H x = some (.ins (He.ga K "Changes") dx []) ∧ G x = none ∧ q.Is G es ∧ Paired (rPr rStr (rLf V.str) G) es rows ∧ Rows rows ∧ Ini (rCh K) x G H rows Q
theorem sc_Changes_init : FnScope ["self", "rows", "kept", "at", "text", "readable"] ["self", "rows"] (defScope s_Changes_init) := ⟨rfl, rfl, rfl, by decide +kernel, rfl, by decide +kernel, by decide +kernel⟩
theorem Sq.mono {G H : Hp} (s : Same G H) : ∀ {q : Sq} {xs : List V}, q.Is G xs → q.Is H xs
  | .lst a, _, h => h.imp (s _ _) fun ⟨ob, z⟩ => ⟨ob, s _ _ z⟩
  | .tup a, _, h => h.imp (s _ _) fun ⟨ob, z⟩ => ⟨ob, s _ _ z⟩
  | .txt z, _, h => h
theorem ok_Changes_init (T : Tx K mg) : Ok P w K mg base 1 (He.ma K (He.ga K "Changes") "__init__") ["self", "rows"] (spChI K) := by
  refine ok_mk (f_Changes_init T) (df_kp (f_Changes_init T)) sc_Changes_init (fun _ _ _ _ _ _ us hl => match us, hl with | [_, _], _ => rfl) (fun vs H Q E h => ?_) (fun cdv A outer s H vs Q E hr h => ?_)
  · obtain ⟨x, dx, G, q, es, rows, rfl, _⟩ := h
    rfl
  · obtain ⟨x, dx, G, q, es, rows, rfl, sm, hx, gx, hq, pr, R, k⟩ := h
    have hlen := paired_len pr
    refine ⟨_, (pss_cons (ps_set (i := 2) sc_Changes_init.nd rfl (Or.inl rfl) pe_dnewK)
      (pss_cons (ps_for PassesOwn.never rfl (pi_enumX (by rfl) (b_enumerate T) (pa_cons (pv 1) pa_nil)) (pg_tup rfl (pgs_cons (pg_name (i := 3) sc_Changes_init.nd rfl (Or.inl rfl)) (pgs_cons (pg_tup rfl (pgs_cons (pg_name (i := 4) sc_Changes_init.nd rfl (Or.inl rfl)) (pgs_cons (pg_name (i := 5) sc_Changes_init.nd rfl (Or.inl rfl)) pgs_nil))) pgs_nil)))
      (pss_cons (ps_if (pt_cmp (pc_din (hu_of hr) (pv 4) (pv 2)))
        (pss_one ps_never)
        pss_nil)
      (pss_one (ps_dput (hu_of hr) (pv 2) (pv 4) (pe_callTy call_tuple_of (by rfl) (b_tuple T) (by decide +kernel) (pa_cons (pe_callB (cr_sortedTb rfl) (by rfl) (b_sorted T) (by decide +kernel) (pa_cons (pe_callTy (cr_setL rfl) (by rfl) (b_set T) (by decide +kernel) (pa_cons (pe_op op_cat (pe_lst (pa_cons (pv 4) pa_nil)) (pe_callTy call_list_of (by rfl) (b_list T) (by decide +kernel) (pa_cons (pv 5) pa_nil))) pa_nil)) pa_nil)) pa_nil)) rfl))))
      (pss_one (ps_f (c_Changes T) (n_Changes_kept T) (pv 0) (pv 2))))), ?_⟩
    intro d hd
    refine ⟨_, rfl, q, es, rfl, Sq.mono (same_upd sm hd) hq, ?_⟩
    have n0 : Nw nM G H G (upd H d (.dK [])) := (Nw.refl sm).allocH hd
    refine for_it (walk_enumX (q := q) (xs := es)) (fun i σ H' => ∃ (a b c : Option V) (Gc : Hp) (kvs : List (Key × V)), σ = [some (.ref x), some q.v, some (.ref d), a, b, c] ∧ Nw nM G H Gc H' ∧ H' d = some (.dK kvs) ∧ Gc d = none ∧ Paired (kRow Gc) kvs (rows.take i))
      ⟨none, none, none, G, [], rfl, n0, upd_same, sm.free hd, .nil⟩ (fun i σ H' _ h => by obtain ⟨a, b, c, Gc, kvs, rfl, n, _⟩ := h; exact Sq.mono (n.gg.trans n.gh) hq) ?_ ?_
    · rintro i y σ H1 H2 hi ⟨a, b, c, Gc, kvs, rfl, n, hdk, hdg, pk⟩ ⟨T1, y1, y2, rfl, hT1, rfl, e1, e2⟩
      have e1 := (Option.some.inj e1).symm
      subst e1
      obtain ⟨r, hri, t0, ta, tb, rfl, ht0, rta, p1, rfl, hp1⟩ := paired_get pr e2
      have hrm := List.mem_of_getElem? hri
      obtain ⟨hsr, hown, hfew⟩ := R.row r hrm
      have n1 := n.allocH (o := .tup [.int (i : Nat), .ref t0]) hT1
      have hd1 := get_new (o := .tup [.int (i : Nat), .ref t0]) hdk hT1
      have hT1' : upd H1 T1 (.tup [.int (i : Nat), .ref t0]) T1 = some (.tup [.int (i : Nat), .ref t0]) := upd_same
      generalize upd H1 T1 (.tup [.int (i : Nat), .ref t0]) = H2 at n1 hd1 hT1'
      have sG := n1.gg.trans n1.gh
      have rta : ta = .str r.1 := rta
      subst rta
      refine ⟨T1, _, rfl, SqT.of hT1', rfl, _, _, rfl, _, _, rfl, t0, _, rfl, SqT.of (sG _ _ ht0), rfl, _, _, rfl, _, _, rfl, rfl, rfl, ?_⟩
      have hi2 : i < rows.length := by rw [← hlen]; exact hi
      have hno : valV kvs (.inr r.1) = none := look_no (F := kRow Gc) (key := fun r : Row => r.1) (fun _ _ h => h.1) pk fun hm => by
        obtain ⟨r', hr', e⟩ := List.mem_map.mp hm
        obtain ⟨j, hj⟩ := List.getElem?_of_mem hr'
        have hjl := (List.getElem?_eq_some_iff.mp hj).1
        rw [List.length_take] at hjl
        rw [List.getElem?_take_of_lt (by omega)] at hj
        have e1 : (rows.map (·.1))[j]? = (rows.map (·.1))[i]? := by rw [List.getElem?_map, List.getElem?_map, hj, hri]; exact congrArg some e
        have := (List.getElem?_inj (by rw [List.length_map]; omega) R.nd).mp e1
        omega
      refine ⟨_, rfl, _, rfl, d, _, rfl, DGet.k (k := .inr r.1) hd1, _, rfl, itF (by rw [hno]; simp) ?_⟩
      refine ⟨_, rfl, len_ok (show 1 ≤ 100000 by decide), fun q1 hq1 => ?_⟩
      have n2 := n1.allocH (o := .lst [.str r.1]) hq1
      have hd2 := get_new (o := .lst [.str r.1]) hd1 hq1
      have hl2 : upd H2 q1 (.lst [.str r.1]) q1 = some (.lst [.str r.1]) := upd_same
      generalize upd H2 q1 (.lst [.str r.1]) = H3 at n2 hd2 hl2
      refine ⟨_, rfl, p1, _, rfl, .inl (SqL.of (n2.gh _ _ (n2.gg _ _ hp1))), fun q2 hq2 => ?_⟩
      have n3 := n2.allocH (o := .lst (r.2.map V.str)) hq2
      have hd3 := get_new (o := .lst (r.2.map V.str)) hd2 hq2
      have hl3 := get_new (o := .lst (r.2.map V.str)) hl2 hq2
      have hr3 : upd H3 q2 (.lst (r.2.map V.str)) q2 = some (.lst (r.2.map V.str)) := upd_same
      generalize upd H3 q2 (.lst (r.2.map V.str)) = H4 at n3 hd3 hl3 hr3
      refine ⟨q1, q2, _, _, rfl, rfl, hl3, hr3, by simp [sizeLine_eq]; omega, fun q3 hq3 => ?_⟩
      have n4 := n3.allocH (o := .lst ((r.1 :: r.2).map V.str)) hq3
      have hd4 := get_new (o := .lst ((r.1 :: r.2).map V.str)) hd3 hq3
      have hl4 : upd H4 q3 (.lst ((r.1 :: r.2).map V.str)) q3 = some (.lst ((r.1 :: r.2).map V.str)) := upd_same
      have eq3 : upd H4 q3 (.lst ([.str r.1] ++ r.2.map V.str)) = upd H4 q3 (.lst ((r.1 :: r.2).map V.str)) := rfl
      rw [eq3]
      generalize upd H4 q3 (.lst ((r.1 :: r.2).map V.str)) = H5 at n4 hd4 hl4
      refine ⟨q3, r.1 :: r.2, rfl, hl4, by simp; omega, fun q4 ks nd4 mem4 hq4 => ?_⟩
      have n5 := n4.allocH (o := TbO P w q4 ks) hq4
      have hd5 := get_new (o := TbO P w q4 ks) hd4 hq4
      have hs5 : upd H5 q4 (TbO P w q4 ks) q4 = some (TbO P w q4 ks) := upd_same
      have mem5 : ∀ k, k ∈ ks ↔ k ∈ r.2 := fun k => by
        rw [mem4, List.mem_cons]
        exact ⟨fun h => h.elim (fun e => e ▸ hown) id, .inr⟩
      refine ⟨q4, ks, rfl, hs5, Nat.lt_of_le_of_lt (nodup_le nd4 fun k hk => (mem5 k).mp hk) (by omega), fun ys q5 pm so hq5 => ?_⟩
      have ey : ys = r.2 := srt_uniq (srt_perm so pm nd4) hsr fun k => by rw [pm.mem_iff, mem5]
      subst ey
      have hd6 := get_new (o := .lst (r.2.map V.str)) hd5 hq5
      have n6 := n5.allocH (o := .lst (r.2.map V.str)) hq5
      refine ⟨q5, _, rfl, .inl ⟨SqL.of upd_same, fun q6 hq6 => ?_⟩⟩
      have hd7 := get_new (o := .tup (r.2.map V.str)) hd6 hq6
      have n7 := n6.alloc (o := .tup (r.2.map V.str)) hq6
      have g7 : upd Gc q6 (.tup (r.2.map V.str)) d = none := by rw [upd_ne (ne_of_none hd6 hq6)]; exact hdg
      have k7 := kRow_mono (same_new (o := .tup (r.2.map V.str)) (n6.gfree hq6)) pk
      have t7 : upd Gc q6 (.tup (r.2.map V.str)) q6 = some (.tup (r.2.map V.str)) := upd_same
      refine ⟨_, rfl, _, rfl, d, _, rfl, DPut.k (k := .inr r.1) hd7 ?_, some (.int (i : Nat)), some (.str r.1), some (.ref p1), _, _, rfl, n7.putH hd g7, upd_same, g7, ?_⟩
      · have := paired_len pk
        rw [List.length_take] at this
        rw [sizeLine_eq]
        have := R.few
        omega
      · rw [putK_new _ hno, List.take_add_one, hri]
        exact paired_snoc ⟨rfl, q6, rfl, t7⟩ k7
    · rintro σ H1 ⟨a, b, c, Gc, kvs, rfl, n, hdk, hdg, pk⟩
      have hx1 := n.hh x _ (fun z => z) hx
      refine ⟨_, rfl, _, rfl, x, dx, _, rfl, hx1, by decide, ?_⟩
      rw [hlen, List.take_length] at pk
      have gx1 := n.loc hx gx
      have nx : x ≠ d := ne_of_none hx hd
      have gx2 : upd Gc d (.dK kvs) x = none := by rw [upd_ne nx]; exact gx1
      have n2 := ((n.sub (M := fun c => c = x)).frz hd hdk).putM (o := .ins (He.ga K "Changes") dx [("kept", .ref d)]) rfl gx2
      refine k _ _ _ n2 gx2 upd_same ⟨x, dx, d, kvs, rfl, upd_same, ?_, ?_⟩
      · rw [upd_ne (fun e => nx e.symm), upd_same]
      · exact kRow_mono (Same.trans (same_new hdg) (same_new gx2)) pk
/-! ### texts(), of(), readable() -/
def spChT (K : PySem.W.Frag) : Sp := fun vs H Q _ => ∃ G v rows, vs = [v] ∧ Same G H ∧ rCh K G v rows ∧ Rows rows ∧ ∀ ys, Srt ys → (∀ t, t ∈ ys ↔ t ∈ rows.map (·.1)) → Ret nM G H (rTf V.str) ys Q
theorem sc_Changes_texts : FnScope ["self"] ["self"] (defScope s_Changes_texts) := ⟨rfl, rfl, rfl, by decide +kernel, rfl, by decide +kernel, by decide +kernel⟩
theorem ok_Changes_texts (T : Tx K mg) : Ok P w K mg base 1 (He.ma K (He.ga K "Changes") "texts") ["self"] (spChT K) := by
  refine ok_mk (f_Changes_texts T) (df_kp (f_Changes_texts T)) sc_Changes_texts (fun _ _ _ _ _ _ us hl => match us, hl with | [_], _ => rfl) (fun vs H Q E h => ?_) (fun cdv A outer s H vs Q E hr h => ?_)
  · obtain ⟨G, v, rows, rfl, _⟩ := h
    rfl
  · obtain ⟨G, v, rows, rfl, sm, ⟨a, dx, d, kvs, rfl, ha, hd, pk⟩, R, k⟩ := h
    refine ⟨_, (pss_one (ps_ret (pe_callTy call_tuple_of (by rfl) (b_tuple T) (by decide +kernel) (pa_cons (pe_callB (call_sortedD rfl) (by rfl) (b_sorted T) (by decide +kernel) (pa_cons (pe_f (c_Changes T) (n_Changes_kept T) (pv 0)) pa_nil)) pa_nil)))), ?_⟩
    refine ⟨_, rfl, a, dx, _, _, rfl, sm _ _ ha, rfl, d, kvs, rows.map (·.1), rfl, Rd.of (sm _ _ hd), keys_of (F := kRow G) (key := fun r : Row => r.1) (fun _ _ h => h.1) pk, by rw [List.length_map]; have := R.few; omega, fun ys p pm so hp => ?_⟩
    refine ⟨p, _, rfl, .inl ⟨SqL.of upd_same, fun l hl => ?_⟩⟩
    exact k ys (srt_perm so pm R.nd) (fun t => pm.mem_iff) _ _ _ (((Nw.refl sm).allocH hp).alloc hl) ⟨l, rfl, upd_same⟩
def spChO (K : PySem.W.Frag) : Sp := fun vs H Q _ => ∃ G v rows r, vs = [v, .str r.1] ∧ Same G H ∧ rCh K G v rows ∧ (rows.map (·.1)).Nodup ∧ r ∈ rows ∧ ∀ u, rTf V.str G u r.2 → Q u H
theorem sc_Changes_of : FnScope ["self", "text"] ["self", "text"] (defScope s_Changes_of) := ⟨rfl, rfl, rfl, by decide +kernel, rfl, by decide +kernel, by decide +kernel⟩
theorem ok_Changes_of (T : Tx K mg) : Ok P w K mg base 1 (He.ma K (He.ga K "Changes") "of") ["self", "text"] (spChO K) := by
  refine ok_mk (f_Changes_of T) (df_kp (f_Changes_of T)) sc_Changes_of (fun _ _ _ _ _ _ us hl => match us, hl with | [_, _], _ => rfl) (fun vs H Q E h => ?_) (fun cdv A outer s H vs Q E hr h => ?_)
  · obtain ⟨G, v, rows, r, rfl, _⟩ := h
    rfl
  · obtain ⟨G, v, rows, r, rfl, sm, ⟨a, dx, d, kvs, rfl, ha, hd, pk⟩, nd, hm, k⟩ := h
    obtain ⟨kv, e, f1, f2⟩ := look_in (F := kRow G) (key := fun r : Row => r.1) (fun _ _ h => h.1) pk nd hm
    refine ⟨_, (pss_cons (ps_if (pt_cmp (pc_dnotin (hu_of hr) (pv 1) (pe_f (c_Changes T) (n_Changes_kept T) (pv 0))))
        (pss_one ps_never)
        pss_nil)
      (pss_one (ps_ret (pe_dget (hu_of hr) (pe_f (c_Changes T) (n_Changes_kept T) (pv 0)) (pv 1) (fun _ _ => rfl))))), ?_⟩
    refine ⟨_, rfl, _, rfl, a, dx, _, _, rfl, sm _ _ ha, rfl, d, _, rfl, DGet.k (k := .inr r.1) (sm _ _ hd), _, rfl, itF (by rw [e]; simp) ?_⟩
    refine ⟨_, rfl, a, dx, _, _, rfl, sm _ _ ha, rfl, _, rfl, d, kv.2, rfl, ?_, k _ f2⟩
    have := DGet.k (k := .inr r.1) (sm _ _ hd)
    rw [e] at this
    exact this
def spChR (K : PySem.W.Frag) : Sp := fun vs H Q _ => ∃ G v rows, vs = [v] ∧ Same G H ∧ rCh K G v rows ∧ Rows rows ∧ (∀ l : List Str, l.Nodup → (∀ t ∈ l, ∃ r ∈ rows, t ∈ r.2) → l.length ≤ 60) ∧ ∀ ys, Srt ys → (∀ t, t ∈ ys ↔ ∃ r ∈ rows, t ∈ r.2) → Ret nM G H (rTf V.str) ys Q
theorem sc_Changes_readable : FnScope ["self", "found", "texts", "text"] ["self"] (defScope s_Changes_readable) := ⟨rfl, rfl, rfl, by decide +kernel, rfl, by decide +kernel, by decide +kernel⟩
theorem ok_Changes_readable (T : Tx K mg) : Ok P w K mg base 1 (He.ma K (He.ga K "Changes") "readable") ["self"] (spChR K) := by
  refine ok_mk (f_Changes_readable T) (df_kp (f_Changes_readable T)) sc_Changes_readable (fun _ _ _ _ _ _ us hl => match us, hl with | [_], _ => rfl) (fun vs H Q E h => ?_) (fun cdv A outer s H vs Q E hr h => ?_)
  · obtain ⟨G, v, rows, rfl, _⟩ := h
    rfl
  · obtain ⟨G, v, rows, rfl, sm, ⟨a, dx, d, kvs, rfl, ha, hd, pk⟩, R, few, k⟩ := h
    refine ⟨_, (pss_cons (ps_set (i := 1) sc_Changes_readable.nd rfl (Or.inl rfl) pe_dnewK)
      (pss_cons (ps_lock (ps_for PassesOwn.never rfl (pi_values (pe_f (c_Changes T) (n_Changes_kept T) (pv 0))) (pg_name (i := 2) sc_Changes_readable.nd rfl (Or.inl rfl))
      (pss_one (ps_for PassesOwn.never rfl (pi_tup (pv 2)) (pg_name (i := 3) sc_Changes_readable.nd rfl (Or.inl rfl))
      (pss_one (ps_dput (hu_of hr) (pv 1) (pv 3) pe_bl rfl))))))
      (pss_one (ps_ret (pe_callTy call_tuple_of (by rfl) (b_tuple T) (by decide +kernel) (pa_cons (pe_callB (call_sortedD rfl) (by rfl) (b_sorted T) (by decide +kernel) (pa_cons (pv 1) pa_nil)) pa_nil)))))), ?_⟩
    intro f hf
    have hd0 := sm _ _ hd
    have ha0 := sm _ _ ha
    have nfd : d ≠ f := ne_of_none hd0 hf
    have naf : a ≠ f := ne_of_none ha0 hf
    have nad : a ≠ d := fun e => by rw [e, hd0] at ha0; cases ha0
    refine ⟨d, .dK kvs, get_new hd0 hf, trivial, fun od => ?_⟩
    let Hf : List (Key × V) → Hp := fun fk b => if b = d then some (.frz od (.dK kvs)) else if b = f then some (.dK fk) else H b
    have e0 : upd (upd H f (.dK [])) d (.frz od (.dK kvs)) = Hf [] := by
      funext b
      simp only [Hf, upd]
    rw [e0]
    have fd : ∀ fk, Hf fk d = some (.frz od (.dK kvs)) := fun fk => by simp [Hf]
    have ff : ∀ fk, Hf fk f = some (.dK fk) := fun fk => by simp [Hf, Ne.symm nfd]
    have fo : ∀ fk b o, b ≠ d → H b = some o → Hf fk b = some o := fun fk b o h1 h2 => by
      have : b ≠ f := ne_of_none h2 hf
      simp [Hf, h1, this, h2]
    have fp : ∀ fk fk', upd (Hf fk) f (.dK fk') = Hf fk' := fun fk fk' => by
      funext b
      simp only [Hf, upd]
      by_cases h1 : b = f
      · rw [if_pos h1, h1, if_neg (fun e : f = d => nfd e.symm), if_pos rfl]
      · simp [h1]
    have fu : ∀ fk, upd (Hf fk) d (.dK kvs) = upd H f (.dK fk) := fun fk => by
      funext b
      simp only [Hf, upd]
      by_cases h1 : b = d
      · rw [if_pos h1, h1, if_neg nfd, hd0]
      · simp [h1]
    clear_value Hf
    refine ⟨_, rfl, a, dx, _, _, rfl, fo _ _ _ nad ha0, rfl, d, od, kvs, rfl, fd _, ?_⟩
    have hkl := paired_len pk
    refine for_it (walk_values (kvs := kvs)) (fun i σ H' => ∃ (x y : Option V) (fk : List (Key × V)) (ks : List Str), σ = [some (.ref a), some (.ref f), x, y] ∧ H' = Hf fk ∧ KeysAre fk ks ∧ ks.Nodup ∧ ∀ t, t ∈ ks ↔ ∃ j r, j < i ∧ rows[j]? = some r ∧ t ∈ r.2)
      ⟨none, none, [], [], rfl, rfl, rfl, List.nodup_nil, fun t => ⟨fun h => (by cases h), fun ⟨j, r, h, _⟩ => absurd h (Nat.not_lt_zero _)⟩⟩ (fun i σ H' _ h => by obtain ⟨x, y, fk, ks, rfl, rfl, _⟩ := h; exact fd _) ?_ ?_
    · rintro i x σ H1 H2 hi ⟨x0, y0, fk, ks, rfl, rfl, ka, nd, mem⟩ ⟨rfl, key, hkv⟩
      obtain ⟨r, hri, e1, p, rfl, hp⟩ := paired_get pk hkv
      have hp0 := sm _ _ hp
      have npd : p ≠ d := fun e => by rw [e, hd0] at hp0; cases hp0
      refine ⟨_, rfl, p, rfl, ⟨_, SqT.of (fo _ _ _ npd hp0)⟩, ?_⟩
      refine for_it (walk_tup (xs := r.2.map V.str)) (fun j σ H' => ∃ (y : Option V) (fk : List (Key × V)) (ks : List Str), σ = [some (.ref a), some (.ref f), some (.ref p), y] ∧ H' = Hf fk ∧ KeysAre fk ks ∧ ks.Nodup ∧ ∀ t, t ∈ ks ↔ (∃ j r, j < i ∧ rows[j]? = some r ∧ t ∈ r.2) ∨ t ∈ r.2.take j)
        ⟨y0, fk, ks, rfl, rfl, ka, nd, fun t => by rw [mem]; simp⟩ (fun i σ H' _ h => by obtain ⟨y, fk, ks, rfl, rfl, _⟩ := h; exact SqT.of (fo _ _ _ npd hp0)) ?_ ?_
      · rintro j x σ H1 H2 hj ⟨y1, fk1, ks1, rfl, rfl, ka1, nd1, mem1⟩ ⟨rfl, hx⟩
        rw [List.getElem?_map] at hx
        cases hrj : r.2[j]? with
        | none => rw [hrj] at hx; cases hx
        | some t =>
          rw [hrj] at hx
          obtain rfl := (Option.some.inj hx).symm
          refine ⟨_, rfl, _, rfl, f, _, rfl, DPut.k (k := .inr t) (ff fk1) ?_, some (.str t), _, _, rfl, fp _ _, ka1.put t _, put_nd t nd1, fun u => ?_⟩
          · have := few ks1 nd1 fun t ht => by
              rcases (mem1 t).mp ht with ⟨j', r', _, h1, h2⟩ | h
              · exact ⟨r', List.mem_of_getElem? h1, h2⟩
              · exact ⟨r, List.mem_of_getElem? hri, List.mem_of_mem_take h⟩
            rw [ka1.len, sizeLine_eq]
            omega
          · rw [put_mem, mem1, List.take_add_one, hrj]
            simp
            constructor
            · rintro (h | h | h)
              · exact .inr (.inr h)
              · exact .inl h
              · exact .inr (.inl h)
            · rintro (h | h | h)
              · exact .inr (.inl h)
              · exact .inr (.inr h)
              · exact .inl h
      · rintro σ H1 ⟨y1, fk1, ks1, rfl, rfl, ka1, nd1, mem1⟩
        refine ⟨_, _, fk1, ks1, rfl, rfl, ka1, nd1, fun t => ?_⟩
        rw [mem1, List.length_map, List.take_length]
        constructor
        · rintro (⟨j, r', h1, h2, h3⟩ | h)
          · exact ⟨j, r', by omega, h2, h3⟩
          · exact ⟨i, r, by omega, hri, h⟩
        · rintro ⟨j, r', h1, h2, h3⟩
          by_cases e : j = i
          · subst e
            rw [hri] at h2
            injection h2 with h2
            exact .inr (h2 ▸ h3)
          · exact .inl ⟨j, r', by omega, h2, h3⟩
    · rintro σ H1 ⟨x0, y0, fk, ks, rfl, rfl, ka, nd, mem⟩
      refine ⟨fd _, ?_⟩
      dsimp only
      rw [fu]
      have mem2 : ∀ t, t ∈ ks ↔ ∃ r ∈ rows, t ∈ r.2 := fun t => by
        rw [mem]
        constructor
        · rintro ⟨j, r, _, h1, h2⟩
          exact ⟨r, List.mem_of_getElem? h1, h2⟩
        · rintro ⟨r, h1, h2⟩
          obtain ⟨j, hj⟩ := List.getElem?_of_mem h1
          have := (List.getElem?_eq_some_iff.mp hj).1
          exact ⟨j, r, by omega, hj, h2⟩
      have n1 : Nw nM G H G (upd H f (.dK fk)) := (Nw.refl sm).allocH hf
      have f1 : upd H f (.dK fk) f = some (.dK fk) := upd_same
      generalize upd H f (.dK fk) = H3 at n1 f1
      refine ⟨_, rfl, f, fk, ks, rfl, Rd.of f1, ka, Nat.lt_of_le_of_lt (few ks nd fun t ht => (mem2 t).mp ht) (by decide), fun ys p pm so hp => ?_⟩
      refine ⟨p, _, rfl, .inl ⟨SqL.of upd_same, fun l hl => ?_⟩⟩
      exact k ys (srt_perm so pm nd) (fun t => by rw [pm.mem_iff, mem2]) _ _ _ ((n1.allocH hp).alloc hl) ⟨l, rfl, upd_same⟩
end
end Mk

-- D5
set_option Elab.async false
set_option linter.all false
set_option maxRecDepth 100000
set_option maxHeartbeats 4000000
set_option exponentiation.threshold 20000
namespace Mk
open PySem PySem.Spec PyProof.Rows L2
open C8 (InsC call_isC)
section
variable {P : Program} {w : World} {K : PySem.W.Frag} {mg : Str → Option Value} {base : Heap}
/-! ### sources: words and weights -/
abbrev Wd : Type := Str × Int
def total (ws : List Wd) : Int := (ws.map (·.2)).sum
structure Wds (ws : List Wd) : Prop where
  srt : Srt (ws.map (·.1))
  pos : ∀ e ∈ ws, 1 ≤ e.2
  few : ws.length ≤ 60
  ne : ws ≠ []
  big : (total ws).natAbs < 2 ^ 140
def kWd (e : Wd) : Key × V := (.inr e.1, .int e.2)
/-- the dict at d holds the words, in some order -/
def rWd (G : Hp) (d : Addr) (ws : List Wd) : Prop := ∃ es : List Wd, G d = some (.dK (es.map kWd)) ∧ es.Perm ws
theorem rWd_mono {G G' : Hp} {d : Addr} {ws : List Wd} (s : Same G G') : rWd G d ws → rWd G' d ws := fun ⟨es, h, p⟩ => ⟨es, s _ _ h, p⟩
def tabF (d : Addr) (W : Int) : List (Str × V) := [("weights", .ref d), ("whole", .int W)]
def macF (al st rw le un : V) (d : Addr) (W : Int) : List (Str × V) := [("alphabet", al), ("start", st), ("rows", rw), ("length", le), ("unit", un), ("whole", .int W), ("weights", .ref d)]
def rTab (K : PySem.W.Frag) : Rep (List Wd) := fun G v ws => ∃ (a dx d : Addr), v = .ref a ∧ G a = some (.ins (He.ga K "Table") dx (tabF d (total ws))) ∧ rWd G d ws
def rMac (K : PySem.W.Frag) : Rep (List Wd) := fun G v ws => ∃ (a dx d : Addr) (al st rw le un : V), v = .ref a ∧ G a = some (.ins (He.ga K "Machine") dx (macF al st rw le un d (total ws))) ∧ rWd G d ws
def rSrc (K : PySem.W.Frag) : Rep (List Wd) := fun G v ws => rTab K G v ws ∨ rMac K G v ws
instance : Mono (rTab K) := ⟨fun s ⟨a, dx, d, e, h, p⟩ => ⟨a, dx, d, e, s _ _ h, rWd_mono s p⟩⟩
instance : Mono (rMac K) := ⟨fun s ⟨a, dx, d, a1, a2, a3, a4, a5, e, h, p⟩ => ⟨a, dx, d, a1, a2, a3, a4, a5, e, s _ _ h, rWd_mono s p⟩⟩
instance : Mono (rSrc K) := ⟨fun s h => h.imp (Mono.mono s) (Mono.mono s)⟩
theorem wd_paired : ∀ es : List Wd, Paired (fun (kv : Key × V) (e : Wd) => kv.1 = .inr e.1 ∧ kv.2 = .int e.2) (es.map kWd) es
  | [] => .nil
  | _ :: es => .cons ⟨rfl, rfl⟩ (wd_paired es)
theorem wd_keys (es : List Wd) : KeysAre (es.map kWd) (es.map (·.1)) := keys_of (F := fun (kv : Key × V) (e : Wd) => kv.1 = .inr e.1 ∧ kv.2 = .int e.2) (key := fun e : Wd => e.1) (fun _ _ h => h.1) (wd_paired es)
theorem wd_val {es : List Wd} {e : Wd} (nd : (es.map (·.1)).Nodup) (h : e ∈ es) : valV (es.map kWd) (.inr e.1) = some (.int e.2) := by
  obtain ⟨kv, h1, h2, h3⟩ := look_in (F := fun (kv : Key × V) (e : Wd) => kv.1 = .inr e.1 ∧ kv.2 = .int e.2) (key := fun e : Wd => e.1) (fun _ _ h => h.1) (wd_paired es) nd h
  rw [h1, h3]
theorem sum_pos : ∀ {ws : List Wd}, (∀ e ∈ ws, 1 ≤ e.2) → ws ≠ [] → 0 < total ws
  | [], _, h => absurd rfl h
  | [e], h, _ => by
    have := h e List.mem_cons_self
    simp [total]
    omega
  | e :: f :: ws, h, _ => by
    have h1 := h e List.mem_cons_self
    have h2 := sum_pos (ws := f :: ws) (fun x hx => h x (List.mem_cons_of_mem _ hx)) (by simp)
    have : total (e :: f :: ws) = e.2 + total (f :: ws) := rfl
    omega
theorem mem_le : ∀ {ws : List Wd}, (∀ e ∈ ws, 1 ≤ e.2) → ∀ e ∈ ws, e.2 ≤ total ws
  | [], _, e, h => by cases h
  | x :: ws, p, e, h => by
    have e0 : total (x :: ws) = x.2 + total ws := rfl
    have hn : 0 ≤ total ws := by
      by_cases z : ws = []
      · subst z; exact Int.le_refl _
      · exact Int.le_of_lt (sum_pos (fun y hy => p y (List.mem_cons_of_mem _ hy)) z)
    rcases List.mem_cons.mp h with rfl | h
    · omega
    · have := mem_le (fun y hy => p y (List.mem_cons_of_mem _ hy)) e h
      have := p x List.mem_cons_self
      omega
theorem wd_big {ws : List Wd} (W : Wds ws) {e : Wd} (h : e ∈ ws) : e.2.natAbs < 2 ^ 140 := by
  have h1 := mem_le W.pos e h
  have h2 := W.pos e h
  have h3 := W.big
  exact nat_lt_two (by omega) h3
def spTTable (K : PySem.W.Frag) : Sp := fun vs H Q _ => ∃ G v ws, vs = [v] ∧ Same G H ∧ rTab K G v ws ∧ Wds ws ∧ Ret nM G H (rTf V.str) (ws.map (·.1)) Q
theorem sc_Table_texts : FnScope ["self"] ["self"] (defScope s_Table_texts) := ⟨rfl, rfl, rfl, by decide +kernel, rfl, by decide +kernel, by decide +kernel⟩
theorem ok_Table_texts (T : Tx K mg) : Ok P w K mg base 1 (He.ma K (He.ga K "Table") "texts") ["self"] (spTTable K) := by
  refine ok_mk (f_Table_texts T) (df_kp (f_Table_texts T)) sc_Table_texts (fun _ _ _ _ _ _ us hl => match us, hl with | [_], _ => rfl) (fun vs H Q E h => ?_) (fun cdv A outer s H vs Q E hr h => ?_)
  · obtain ⟨G, v, ws, rfl, _⟩ := h
    rfl
  · obtain ⟨G, v, ws, rfl, sm, ⟨a, dx, d, rfl, ha, es, hd, pm⟩, W, k⟩ := h
    refine ⟨_, (pss_one (ps_ret (pe_callTy call_tuple_of (by rfl) (b_tuple T) (by decide +kernel) (pa_cons (pe_callB (call_sortedD rfl) (by rfl) (b_sorted T) (by decide +kernel) (pa_cons (pe_f (c_Table T) (n_Table_weights T) (pv 0)) pa_nil)) pa_nil)))), ?_⟩
    have hl := pm.length_eq
    have pf := pm.map (fun e : Wd => e.1)
    refine ⟨_, rfl, a, dx, _, _, rfl, sm _ _ ha, rfl, d, es.map kWd, es.map (fun e : Wd => e.1), rfl, Rd.of (sm _ _ hd), wd_keys es, by rw [List.length_map]; have := W.few; omega, fun ys p pm2 so hp => ?_⟩
    have ey : ys = ws.map (·.1) := srt_uniq (srt_perm so (pm2.trans pf) W.srt.nd) W.srt fun t => (pm2.trans pf).mem_iff
    subst ey
    refine ⟨p, _, rfl, .inl ⟨SqL.of upd_same, fun l hl => ?_⟩⟩
    exact k _ _ _ (((Nw.refl sm).allocH hp).alloc hl) ⟨l, rfl, upd_same⟩
def spWTable (K : PySem.W.Frag) : Sp := fun vs H Q _ => ∃ G v ws e, vs = [v, .str e.1] ∧ Same G H ∧ rTab K G v ws ∧ Wds ws ∧ e ∈ ws ∧ Q (.int e.2) H
theorem sc_Table_weight_of : FnScope ["self", "text"] ["self", "text"] (defScope s_Table_weight_of) := ⟨rfl, rfl, rfl, by decide +kernel, rfl, by decide +kernel, by decide +kernel⟩
theorem ok_Table_weight_of (T : Tx K mg) : Ok P w K mg base 1 (He.ma K (He.ga K "Table") "weight_of") ["self", "text"] (spWTable K) := by
  refine ok_mk (f_Table_weight_of T) (df_kp (f_Table_weight_of T)) sc_Table_weight_of (fun _ _ _ _ _ _ us hl => match us, hl with | [_, _], _ => rfl) (fun vs H Q E h => ?_) (fun cdv A outer s H vs Q E hr h => ?_)
  · obtain ⟨G, v, ws, e, rfl, _⟩ := h
    rfl
  · obtain ⟨G, v, ws, e, rfl, sm, ⟨a, dx, d, rfl, ha, es, hd, pm⟩, W, hm, k⟩ := h
    have nd : (es.map (fun e : Wd => e.1)).Nodup := (pm.map _).nodup_iff.mpr W.srt.nd
    have hv := wd_val nd (pm.mem_iff.mpr hm)
    refine ⟨_, (pss_one (ps_ret (pe_dget2 (hu_of hr) (pe_f (c_Table T) (n_Table_weights T) (pv 0)) (pv 1) pe_int ⟨by rfl, by rfl, by rfl, by rfl⟩))), ?_⟩
    refine ⟨_, rfl, a, dx, _, _, rfl, sm _ _ ha, rfl, d, rfl, .inl ⟨_, Rd.of (sm _ _ hd)⟩, _, rfl, _, DGet.k (k := .inr e.1) (sm _ _ hd), ?_⟩
    rw [hv]
    exact k
def spSTable (K : PySem.W.Frag) : Sp := fun vs H Q _ => ∃ G v ws e, vs = [v, .str e.1] ∧ Same G H ∧ rTab K G v ws ∧ Wds ws ∧ e ∈ ws ∧ Ret nM G H (rSh K) ((e.2 : Rat) / (total ws : Rat)) Q
theorem sc_Table_share_of : FnScope ["self", "text"] ["self", "text"] (defScope s_Table_share_of) := ⟨rfl, rfl, rfl, by decide +kernel, rfl, by decide +kernel, by decide +kernel⟩
theorem ok_Table_share_of (T : Tx K mg) : Ok P w K mg base 4 (He.ma K (He.ga K "Table") "share_of") ["self", "text"] (spSTable K) := by
  refine ok_mk (f_Table_share_of T) (df_kp (f_Table_share_of T)) sc_Table_share_of (fun _ _ _ _ _ _ us hl => match us, hl with | [_, _], _ => rfl) (fun vs H Q E h => ?_) (fun cdv A outer s H vs Q E hr h => ?_)
  · obtain ⟨G, v, ws, e, rfl, _⟩ := h
    rfl
  · obtain ⟨G, v, ws, e, rfl, sm, rv, W, hm, k⟩ := h
    obtain ⟨a, dx, d, rfl, ha, rw_⟩ := id rv
    refine ⟨_, (pss_one (ps_ret (pe_k (k_Share T) (ok_Share_init T) (hr.mono (by decide)) rfl (g_Share T) (pa_cons (pe_m (pv 0) (c_Table T) (m_Table_weight_of T) (ok_Table_weight_of T) (hr.mono (by decide)) (pa_cons (pv 1) pa_nil)) (pa_cons (pe_f (c_Table T) (n_Table_whole T) (pv 0)) pa_nil))))), ?_⟩
    refine ⟨_, rfl, a, dx, _, rfl, sm _ _ ha, rfl, _, rfl, G, _, ws, e, rfl, sm, rv, W, hm, _, rfl, a, dx, _, _, rfl, sm _ _ ha, rfl, ?_⟩
    exact sh_new (M := nM) (sum_pos W.pos W.ne) (pow_up W.big (by decide)) (Nw.refl sm) k
def spTMachine (K : PySem.W.Frag) : Sp := fun vs H Q _ => ∃ G v ws, vs = [v] ∧ Same G H ∧ rMac K G v ws ∧ Wds ws ∧ Ret nM G H (rTf V.str) (ws.map (·.1)) Q
theorem sc_Machine_texts : FnScope ["self"] ["self"] (defScope s_Machine_texts) := ⟨rfl, rfl, rfl, by decide +kernel, rfl, by decide +kernel, by decide +kernel⟩
theorem ok_Machine_texts (T : Tx K mg) : Ok P w K mg base 1 (He.ma K (He.ga K "Machine") "texts") ["self"] (spTMachine K) := by
  refine ok_mk (f_Machine_texts T) (df_kp (f_Machine_texts T)) sc_Machine_texts (fun _ _ _ _ _ _ us hl => match us, hl with | [_], _ => rfl) (fun vs H Q E h => ?_) (fun cdv A outer s H vs Q E hr h => ?_)
  · obtain ⟨G, v, ws, rfl, _⟩ := h
    rfl
  · obtain ⟨G, v, ws, rfl, sm, ⟨a, dx, d, a1, a2, a3, a4, a5, rfl, ha, es, hd, pm⟩, W, k⟩ := h
    refine ⟨_, (pss_one (ps_ret (pe_callTy call_tuple_of (by rfl) (b_tuple T) (by decide +kernel) (pa_cons (pe_callB (call_sortedD rfl) (by rfl) (b_sorted T) (by decide +kernel) (pa_cons (pe_f (c_Machine T) (n_Machine_weights T) (pv 0)) pa_nil)) pa_nil)))), ?_⟩
    have hl := pm.length_eq
    have pf := pm.map (fun e : Wd => e.1)
    refine ⟨_, rfl, a, dx, _, _, rfl, sm _ _ ha, rfl, d, es.map kWd, es.map (fun e : Wd => e.1), rfl, Rd.of (sm _ _ hd), wd_keys es, by rw [List.length_map]; have := W.few; omega, fun ys p pm2 so hp => ?_⟩
    have ey : ys = ws.map (·.1) := srt_uniq (srt_perm so (pm2.trans pf) W.srt.nd) W.srt fun t => (pm2.trans pf).mem_iff
    subst ey
    refine ⟨p, _, rfl, .inl ⟨SqL.of upd_same, fun l hl => ?_⟩⟩
    exact k _ _ _ (((Nw.refl sm).allocH hp).alloc hl) ⟨l, rfl, upd_same⟩
def spWMachine (K : PySem.W.Frag) : Sp := fun vs H Q _ => ∃ G v ws e, vs = [v, .str e.1] ∧ Same G H ∧ rMac K G v ws ∧ Wds ws ∧ e ∈ ws ∧ Q (.int e.2) H
theorem sc_Machine_weight_of : FnScope ["self", "text"] ["self", "text"] (defScope s_Machine_weight_of) := ⟨rfl, rfl, rfl, by decide +kernel, rfl, by decide +kernel, by decide +kernel⟩
theorem ok_Machine_weight_of (T : Tx K mg) : Ok P w K mg base 1 (He.ma K (He.ga K "Machine") "weight_of") ["self", "text"] (spWMachine K) := by
  refine ok_mk (f_Machine_weight_of T) (df_kp (f_Machine_weight_of T)) sc_Machine_weight_of (fun _ _ _ _ _ _ us hl => match us, hl with | [_, _], _ => rfl) (fun vs H Q E h => ?_) (fun cdv A outer s H vs Q E hr h => ?_)
  · obtain ⟨G, v, ws, e, rfl, _⟩ := h
    rfl
  · obtain ⟨G, v, ws, e, rfl, sm, ⟨a, dx, d, a1, a2, a3, a4, a5, rfl, ha, es, hd, pm⟩, W, hm, k⟩ := h
    have nd : (es.map (fun e : Wd => e.1)).Nodup := (pm.map _).nodup_iff.mpr W.srt.nd
    have hv := wd_val nd (pm.mem_iff.mpr hm)
    refine ⟨_, (pss_one (ps_ret (pe_dget2 (hu_of hr) (pe_f (c_Machine T) (n_Machine_weights T) (pv 0)) (pv 1) pe_int ⟨by rfl, by rfl, by rfl, by rfl⟩))), ?_⟩
    refine ⟨_, rfl, a, dx, _, _, rfl, sm _ _ ha, rfl, d, rfl, .inl ⟨_, Rd.of (sm _ _ hd)⟩, _, rfl, _, DGet.k (k := .inr e.1) (sm _ _ hd), ?_⟩
    rw [hv]
    exact k
def spSMachine (K : PySem.W.Frag) : Sp := fun vs H Q _ => ∃ G v ws e, vs = [v, .str e.1] ∧ Same G H ∧ rMac K G v ws ∧ Wds ws ∧ e ∈ ws ∧ Ret nM G H (rSh K) ((e.2 : Rat) / (total ws : Rat)) Q
theorem sc_Machine_share_of : FnScope ["self", "text"] ["self", "text"] (defScope s_Machine_share_of) := ⟨rfl, rfl, rfl, by decide +kernel, rfl, by decide +kernel, by decide +kernel⟩
theorem ok_Machine_share_of (T : Tx K mg) : Ok P w K mg base 4 (He.ma K (He.ga K "Machine") "share_of") ["self", "text"] (spSMachine K) := by
  refine ok_mk (f_Machine_share_of T) (df_kp (f_Machine_share_of T)) sc_Machine_share_of (fun _ _ _ _ _ _ us hl => match us, hl with | [_, _], _ => rfl) (fun vs H Q E h => ?_) (fun cdv A outer s H vs Q E hr h => ?_)
  · obtain ⟨G, v, ws, e, rfl, _⟩ := h
    rfl
  · obtain ⟨G, v, ws, e, rfl, sm, rv, W, hm, k⟩ := h
    obtain ⟨a, dx, d, a1, a2, a3, a4, a5, rfl, ha, rw_⟩ := id rv
    refine ⟨_, (pss_one (ps_ret (pe_k (k_Share T) (ok_Share_init T) (hr.mono (by decide)) rfl (g_Share T) (pa_cons (pe_m (pv 0) (c_Machine T) (m_Machine_weight_of T) (ok_Machine_weight_of T) (hr.mono (by decide)) (pa_cons (pv 1) pa_nil)) (pa_cons (pe_f (c_Machine T) (n_Machine_whole T) (pv 0)) pa_nil))))), ?_⟩
    refine ⟨_, rfl, a, dx, _, rfl, sm _ _ ha, rfl, _, rfl, G, _, ws, e, rfl, sm, rv, W, hm, _, rfl, a, dx, _, _, rfl, sm _ _ ha, rfl, ?_⟩
    exact sh_new (M := nM) (sum_pos W.pos W.ne) (pow_up W.big (by decide)) (Nw.refl sm) k
/-! ### a source, be it a table or a machine -/
end
section
variable {X : Cx} {K : PySem.W.Frag} {i : Nat} {e : Expr}
theorem u65 {k : Nat} {A : Around} (r : Room k A) : A.units + 65 < cLine := by have := r.un; omega
def tSrcT (K : PySem.W.Frag) (i : Nat) : TE := fun σ H Q => ∃ v, σ[i]? = some (some v) ∧ ∃ G ws, Same G H ∧ rSrc K G v ws ∧ Wds ws ∧ Ret nM G H (rTf V.str) (ws.map (·.1)) Q
theorem pe_src_texts (hK : X.K = K) (h1 : PE X e (tMet (He.ga K "Table") "texts" (spTTable K) (tVar i) tNil)) (h2 : PE X e (tMet (He.ga K "Machine") "texts" (spTMachine K) (tVar i) tNil)) : PE X e (tSrcT K i) := by
  subst hK
  refine pe_imp (pe_orE h1 h2) fun σ H Q ⟨v, hv, G, ws, sm, r, W, k⟩ => r.elim (fun r => .inl ?_) fun r => .inr ?_
  · obtain ⟨a, dx, d, rfl, ha, q⟩ := id r
    exact ⟨_, hv, a, dx, _, rfl, sm _ _ ha, rfl, G, _, ws, rfl, sm, r, W, k⟩
  · obtain ⟨a, dx, d, a1, a2, a3, a4, a5, rfl, ha, q⟩ := id r
    exact ⟨_, hv, a, dx, _, rfl, sm _ _ ha, rfl, G, _, ws, rfl, sm, r, W, k⟩
def tSrcW (K : PySem.W.Frag) (i j : Nat) : TE := fun σ H Q => ∃ v, σ[i]? = some (some v) ∧ ∃ G ws e, σ[j]? = some (some (.str e.1)) ∧ Same G H ∧ rSrc K G v ws ∧ Wds ws ∧ e ∈ ws ∧ Q (.int e.2) H
theorem pe_src_weight_of {j : Nat} (hK : X.K = K) (h1 : PE X e (tMet (He.ga K "Table") "weight_of" (spWTable K) (tVar i) (tCons (tVar j) tNil))) (h2 : PE X e (tMet (He.ga K "Machine") "weight_of" (spWMachine K) (tVar i) (tCons (tVar j) tNil))) : PE X e (tSrcW K i j) := by
  subst hK
  refine pe_imp (pe_orE h1 h2) fun σ H Q ⟨v, hv, G, ws, e, hj, sm, r, W, k⟩ => r.elim (fun r => .inl ?_) fun r => .inr ?_
  · obtain ⟨a, dx, d, rfl, ha, q⟩ := id r
    exact ⟨_, hv, a, dx, _, rfl, sm _ _ ha, rfl, _, hj, G, _, ws, e, rfl, sm, r, W, k⟩
  · obtain ⟨a, dx, d, a1, a2, a3, a4, a5, rfl, ha, q⟩ := id r
    exact ⟨_, hv, a, dx, _, rfl, sm _ _ ha, rfl, _, hj, G, _, ws, e, rfl, sm, r, W, k⟩
def tSrcS (K : PySem.W.Frag) (i j : Nat) : TE := fun σ H Q => ∃ v, σ[i]? = some (some v) ∧ ∃ G ws e, σ[j]? = some (some (.str e.1)) ∧ Same G H ∧ rSrc K G v ws ∧ Wds ws ∧ e ∈ ws ∧ Ret nM G H (rSh K) ((e.2 : Rat) / (total ws : Rat)) Q
theorem pe_src_share_of {j : Nat} (hK : X.K = K) (h1 : PE X e (tMet (He.ga K "Table") "share_of" (spSTable K) (tVar i) (tCons (tVar j) tNil))) (h2 : PE X e (tMet (He.ga K "Machine") "share_of" (spSMachine K) (tVar i) (tCons (tVar j) tNil))) : PE X e (tSrcS K i j) := by
  subst hK
  refine pe_imp (pe_orE h1 h2) fun σ H Q ⟨v, hv, G, ws, e, hj, sm, r, W, k⟩ => r.elim (fun r => .inl ?_) fun r => .inr ?_
  · obtain ⟨a, dx, d, rfl, ha, q⟩ := id r
    exact ⟨_, hv, a, dx, _, rfl, sm _ _ ha, rfl, _, hj, G, _, ws, e, rfl, sm, r, W, k⟩
  · obtain ⟨a, dx, d, a1, a2, a3, a4, a5, rfl, ha, q⟩ := id r
    exact ⟨_, hv, a, dx, _, rfl, sm _ _ ha, rfl, _, hj, G, _, ws, e, rfl, sm, r, W, k⟩
def tSrcL (K : PySem.W.Frag) (i : Nat) : TE := fun σ H Q => ∃ v, σ[i]? = some (some v) ∧ ∃ G ws, Same G H ∧ rSrc K G v ws ∧ Q (.int (total ws)) H
theorem pe_src_whole (hK : X.K = K) (h1 : PE X e (tFl (He.ga K "Table") "whole" (tVar i))) (h2 : PE X e (tFl (He.ga K "Machine") "whole" (tVar i))) : PE X e (tSrcL K i) := by
  subst hK
  refine pe_imp (pe_orE h1 h2) fun σ H Q ⟨v, hv, G, ws, sm, r, k⟩ => r.elim (fun r => .inl ?_) fun r => .inr ?_
  · obtain ⟨a, dx, d, rfl, ha, q⟩ := id r
    exact ⟨_, hv, a, dx, _, _, rfl, sm _ _ ha, rfl, k⟩
  · obtain ⟨a, dx, d, a1, a2, a3, a4, a5, rfl, ha, q⟩ := id r
    exact ⟨_, hv, a, dx, _, _, rfl, sm _ _ ha, rfl, k⟩
end
section
variable {P : Program} {w : World} {K : PySem.W.Frag} {mg : Str → Option Value} {base : Heap}
/-! ### known -/
def spKn (K : PySem.W.Frag) : Sp := fun vs H Q _ => ∃ G v c ws rows, vs = [v, c] ∧ Same G H ∧ rSrc K G v ws ∧ Wds ws ∧ rCh K G c rows ∧ (rows.map (·.1)).Nodup ∧ (∀ e ∈ ws, e.1 ∈ rows.map (·.1)) ∧ ∀ G' H', Nw nM G H G' H' → Q .non H'
theorem sc_known : FnScope ["source", "changes", "text"] ["source", "changes"] (defScope s_known) := ⟨rfl, rfl, rfl, by decide +kernel, rfl, by decide +kernel, by decide +kernel⟩
theorem ok_known (T : Tx K mg) : Ok P w K mg base 2 (He.ga K "known") ["source", "changes"] (spKn K) := by
  refine ok_mk (f_known T) (df_kp (f_known T)) sc_known (fun _ _ _ _ _ _ us hl => match us, hl with | [_, _], _ => rfl) (fun vs H Q E h => ?_) (fun cdv A outer s H vs Q E hr h => ?_)
  · obtain ⟨G, v, c, ws, rows, rfl, _⟩ := h
    rfl
  · obtain ⟨G, v, c, ws, rows, rfl, sm, rs, W, rc, nd, hin, k⟩ := h
    refine ⟨_, (pss_one (ps_for PassesOwn.never rfl (pi_tup (pe_src_texts (K := K) rfl (pe_m0 (pv 0) (c_Table T) (m_Table_texts T) (ok_Table_texts T) (hr.mono (by decide))) (pe_m0 (pv 0) (c_Machine T) (m_Machine_texts T) (ok_Machine_texts T) (hr.mono (by decide))))) (pg_name (i := 2) sc_known.nd rfl (Or.inl rfl))
      (pss_one (ps_expr (pe_m (pv 1) (c_Changes T) (m_Changes_of T) (ok_Changes_of T) (hr.mono (by decide)) (pa_cons (pv 2) pa_nil)))))), ?_⟩
    refine ⟨_, rfl, G, ws, sm, rs, W, fun v' G1 H1 n1 ⟨p, e, hp⟩ => ⟨p, e, ⟨_, SqT.of (n1.gh _ _ hp)⟩, ?_⟩⟩
    subst e
    have hp1 := n1.gh _ _ hp
    refine for_it (walk_tup (xs := (ws.map (·.1)).map V.str)) (fun i σ H' => ∃ x, σ = [some v, some c, x] ∧ H' = H1) ⟨none, rfl, rfl⟩ (fun i σ H' _ h => by obtain ⟨x, rfl, rfl⟩ := h; exact SqT.of hp1) ?_ ?_
    · rintro i x σ H2 H3 hi ⟨x0, rfl, rfl⟩ ⟨rfl, hx⟩
      rw [List.getElem?_map] at hx
      cases hw : (ws.map (·.1))[i]? with
      | none => rw [hw] at hx; cases hx
      | some t =>
        rw [hw] at hx
        obtain rfl := (Option.some.inj hx).symm
        obtain ⟨e, he, e1⟩ := List.mem_map.mp (List.mem_of_getElem? hw)
        obtain ⟨r, hr2, e2⟩ := List.mem_map.mp (hin e he)
        obtain ⟨ca, cdx, cd, kvs, rfl, hca, hcd, pk⟩ := id rc
        refine ⟨_, rfl, ca, cdx, _, rfl, n1.gh _ _ (n1.gg _ _ hca), rfl, _, rfl, G1, _, rows, r, ?_, n1.gh, Mono.mono n1.gg rc, nd, hr2, fun u _ => ⟨some (.str t), rfl, rfl⟩⟩
        rw [e2, e1]
    · rintro σ H2 ⟨x0, rfl, rfl⟩
      exact k G1 _ n1
end
end Mk

-- S1
set_option Elab.async false
set_option linter.all false
set_option maxRecDepth 100000
set_option maxHeartbeats 4000000
set_option exponentiation.threshold 20000
namespace Mk
open PySem PySem.Spec PyProof.Rows L2
open C8 (InsC call_isC)
/-! ### the solver: a table of lists -/
theorem at_nat {α : Type} {xs : List α} {i : Nat} (h : i < xs.length) : atI xs (i : Int) = xs[i]? := by
  unfold atI ixN
  rw [if_pos (by omega), if_pos (by omega)]
  rfl
theorem at_last {α : Type} {xs : List α} {n : Nat} (h : xs.length = n + 1) : atI xs (-1) = xs[n]? := by
  unfold atI ixN
  rw [if_neg (by omega), if_pos (by omega)]
  show xs[(-1 + (xs.length : Int)).toNat]? = _
  rw [show (-1 + (xs.length : Int)).toNat = n by omega]
theorem cut_last {xs : List V} {n : Nat} (h : xs.length = n + 1) : cutV xs none (some (-1)) = xs.take n := by
  show (xs.drop 0).take ((if (-1 : Int) < 0 then (-1 + (xs.length : Int)).toNat else min (-1 : Int).toNat xs.length) - 0) = _
  rw [if_pos (by decide), h, List.drop_zero]
  congr 1
  omega
/-- a list comprehension whose turns make passing objects only -/
theorem lcN {J : It} {n : Nat} {Gd : Hp → Prop} {Y : Nat → Hp → V → Hp → Prop} (w : Walk J n Gd Y) {G : Hp} {g : TG} {te : TE} {own : List Nat} {σ : L2.St} {H1 : Hp} {D : Addr} {Qd : Hp → Prop} (ys : List V) (hl : ys.length = n) (hn : n ≤ 100000)
    (sm : Same G H1) (hD : H1 D = none) (hG : ∀ H', Nw nM G H1 G H' → Gd H')
    (hs : ∀ i x Hc H' y (Ky : V → Hp → Prop), i < n → ys[i]? = some y → Nw nM G H1 G Hc → Y i Hc x H' → (∀ H4, Nw nM G Hc G H4 → Ky y H4) → g x (wipe σ own) H' fun σ2 H2 => wipe σ2 own = wipe σ own ∧ te σ2 H2 Ky)
    (hd : ∀ H', Nw nM G H1 G H' → H' D = some (.lst ys) → Qd H') :
    ∃ W : Nat → Nat → Hp → Prop, (∃ m, W 0 m (upd H1 D (.lst []))) ∧ ∀ i m H, W i m H →
      (J.stop i H ∧ Qd H) ∨ (J.go i H ∧ ∃ Nx : Hp → Prop, (∀ H', Nx H' → ∃ m', m' < m ∧ W (i + 1) m' H') ∧ ∀ x H', J.yld i H x H' → g x (wipe σ own) H' fun σ2 H2 => wipe σ2 own = wipe σ own ∧ tYes σ2 H2 fun b H3 =>
        if b = true then te σ2 H3 fun y H4 => ∃ acc, H4 D = some (.lst acc) ∧ acc.length < sizeLine ∧ Nx (upd H4 D (.lst (acc ++ [y]))) else Nx H3) := by
  have gD := sm.free hD
  refine lc_it w (fun i H => Nw nM G H1 G H ∧ H D = some (.lst (ys.take i))) ⟨(Nw.refl sm).allocH hD, upd_same⟩ (fun i H _ e => hG _ e.1) (fun i x H H' hi e y => ?_) fun H e => hd H e.1 (by rw [e.2, List.take_of_length_le (by omega)])
  obtain ⟨n1, hd1⟩ := e
  have hyi : ys[i]? = some ys[i] := List.getElem?_eq_getElem (by omega)
  refine hs i x H H' _ _ hi hyi n1 y fun H4 n2 => ⟨ys.take i, n2.hh _ _ (fun z => z) hd1, ?_, (n1.trans n2).putH hD gD, ?_⟩
  · rw [List.length_take, sizeLine_eq]
    omega
  · rw [upd_same, List.take_add_one, hyi]
    rfl
section
variable {P : Program} {w : World} {K : PySem.W.Frag} {mg : Str → Option Value} {base : Heap}
def rowV (N : Nat) (f : Nat → Int) : List V := (List.range N).map fun j => .int (f j)
theorem rowV_len (N : Nat) (f : Nat → Int) : (rowV N f).length = N := by simp [rowV]
theorem rowV_at {N : Nat} (f : Nat → Int) {j : Nat} (h : j < N) : (rowV N f)[j]? = some (.int (f j)) := by simp [rowV, h]
theorem rowV_of {N : Nat} {f : Nat → Int} {j : Nat} {v : V} (h : (rowV N f)[j]? = some v) : j < N ∧ v = .int (f j) := by
  have hj := (List.getElem?_eq_some_iff.mp h).1
  rw [rowV_len] at hj
  rw [rowV_at f hj] at h
  exact ⟨hj, (Option.some.inj h).symm⟩
/-- the list of lists at pr -/
def TabV (p : Prob) (G : Hp) (pr : Addr) (T : Nat → Nat → Int) : Prop := ∃ rs, G pr = some (.lst rs) ∧ rs.length = p.m + 1 ∧ ∀ i, i ≤ p.m → ∃ q, rs[i]? = some (.ref q) ∧ G q = some (.lst (rowV (p.N + 1) (T i)))
theorem TabV.mono {p : Prob} {G G' : Hp} {pr : Addr} {T : Nat → Nat → Int} (s : Same G G') : TabV p G pr T → TabV p G' pr T := fun ⟨rs, h1, h2, h3⟩ => ⟨rs, s _ _ h1, h2, fun i hi => let ⟨q, a, b⟩ := h3 i hi; ⟨q, a, s _ _ b⟩⟩
def solO (K : PySem.W.Frag) (dx pr pb : Addr) (d : Int) : HO := .ins (He.ga K "Solver") dx [("rows", .ref pr), ("divisor", .int d), ("basis", .ref pb)]
/-- the solver at a; the rows in G, the object and the basis in H -/
def SolV (K : PySem.W.Frag) (p : Prob) (G H : Hp) (a pb : Addr) (s : Tab) : Prop := ∃ dx pr, H a = some (solO K dx pr pb s.d) ∧ TabV p G pr s.T ∧ H pb = some (.lst (rowV p.m fun k => (s.b k : Int)))
theorem SolV.read {p : Prob} {G H : Hp} {a pb : Addr} {s : Tab} (sm : Same G H) : SolV K p G H a pb s → SolV K p H H a pb s := fun ⟨dx, pr, h1, h2, h3⟩ => ⟨dx, pr, h1, h2.mono sm, h3⟩
theorem SolV.mono {p : Prob} {G H G' H' : Hp} {a pb : Addr} {s : Tab} (s1 : Same G G') (s2 : Same H H') : SolV K p G H a pb s → SolV K p G' H' a pb s := fun ⟨dx, pr, h1, h2, h3⟩ => ⟨dx, pr, s2 _ _ h1, h2.mono s1, s2 _ _ h3⟩
theorem tyL {H : Hp} {p : Addr} {xs : List V} (h : H p = some (.lst xs)) : tyV K "list" (.ref p) H := .inl ⟨rfl, xs, SqL.of h⟩
theorem tyD {H : Hp} {p : Addr} {kvs : List (Key × V)} (h : H p = some (.dK kvs)) : tyV K "dict" (.ref p) H := .inr (.inr (.inl ⟨rfl, .inl ⟨kvs, h⟩⟩))
def spRise (K : PySem.W.Frag) : Sp := fun vs H Q _ => ∃ (G : Hp) (a pb : Addr) (p : Prob) (s : Tab), vs = [.ref a] ∧ Same G H ∧ SolV K p H H a pb s ∧ p.N ≤ 1000 ∧
  (∀ c H', s.Rise p c → Nw nM G H G H' → Q (.int c) H') ∧ (∀ H', s.Opt p → Nw nM G H G H' → Q .non H')
theorem sc_Solver_rising : FnScope ["self", "column", "entry"] ["self"] (defScope s_Solver_rising) := ⟨rfl, rfl, rfl, by decide +kernel, rfl, by decide +kernel, by decide +kernel⟩
theorem ok_Solver_rising (T : Tx K mg) : Ok P w K mg base 1 (He.ma K (He.ga K "Solver") "rising") ["self"] (spRise K) := by
  refine ok_mk (f_Solver_rising T) (df_kp (f_Solver_rising T)) sc_Solver_rising (fun _ _ _ _ _ _ us hl => match us, hl with | [_], _ => rfl) (fun vs H Q E h => ?_) (fun cdv A outer s0 H vs Q E hr h => ?_)
  · obtain ⟨G, a, pb, p, s, rfl, _⟩ := h
    rfl
  · obtain ⟨G, a, pb, p, s, rfl, sm, ⟨dx, pr, ha, ⟨rs, hrs, lrs, hrow⟩, hb⟩, hN, k1, k2⟩ := h
    refine ⟨_, (pss_cons (ps_for PassesOwn.never rfl (pi_enumX (by rfl) (b_enumerate T) (pa_cons (pe_slice sl_list (pe_ix ix_list (pe_f (c_Solver T) (n_Solver_rows T) (pv 0)) (pe_un un_neg pe_int) (fun _ _ => rfl)) po_none (po_some (pe_un un_neg pe_int))) pa_nil)) (pg_tup rfl (pgs_cons (pg_name (i := 1) sc_Solver_rising.nd rfl (Or.inl rfl)) (pgs_cons (pg_name (i := 2) sc_Solver_rising.nd rfl (Or.inl rfl)) pgs_nil)))
      (pss_one (ps_if (pt_cmpR op_lt (pv 2) pe_int (nomark _))
        (pss_one (ps_ret (pv 1)))
        pss_nil)))
      (pss_one (ps_ret pe_non))), ?_⟩
    obtain ⟨q, hq1, hq2⟩ := hrow p.m (Nat.le_refl _)
    refine ⟨_, rfl, a, dx, _, _, rfl, ha, rfl, _, rfl, pr, rs, _, _, rfl, rfl, SqL.of hrs, (at_last lrs).trans hq1, ?_⟩
    refine ⟨_, rfl, _, rfl, q, _, rfl, SqL.of hq2, fun D hD => ?_⟩
    rw [cut_last (rowV_len _ _)]
    have n1 := (Nw.refl (M := nM) sm).allocH (o := .lst ((rowV (p.N + 1) (s.T p.m)).take p.N)) hD
    have hD1 : upd H D (.lst ((rowV (p.N + 1) (s.T p.m)).take p.N)) D = some (.lst ((rowV (p.N + 1) (s.T p.m)).take p.N)) := upd_same
    generalize upd H D (.lst ((rowV (p.N + 1) (s.T p.m)).take p.N)) = H1 at n1 hD1
    have lx : ((rowV (p.N + 1) (s.T p.m)).take p.N).length = p.N := by rw [List.length_take, rowV_len]; omega
    refine ⟨.lst D, _, rfl, Rd.of hD1, ?_⟩
    refine for_it (walk_enumX (q := .lst D)) (fun i σ H' => ∃ x y, σ = [some (.ref a), x, y] ∧ Nw nM G H G H' ∧ H' D = some (.lst ((rowV (p.N + 1) (s.T p.m)).take p.N)) ∧ ∀ j, j < i → 0 ≤ s.T p.m j)
      ⟨none, none, rfl, n1, hD1, fun j h => absurd h (Nat.not_lt_zero _)⟩ (fun i σ H' _ h => by obtain ⟨x, y, rfl, _, h, _⟩ := h; exact Rd.of h) ?_ ?_
    · rintro i v σ H2 H3 hi ⟨x, y, rfl, n2, hD2, hj⟩ ⟨T1, y1, y2, rfl, hT1, rfl, e1, e2⟩
      have e1 := (Option.some.inj e1).symm
      subst e1
      rw [lx] at hi
      have e2 : ((rowV (p.N + 1) (s.T p.m)).take p.N)[i]? = some y2 := e2
      rw [List.getElem?_take_of_lt hi, rowV_at _ (by omega)] at e2
      have e2 := (Option.some.inj e2).symm
      subst e2
      have n3 := n2.allocH (o := .tup [.int (i : Nat), .int (s.T p.m i)]) hT1
      refine ⟨T1, _, rfl, SqT.of upd_same, rfl, _, _, rfl, _, _, rfl, rfl, ?_⟩
      refine ⟨_, rfl, _, _, rfl, rfl, _, rfl, ite2 (fun c => ?_) fun c => ?_⟩
      · exact ⟨_, rfl, k1 i _ ⟨hi, of_decide_eq_true c, hj⟩ n3⟩
      · refine ⟨_, _, rfl, n3, get_new hD2 hT1, fun j hji => ?_⟩
        by_cases e : j = i
        · subst e
          have : ¬ s.T p.m j < 0 := fun z => c (decide_eq_true z)
          omega
        · exact hj j (by omega)
    · rintro σ H2 ⟨x, y, rfl, n2, hD2, hj⟩
      rw [lx] at hj
      exact k2 _ hj n2
def spPrice (K : PySem.W.Frag) : Sp := fun vs H Q _ => ∃ (a pb : Addr) (p : Prob) (s : Tab) (j : Nat), vs = [.ref a, .int j] ∧ SolV K p H H a pb s ∧ j ≤ p.N ∧ Q (.int (s.T p.m j)) H
theorem sc_Solver_price : FnScope ["self", "column"] ["self", "column"] (defScope s_Solver_price) := ⟨rfl, rfl, rfl, by decide +kernel, rfl, by decide +kernel, by decide +kernel⟩
theorem ok_Solver_price (T : Tx K mg) : Ok P w K mg base 1 (He.ma K (He.ga K "Solver") "price") ["self", "column"] (spPrice K) := by
  refine ok_mk (f_Solver_price T) (df_kp (f_Solver_price T)) sc_Solver_price (fun _ _ _ _ _ _ us hl => match us, hl with | [_, _], _ => rfl) (fun vs H Q E h => ?_) (fun cdv A outer s0 H vs Q E hr h => ?_)
  · obtain ⟨a, pb, p, s, j, rfl, _⟩ := h
    rfl
  · obtain ⟨a, pb, p, s, j, rfl, ⟨dx, pr, ha, ⟨rs, hrs, lrs, hrow⟩, hb⟩, hj, k⟩ := h
    refine ⟨_, (pss_one (ps_ret (pe_ix ix_list (pe_ix ix_list (pe_f (c_Solver T) (n_Solver_rows T) (pv 0)) (pe_un un_neg pe_int) (fun _ _ => rfl)) (pv 1) (fun _ _ => rfl)))), ?_⟩
    obtain ⟨q, hq1, hq2⟩ := hrow p.m (Nat.le_refl _)
    refine ⟨_, rfl, a, dx, _, _, rfl, ha, rfl, _, rfl, pr, rs, _, _, rfl, rfl, SqL.of hrs, (at_last lrs).trans hq1, ?_⟩
    exact ⟨_, rfl, q, _, _, _, rfl, rfl, SqL.of hq2, (at_nat (by rw [rowV_len]; omega)).trans (rowV_at _ (by omega)), k⟩
def spTold (K : PySem.W.Frag) : Sp := fun vs H Q _ => ∃ (a pb : Addr) (p : Prob) (s : Tab) (X : Nat → Int) (j : Nat), vs = [.ref a, .int j] ∧ SolV K p H H a pb s ∧ s.Told p X ∧ Q (.int (X j)) H
theorem sc_Solver_told : FnScope ["self", "column"] ["self", "column"] (defScope s_Solver_told) := ⟨rfl, rfl, rfl, by decide +kernel, rfl, by decide +kernel, by decide +kernel⟩
theorem flat_row (N : Nat) (f : Nat → Int) : (rowV N f).all flatV = true := by
  rw [List.all_eq_true]
  intro x hx
  obtain ⟨j, hj⟩ := List.getElem?_of_mem hx
  rw [(rowV_of hj).2]
  rfl
theorem inV_row {N : Nat} {f : Nat → Int} {c : Int} : inV (.int c) (rowV N f) = true ↔ ∃ k, k < N ∧ f k = c := by
  unfold inV
  rw [List.any_eq_true]
  constructor
  · rintro ⟨x, hx, e⟩
    obtain ⟨j, hj⟩ := List.getElem?_of_mem hx
    obtain ⟨h1, rfl⟩ := rowV_of hj
    exact ⟨j, h1, by simpa [eqV] using e⟩
  · rintro ⟨k, hk, rfl⟩
    exact ⟨.int (f k), List.mem_of_getElem? (rowV_at f hk), by simp [eqV]⟩
theorem first_at {P : Nat → Prop} : ∀ {n : Nat}, P n → ∃ k, P k ∧ k ≤ n ∧ ∀ j, j < k → ¬ P j := by
  intro n
  induction n using Nat.strongRecOn with
  | _ n ih =>
    intro h
    rcases Classical.em (∃ j, j < n ∧ P j) with ⟨j, hj, pj⟩ | z
    · obtain ⟨k, a, b, c⟩ := ih j hj pj
      exact ⟨k, a, by omega, c⟩
    · exact ⟨n, h, Nat.le_refl _, fun j hj pj => z ⟨j, hj, pj⟩⟩
theorem ok_Solver_told (T : Tx K mg) : Ok P w K mg base 1 (He.ma K (He.ga K "Solver") "told") ["self", "column"] (spTold K) := by
  refine ok_mk (f_Solver_told T) (df_kp (f_Solver_told T)) sc_Solver_told (fun _ _ _ _ _ _ us hl => match us, hl with | [_, _], _ => rfl) (fun vs H Q E h => ?_) (fun cdv A outer s0 H vs Q E hr h => ?_)
  · obtain ⟨a, pb, p, s, X, j, rfl, _⟩ := h
    rfl
  · obtain ⟨a, pb, p, s, X, j, rfl, ⟨dx, pr, ha, ⟨rs, hrs, lrs, hrow⟩, hb⟩, hX, k⟩ := h
    refine ⟨_, (pss_cons (ps_if (pt_cmpR op_in_seq (pv 1) (pe_f (c_Solver T) (n_Solver_basis T) (pv 0)) (by rfl))
        (pss_one (ps_ret (pe_ix ix_list (pe_ix ix_list (pe_f (c_Solver T) (n_Solver_rows T) (pv 0)) (pe_bm PySem.F.plainAttrs_list PySem.F.slot_list_index PySem.F.type_list_index mt_index (pe_f (c_Solver T) (n_Solver_basis T) (pv 0)) (pa_cons (pv 1) pa_nil)) (fun _ _ => rfl)) (pe_un un_neg pe_int) (fun _ _ => rfl))))
        pss_nil)
      (pss_one (ps_ret pe_int))), ?_⟩
    refine ⟨_, rfl, _, rfl, a, dx, _, _, rfl, ha, rfl, pb, _, rfl, .inl (SqL.of hb), rfl, flat_row _ _, _, rfl, ite2 (fun c => ?_) fun c => ?_⟩
    · have c : inV (.int j) (rowV p.m fun k => (s.b k : Int)) = true := c
      obtain ⟨k0, h0, e0⟩ := inV_row.mp c
      obtain ⟨i, ⟨hi, ei⟩, _, hf⟩ := first_at (P := fun k => k < p.m ∧ (s.b k : Int) = j) ⟨h0, e0⟩
      obtain ⟨q, hq1, hq2⟩ := hrow i (by omega)
      have eX : X j = s.T i p.N := by
        have := hX.yes i hi
        rw [show s.b i = j by omega] at this
        exact this
      refine ⟨_, rfl, a, dx, _, _, rfl, ha, rfl, ?_⟩
      refine ⟨_, rfl, a, dx, _, _, rfl, ha, rfl, tyL hb, _, rfl, pb, _, _, i, _, rfl, rfl, SqL.of hb, rfl, flat_row _ _, rowV_at _ hi, by simpa [eqV] using ei, ?_, ?_⟩
      · intro m z hm hz
        obtain ⟨_, rfl⟩ := rowV_of hz
        have := hf m hm
        have : ¬ (s.b m : Int) = j := fun e => this ⟨by omega, e⟩
        simpa [eqV] using this
      · refine ⟨pr, rs, _, _, rfl, rfl, SqL.of hrs, (at_nat (by omega)).trans hq1, _, rfl, q, _, _, _, rfl, rfl, SqL.of hq2, (at_last (rowV_len _ _)).trans (rowV_at _ (by omega)), ?_⟩
        rw [eX] at k
        exact k
    · have nX : X j = 0 := hX.no j fun i hi e => c (inV_row.mpr ⟨i, hi, by omega⟩)
      rw [nX] at k
      exact k
def spExch (K : PySem.W.Frag) : Sp := fun vs H Q _ => ∃ (G : Hp) (a pb : Addr) (p : Prob) (s : Tab) (r c : Nat), vs = [.ref a, .int r, .int c] ∧ Same G H ∧ SolV K p G H a pb s ∧ G a = none ∧ G pb = none ∧ s.Ok p ∧ p.Ok (2 ^ 280) ∧ p.m ≤ 24 ∧ p.N ≤ 1000 ∧ s.Bnd p r c ∧
  ∀ G' H', Nw (fun b => b = a ∨ b = pb) G H G' H' → SolV K p G' H' a pb (s.exch r c) → G' a = none → G' pb = none → Q .non H'
theorem sc_Solver_exchange : FnScope ["self", "at", "column", "row", "pivot", "made", "other", "entries", "one", "own"] ["self", "at", "column"] (defScope s_Solver_exchange) := ⟨rfl, rfl, rfl, by decide +kernel, rfl, by decide +kernel, by decide +kernel⟩
theorem row_set {N r : Nat} {f : Nat → Int} {c : Int} (h : r < N) : (rowV N f).set r (.int c) = rowV N fun k => if k = r then c else f k := by
  refine List.ext_getElem? fun i => ?_
  by_cases hi : i < N
  · rw [rowV_at _ hi, List.getElem?_set]
    by_cases e : r = i
    · subst e
      rw [if_pos rfl, if_pos (by rw [rowV_len]; exact h), if_pos rfl]
    · rw [if_neg e, rowV_at _ hi, if_neg (fun z => e z.symm)]
  · rw [List.getElem?_eq_none (by rw [List.length_set, rowV_len]; omega), List.getElem?_eq_none (by rw [rowV_len]; omega)]
theorem ok_Solver_exchange (T : Tx K mg) : Ok P w K mg base 1 (He.ma K (He.ga K "Solver") "exchange") ["self", "at", "column"] (spExch K) := by
  refine ok_mk (f_Solver_exchange T) (df_kp (f_Solver_exchange T)) sc_Solver_exchange (fun _ _ _ _ _ _ us hl => match us, hl with | [_, _, _], _ => rfl) (fun vs H Q E h => ?_) (fun cdv A outer s0 H vs Q E hr h => ?_)
  · obtain ⟨G, a, pb, p, s, r, c, rfl, _⟩ := h
    rfl
  · obtain ⟨G, a, pb, p, s, r, c, rfl, sm, ⟨dx, pr, ha, ⟨rs, hrs, lrs, hrow⟩, hb⟩, ga, gb, o, pok, hm, hN, B, k⟩ := h
    refine ⟨_, (pss_cons (ps_set (i := 3) sc_Solver_exchange.nd rfl (Or.inl rfl) (pe_ix ix_list (pe_f (c_Solver T) (n_Solver_rows T) (pv 0)) (pv 1) (fun _ _ => rfl)))
      (pss_cons (ps_set (i := 4) sc_Solver_exchange.nd rfl (Or.inr rfl) (pe_ix ix_list (pv 3) (pv 2) (fun _ _ => rfl)))
      (pss_cons (ps_set (i := 5) sc_Solver_exchange.nd rfl (Or.inl rfl) (pe_lst pa_nil))
      (pss_cons (ps_for PassesOwn.never rfl (pi_enumX (by rfl) (b_enumerate T) (pa_cons (pe_f (c_Solver T) (n_Solver_rows T) (pv 0)) pa_nil)) (pg_tup rfl (pgs_cons (pg_name (i := 6) sc_Solver_exchange.nd rfl (Or.inl rfl)) (pgs_cons (pg_name (i := 7) sc_Solver_exchange.nd rfl (Or.inr rfl)) pgs_nil)))
      (pss_one (ps_if (pt_cmpR op_eq (pv 6) (pv 1) (nomark _))
        (pss_one (ps_expr (pe_bm PySem.F.plainAttrs_list PySem.F.slot_list_append PySem.F.type_list_append mt_append (pv 5) (pa_cons (pv 7) pa_nil))))
        (pss_one (ps_expr (pe_bm PySem.F.plainAttrs_list PySem.F.slot_list_append PySem.F.type_list_append mt_append (pv 5) (pa_cons (pe_lc (own := [("one", 8), ("own", 9)]) (g := (gTup K 2 (gCons (gName 8) (gCons (gName 9) gNil)))) (tt := tYes) rfl sc_Solver_exchange.nd (pi_zipX (by rfl) (b_zip T) (pa_cons (pv 7) (pa_cons (pv 3) pa_nil))) (blkOk_by (N := ["self", "at", "column", "row", "pivot", "made", "other", "entries", "one", "own"]) (sc := defScope s_Solver_exchange) (by decide +kernel)) (fun _ _ _ _ _ => (pg_tup rfl (pgs_cons (pg_name (i := 8) sc_Solver_exchange.nd rfl (Or.inl rfl)) (pgs_cons (pg_name (i := 9) sc_Solver_exchange.nd rfl (Or.inl rfl)) pgs_nil)))) (fun _ _ _ _ _ => pts_nil) (fun _ _ _ _ _ => (pe_op op_fdivW (pe_op op_sub (pe_op op_mulX (pv 8) (pv 4)) (pe_op op_mulX (pe_ix (show IxR _ (rIxL K) from ix_list) (pv 7) (pv 2) (fun _ _ => rfl)) (pv 9))) (pe_f (c_Solver T) (n_Solver_divisor T) (pv 0))))) pa_nil)))))))
      (pss_cons (ps_f (c_Solver T) (n_Solver_rows T) (pv 0) (pv 5))
      (pss_cons (ps_f (c_Solver T) (n_Solver_divisor T) (pv 0) (pv 4))
      (pss_one (ps_asg (pv 2) (pg_sub (pe_f (c_Solver T) (n_Solver_basis T) (pv 0)) (pv 1) set_list))))))))), ?_⟩
    have hr1 := B.hr
    have hc1 := B.hc
    obtain ⟨qr, hqr1, hqr2⟩ := hrow r (by omega)
    have hrsH := sm _ _ hrs
    refine ⟨_, rfl, a, dx, _, _, rfl, ha, rfl, _, rfl, pr, rs, _, _, rfl, rfl, SqL.of hrsH, (at_nat (by omega)).trans hqr1, ?_⟩
    refine ⟨_, rfl, _, rfl, qr, _, _, _, rfl, rfl, SqL.of (sm _ _ hqr2), (at_nat (by rw [rowV_len]; omega)).trans (rowV_at _ (by omega)), ?_⟩
    refine ⟨by exact Nat.zero_le _, fun D hD => ?_⟩
    have gD := sm.free hD
    have n1 := (Nw.refl (M := nM) sm).allocH (o := .lst []) hD
    have naD : a ≠ D := ne_of_none ha hD
    refine ⟨_, rfl, a, dx, _, _, rfl, get_new ha hD, rfl, .lst pr, rs, rfl, Rd.of (get_new hrsH hD), ?_⟩
    have hD1 : upd H D (.lst []) D = some (.lst []) := upd_same
    generalize upd H D (.lst []) = H1 at n1 hD1
    refine for_it (walk_enumX (q := .lst pr) (xs := rs)) (fun i σ H' => ∃ x y Gc rs', σ = [some (.ref a), some (.int r), some (.int c), some (.ref qr), some (.int (s.T r c)), some (.ref D), x, y, none, none] ∧ Nw nM G H Gc H' ∧ H' D = some (.lst rs') ∧ Gc D = none ∧ rs'.length = i ∧
        ∀ k, k < i → ∃ q, rs'[k]? = some (.ref q) ∧ Gc q = some (.lst (rowV (p.N + 1) ((s.exch r c).T k))))
      ⟨none, none, G, [], rfl, n1, hD1, gD, rfl, fun k h => absurd h (Nat.not_lt_zero _)⟩ (fun i σ H' _ h => by obtain ⟨x, y, Gc, rs', rfl, n, _⟩ := h; exact Rd.of (n.gh _ _ (n.gg _ _ hrs))) ?_ ?_
    · rintro i v σ H2 H3 hi ⟨x, y, Gc, rs', rfl, n2, hD2, gD2, lrs', hk⟩ ⟨T1, y1, y2, rfl, hT1, rfl, e1, e2⟩
      have e1 := (Option.some.inj e1).symm
      subst e1
      obtain ⟨q, hq1, hq2⟩ := hrow i (by omega)
      have e2 : some y2 = some (.ref q) := by rw [← hq1]; exact e2.symm
      injection e2 with e2
      subst e2
      have n3 := n2.allocH (o := .tup [.int (i : Nat), .ref q]) hT1
      have hT2 : upd H2 T1 (.tup [.int (i : Nat), .ref q]) T1 = some (.tup [.int (i : Nat), .ref q]) := upd_same
      have hD3 := get_new (o := .tup [.int (i : Nat), .ref q]) hD2 hT1
      generalize upd H2 T1 (.tup [.int (i : Nat), .ref q]) = H3 at n3 hT2 hD3
      have sG := n3.gg.trans n3.gh
      have hq3 := sG _ _ hq2
      have hqr3 := sG _ _ hqr2
      refine ⟨T1, _, rfl, SqT.of hT2, rfl, _, _, rfl, _, _, rfl, rfl, ?_⟩
      refine ⟨_, rfl, _, rfl, rfl, _, rfl, ite2 (fun z => ?_) fun z => ?_⟩
      · have e : i = r := by
          have z := of_decide_eq_true z
          injection z with z
          omega
        subst e
        refine ⟨_, rfl, tyL hD3, _, rfl, D, rs', _, rfl, rfl, hD3, by rw [lrs', sizeLine_eq]; omega, some (.int (i : Nat)), some (.ref q), Gc, _, rfl, n3.putH hD gD2, upd_same, gD2, by rw [List.length_append, lrs']; rfl, fun k' hki => ?_⟩
        by_cases e : k' = i
        · subst e
          refine ⟨q, by rw [List.getElem?_append_right (by omega), lrs', Nat.sub_self]; rfl, ?_⟩
          have e2 : (s.exch k' c).T k' = s.T k' := by funext j; exact if_pos rfl
          rw [e2]
          exact n3.gg _ _ hq2
        · obtain ⟨q', h1, h2⟩ := hk k' (by omega)
          exact ⟨q', by rw [List.getElem?_append_left (by omega)]; exact h1, h2⟩
      · have ne : i ≠ r := fun e => z (by rw [e]; exact decide_eq_true rfl)
        refine ⟨_, rfl, tyL hD3, _, rfl, _, rfl, .lst q, .lst qr, _, _, rfl, Rd.of hq3, Rd.of hqr3, fun D2 hD2 => ?_⟩
        have haH := n3.hh _ _ (fun z => z) ha
        refine lcN (walk_zipX (q1 := .lst q) (q2 := .lst qr) (n := p.N + 1) (by rw [rowV_len, rowV_len]; omega)) (rowV (p.N + 1) ((s.exch r c).T i)) (rowV_len _ _) (by omega) n3.gh hD2
          (fun H' n => ⟨Rd.of (n.hh _ _ (fun z => z) hq3), Rd.of (n.hh _ _ (fun z => z) hqr3)⟩) (fun j v Hc H' y Ky hj hy n4 hY hKy => ?_) fun H' n4 hD4 => ?_
        · obtain ⟨T2, z1, z2, rfl, hT2', rfl, f1, f2⟩ := hY
          have hj' : j < p.N + 1 := hj
          have f1 : some z1 = some (.int (s.T i j)) := by rw [← rowV_at (s.T i) hj']; exact f1.symm
          have f2 : some z2 = some (.int (s.T r j)) := by rw [← rowV_at (s.T r) hj']; exact f2.symm
          injection f1 with f1
          injection f2 with f2
          subst f1 f2
          have ey : y = .int ((s.exch r c).T i j) := (rowV_of hy).2
          subst ey
          have n5 := n4.allocH (o := .tup [.int (s.T i j), .int (s.T r j)]) hT2'
          have hq5 := get_new (o := .tup [.int (s.T i j), .int (s.T r j)]) (n4.hh _ _ (fun z => z) hq3) hT2'
          have ha5 := get_new (o := .tup [.int (s.T i j), .int (s.T r j)]) (n4.hh _ _ (fun z => z) haH) hT2'
          have tb : ∀ x y, x ≤ p.m → y ≤ p.N → (s.T x y).natAbs < 2 ^ 8000 := fun x y h1 h2 => pow_up (t_lt pok o hm h1 h2) (by decide)
          have dpos := o.hd
          refine ⟨T2, _, rfl, SqT.of upd_same, rfl, _, _, rfl, _, _, rfl, rfl, rfl, ?_⟩
          refine ⟨_, rfl, _, rfl, _, _, rfl, rfl, mulN (tb i j (by omega) (by omega)) (tb r c (by omega) (by omega)) (by decide), ?_⟩
          refine ⟨_, rfl, _, rfl, q, _, _, _, rfl, rfl, SqL.of hq5, (at_nat (by rw [rowV_len]; omega)).trans (rowV_at _ (by omega)), _, rfl, _, _, rfl, rfl, mulN (tb i c (by omega) (by omega)) (tb r j (by omega) (by omega)) (by decide), _, _, rfl, rfl, ?_⟩
          refine ⟨_, rfl, a, dx, _, _, rfl, ha5, rfl, _, _, rfl, rfl, wide_div dpos (d_lt pok o hm) (by decide) (by decide), ?_⟩
          have e3 : (s.exch r c).T i j = (s.T i j * s.T r c - s.T i c * s.T r j) / s.d := if_neg ne
          have := hKy _ ((Nw.refl n4.gh).allocH (o := .tup [.int (s.T i j), .int (s.T r j)]) hT2')
          rw [e3] at this
          exact this
        · have hD5 := n4.hh _ _ (fun z => z) hD3
          have nDD : D ≠ D2 := ne_of_none hD3 hD2
          have n5 := (n3.trans n4).frz (n3.dom _ hD2) hD4
          have g5 : upd Gc D2 (.lst (rowV (p.N + 1) ((s.exch r c).T i))) D = none := by rw [upd_ne nDD]; exact gD2
          refine ⟨D, rs', _, rfl, rfl, hD5, by rw [lrs', sizeLine_eq]; omega, some (.int (i : Nat)), some (.ref q), _, _, rfl, n5.putH hD g5, upd_same, g5, by rw [List.length_append, lrs']; rfl, fun k hki => ?_⟩
          by_cases e : k = i
          · subst e
            exact ⟨D2, by rw [List.getElem?_append_right (by omega), lrs', Nat.sub_self]; rfl, upd_same⟩
          · obtain ⟨q', h1, h2⟩ := hk k (by omega)
            exact ⟨q', by rw [List.getElem?_append_left (by omega)]; exact h1, by rw [upd_ne (ne_of_none ((n3.gh _ _ h2)) hD2)]; exact h2⟩
    · rintro σ H2 ⟨x, y, Gc, rs', rfl, n2, hD2, gD2, lrs', hk⟩
      have haH := n2.hh _ _ (fun z => z) ha
      have hbH := n2.hh _ _ (fun z => z) hb
      have ga2 := n2.loc ha ga
      have gb2 := n2.loc hb gb
      have nab : a ≠ pb := fun e => by rw [e, hb] at ha; cases ha
      have nbD : pb ≠ D := ne_of_none hb hD
      have n3 := n2.frz hD hD2
      refine ⟨_, rfl, _, rfl, a, dx, _, rfl, haH, show (3 : Nat) < 1000 by decide, ?_⟩
      refine ⟨_, rfl, _, rfl, a, dx, _, rfl, upd_same, show (3 : Nat) < 1000 by decide, ?_⟩
      rw [upd_upd']
      refine ⟨_, rfl, _, rfl, a, dx, _, _, rfl, upd_same, rfl, _, rfl, pb, _, _, r, rfl, rfl, by rw [upd_ne (Ne.symm nab)]; exact hbH, ?_, ?_⟩
      · rw [rowV_len]
        unfold ixN
        rw [if_pos (by omega), if_pos (by omega)]
        rfl
      · rw [row_set hr1]
        have ga3 : upd Gc D (.lst rs') a = none := by rw [upd_ne naD]; exact ga2
        have gb3 : upd Gc D (.lst rs') pb = none := by rw [upd_ne nbD]; exact gb2
        have n4 := ((n3.sub (M := fun b => b = a ∨ b = pb)).putM (o := solO K dx D pb (s.T r c)) (.inl rfl) ga3).putM (p := pb) (o := .lst (rowV p.m fun k => if k = r then (c : Int) else (s.b k : Int))) (.inr rfl) gb3
        refine k _ _ n4 ⟨dx, D, ?_, ⟨rs', upd_same, by rw [lrs', lrs], fun i hi => ?_⟩, ?_⟩ ga3 gb3
        · rw [upd_ne nab]
          exact upd_same
        · obtain ⟨q, h1, h2⟩ := hk i (by omega)
          exact ⟨q, h1, by rw [upd_ne (fun e => by rw [e, gD2] at h2; cases h2)]; exact h2⟩
        · rw [upd_same]
          have e : (fun k => if k = r then (c : Int) else (s.b k : Int)) = fun k => (((s.exch r c).b k : Nat) : Int) := by
            funext k
            show _ = (((if k = r then c else s.b k : Nat)) : Int)
            split <;> rfl
          rw [e]
end
end Mk

-- S2
set_option Elab.async false
set_option linter.all false
set_option maxRecDepth 100000
set_option maxHeartbeats 4000000
set_option exponentiation.threshold 20000
namespace Mk
open PySem PySem.Spec PyProof.Rows L2
open C8 (InsC call_isC)
/-- of the first i rows, r bounds column c most, and of these it has the least basis column -/
structure Best (p : Prob) (s : Tab) (c i r : Nat) : Prop where
  lt : r < i
  pos : 0 < s.T r c
  most : ∀ k, k < i → 0 < s.T k c → s.T r p.N * s.T k c ≤ s.T k p.N * s.T r c
  least : ∀ k, k < i → 0 < s.T k c → s.T k p.N * s.T r c = s.T r p.N * s.T k c → s.b r ≤ s.b k
section
variable {p : Prob} {s : Tab} {c i r : Nat}
theorem Best.first (h : 0 < s.T i c) (z : ∀ k, k < i → ¬ 0 < s.T k c) : Best p s c (i + 1) i := by
  refine ⟨by omega, h, fun k hk hp => ?_, fun k hk hp _ => ?_⟩
  · have : k = i := Classical.byContradiction fun e => z k (by omega) hp
    subst this
    exact Int.le_refl _
  · have : k = i := Classical.byContradiction fun e => z k (by omega) hp
    subst this
    exact Nat.le_refl _
theorem Best.skip (b : Best p s c i r) (h : ¬ 0 < s.T i c) : Best p s c (i + 1) r := by
  refine ⟨by have := b.lt; omega, b.pos, fun k hk hp => b.most k ?_ hp, fun k hk hp => b.least k ?_ hp⟩
  all_goals
    rcases Nat.lt_or_ge k i with l | l
    · exact l
    · have : k = i := by omega
      subst this
      exact absurd hp h
theorem Best.keep (b : Best p s c i r) (h1 : s.T r p.N * s.T i c ≤ s.T i p.N * s.T r c) (h2 : s.T i p.N * s.T r c = s.T r p.N * s.T i c → s.b r ≤ s.b i) : Best p s c (i + 1) r := by
  refine ⟨by have := b.lt; omega, b.pos, fun k hk hp => ?_, fun k hk hp e => ?_⟩
  · rcases Nat.lt_or_ge k i with l | l
    · exact b.most k l hp
    · have : k = i := by omega
      subst this
      exact h1
  · rcases Nat.lt_or_ge k i with l | l
    · exact b.least k l hp e
    · have : k = i := by omega
      subst this
      exact h2 e
theorem Best.take (b : Best p s c i r) (hp : 0 < s.T i c) (h : s.T i p.N * s.T r c < s.T r p.N * s.T i c ∨ (s.T i p.N * s.T r c = s.T r p.N * s.T i c ∧ s.b i < s.b r)) : Best p s c (i + 1) i := by
  have le : s.T i p.N * s.T r c ≤ s.T r p.N * s.T i c := by rcases h with h | h <;> omega
  refine ⟨by omega, hp, fun k hk kp => ?_, fun k hk kp e => ?_⟩
  · rcases Nat.lt_or_ge k i with l | l
    · exact tr_le b.pos hp kp le (b.most k l kp)
    · have : k = i := by omega
      subst this
      exact Int.le_refl _
  · rcases Nat.lt_or_ge k i with l | l
    · rcases h with h | ⟨h, hb⟩
      · have := tr_lt' b.pos hp kp h (b.most k l kp)
        omega
      · rcases Int.lt_or_le (s.T r p.N * s.T k c) (s.T k p.N * s.T r c) with q | q
        · have := tr_lt b.pos hp kp le q
          omega
        · have := b.most k l kp
          have := b.least k l kp (by omega)
          omega
    · have : k = i := by omega
      subst this
      exact Nat.le_refl _
end
section
variable {P : Program} {w : World} {K : PySem.W.Frag} {mg : Str → Option Value} {base : Heap}
def spBound (K : PySem.W.Frag) : Sp := fun vs H Q _ => ∃ (G : Hp) (a pb : Addr) (p : Prob) (s : Tab) (c : Nat), vs = [.ref a, .int c] ∧ Same G H ∧ SolV K p H H a pb s ∧ s.Ok p ∧ p.Ok (2 ^ 280) ∧ p.m ≤ 24 ∧ p.N ≤ 1000 ∧ c < p.N ∧ ∀ r H', s.Pick p r c → Nw nM G H G H' → Q (.int r) H'
theorem sc_Solver_bounding : FnScope ["self", "column", "best", "at", "row", "one", "other"] ["self", "column"] (defScope s_Solver_bounding) := ⟨rfl, rfl, rfl, by decide +kernel, rfl, by decide +kernel, by decide +kernel⟩
theorem ok_Solver_bounding (T : Tx K mg) : Ok P w K mg base 1 (He.ma K (He.ga K "Solver") "bounding") ["self", "column"] (spBound K) := by
  refine ok_mk (f_Solver_bounding T) (df_kp (f_Solver_bounding T)) sc_Solver_bounding (fun _ _ _ _ _ _ us hl => match us, hl with | [_, _], _ => rfl) (fun vs H Q E h => ?_) (fun cdv A outer s0 H vs Q E hr h => ?_)
  · obtain ⟨G, a, pb, p, s, c, rfl, _⟩ := h
    rfl
  · obtain ⟨G, a, pb, p, s, c, rfl, sm, sv, o, pok, hm, hN, hc, k⟩ := h
    obtain ⟨dx, pr, ha, ⟨rs, hrs, lrs, hrow⟩, hb⟩ := id sv
    refine ⟨_, (pss_cons (ps_set (i := 2) sc_Solver_bounding.nd rfl (Or.inl rfl) pe_non)
      (pss_cons (ps_for PassesOwn.never rfl (pi_enumX (by rfl) (b_enumerate T) (pa_cons (pe_slice sl_list (pe_f (c_Solver T) (n_Solver_rows T) (pv 0)) po_none (po_some (pe_un un_neg pe_int))) pa_nil)) (pg_tup rfl (pgs_cons (pg_name (i := 3) sc_Solver_bounding.nd rfl (Or.inl rfl)) (pgs_cons (pg_name (i := 4) sc_Solver_bounding.nd rfl (Or.inl rfl)) pgs_nil)))
      (pss_one (ps_if (pt_cmpR op_gt (pe_ix ix_list (pv 4) (pv 1) (fun _ _ => rfl)) pe_int (nomark _))
        (pss_one (ps_if (pt_cmpR op_isN (pv 2) pe_non (nomark _))
        (pss_one (ps_set (i := 2) sc_Solver_bounding.nd rfl (Or.inl rfl) (pv 3)))
        (pss_cons (ps_set (i := 5) sc_Solver_bounding.nd rfl (Or.inl rfl) (pe_op op_mulX (pe_ix ix_list (pv 4) (pe_un un_neg pe_int) (fun _ _ => rfl)) (pe_ix ix_list (pe_ix ix_list (pe_f (c_Solver T) (n_Solver_rows T) (pv 0)) (pv 2) (fun _ _ => rfl)) (pv 1) (fun _ _ => rfl))))
      (pss_cons (ps_set (i := 6) sc_Solver_bounding.nd rfl (Or.inl rfl) (pe_op op_mulX (pe_ix ix_list (pe_ix ix_list (pe_f (c_Solver T) (n_Solver_rows T) (pv 0)) (pv 2) (fun _ _ => rfl)) (pe_un un_neg pe_int) (fun _ _ => rfl)) (pe_ix ix_list (pv 4) (pv 1) (fun _ _ => rfl))))
      (pss_one (ps_if (PW.pt (pw_or (pt_cmpR op_lt (pv 5) (pv 6) (nomark _)) (pw_or1 (PW.pt (pw_and (pt_cmpR op_eq (pv 5) (pv 6) (nomark _)) (pw_and1 (pt_cmpR op_lt (pe_ix ix_list (pe_f (c_Solver T) (n_Solver_basis T) (pv 0)) (pv 3) (fun _ _ => rfl)) (pe_ix ix_list (pe_f (c_Solver T) (n_Solver_basis T) (pv 0)) (pv 2) (fun _ _ => rfl)) (nomark _))))))))
        (pss_one (ps_set (i := 2) sc_Solver_bounding.nd rfl (Or.inl rfl) (pv 3)))
        pss_nil))))))
        pss_nil)))
      (pss_one (ps_ret (pv 2))))), ?_⟩
    refine ⟨_, rfl, a, dx, _, _, rfl, ha, rfl, _, rfl, _, rfl, pr, rs, rfl, SqL.of hrs, fun D hD => ?_⟩
    rw [cut_last lrs]
    have n1 := (Nw.refl (M := nM) sm).allocH (o := .lst (rs.take p.m)) hD
    have hD1 : upd H D (.lst (rs.take p.m)) D = some (.lst (rs.take p.m)) := upd_same
    generalize upd H D (.lst (rs.take p.m)) = H1 at n1 hD1
    have lx : (rs.take p.m).length = p.m := by rw [List.length_take]; omega
    have tb : ∀ x y, x ≤ p.m → y ≤ p.N → (s.T x y).natAbs < 2 ^ 8000 := fun x y h1 h2 => pow_up (t_lt pok o hm h1 h2) (by decide)
    refine ⟨.lst D, _, rfl, Rd.of hD1, ?_⟩
    refine for_it (walk_enumX (q := .lst D)) (fun i σ H' => ∃ bv x y z1 z2, σ = [some (.ref a), some (.int c), some bv, x, y, z1, z2] ∧ Nw nM G H G H' ∧ H' D = some (.lst (rs.take p.m)) ∧
        ((bv = .non ∧ ∀ k, k < i → ¬ 0 < s.T k c) ∨ ∃ r : Nat, bv = .int r ∧ Best p s c i r))
      ⟨.non, none, none, none, none, rfl, n1, hD1, .inl ⟨rfl, fun k h => absurd h (Nat.not_lt_zero _)⟩⟩ (fun i σ H' _ h => by obtain ⟨bv, x, y, z1, z2, rfl, _, h, _⟩ := h; exact Rd.of h) ?_ ?_
    · rintro i v σ H2 H3 hi ⟨bv, x, y, z1, z2, rfl, n2, hD2, hbv⟩ ⟨T1, y1, y2, rfl, hT1, rfl, e1, e2⟩
      have e1 := (Option.some.inj e1).symm
      subst e1
      rw [lx] at hi
      obtain ⟨q, hq1, hq2⟩ := hrow i (by omega)
      have e2 : (rs.take p.m)[i]? = some y2 := e2
      rw [List.getElem?_take_of_lt hi, hq1] at e2
      have e2 := (Option.some.inj e2).symm
      subst e2
      have n3 := n2.allocH (o := .tup [.int (i : Nat), .ref q]) hT1
      have hT2 : upd H2 T1 (.tup [.int (i : Nat), .ref q]) T1 = some (.tup [.int (i : Nat), .ref q]) := upd_same
      have hD3 := get_new (o := .tup [.int (i : Nat), .ref q]) hD2 hT1
      generalize upd H2 T1 (.tup [.int (i : Nat), .ref q]) = H3 at n3 hT2 hD3
      have sH := n3.same
      have hq3 := sH _ _ hq2
      have ha3 := sH _ _ ha
      have hrs3 := sH _ _ hrs
      have hb3 := sH _ _ hb
      have ix : ∀ x j, j ≤ p.N → atI (rowV (p.N + 1) (s.T x)) ((j : Nat) : Int) = some (.int (s.T x j)) := fun x j hj => (at_nat (by rw [rowV_len]; omega)).trans (rowV_at _ (by omega))
      have il : ∀ x, atI (rowV (p.N + 1) (s.T x)) (-1) = some (.int (s.T x p.N)) := fun x => (at_last (rowV_len _ _)).trans (rowV_at _ (by omega))
      refine ⟨T1, _, rfl, SqT.of hT2, rfl, _, _, rfl, _, _, rfl, rfl, ?_⟩
      refine ⟨_, rfl, _, rfl, q, _, _, _, rfl, rfl, SqL.of hq3, ix i c (by omega), _, _, rfl, rfl, _, rfl, ite2 (fun cc => ?_) fun cc => ?_⟩
      · have hp : 0 < s.T i c := of_decide_eq_true cc
        rcases hbv with ⟨rfl, h⟩ | ⟨r, rfl, h⟩
        · refine ⟨_, rfl, rfl, _, rfl, itT (by simp) ?_⟩
          exact ⟨_, rfl, _, _, _, z1, z2, rfl, n3, hD3, .inr ⟨i, rfl, Best.first hp h⟩⟩
        · have hr2 : r < p.m := by have := h.lt; omega
          obtain ⟨qr, hqr1, hqr2⟩ := hrow r (by omega)
          have hqr3 := sH _ _ hqr2
          have ir : atI rs ((r : Nat) : Int) = some (.ref qr) := (at_nat (by omega)).trans hqr1
          have ibs : ∀ k, k < p.m → atI (rowV p.m fun k => (s.b k : Int)) ((k : Nat) : Int) = some (.int (s.b k)) := fun k hk => (at_nat (by rw [rowV_len]; omega)).trans (rowV_at _ hk)
          refine ⟨_, rfl, rfl, _, rfl, itF (by simp) ?_⟩
          refine ⟨_, rfl, _, rfl, q, _, _, _, rfl, rfl, SqL.of hq3, il i, _, rfl, a, dx, _, _, rfl, ha3, rfl, _, rfl, pr, _, _, _, rfl, rfl, SqL.of hrs3, ir, _, rfl, qr, _, _, _, rfl, rfl, SqL.of hqr3, ix r c (by omega), _, _, rfl, rfl, mulN (tb i _ (by omega) (by omega)) (tb r c (by omega) (by omega)) (by decide), ?_⟩
          refine ⟨_, rfl, a, dx, _, _, rfl, ha3, rfl, _, rfl, pr, _, _, _, rfl, rfl, SqL.of hrs3, ir, _, rfl, qr, _, _, _, rfl, rfl, SqL.of hqr3, il r, _, rfl, _, rfl, q, _, _, _, rfl, rfl, SqL.of hq3, ix i c (by omega), _, _, rfl, rfl, mulN (tb r _ (by omega) (by omega)) (tb i c (by omega) (by omega)) (by decide), ?_⟩
          refine ⟨_, rfl, _, rfl, _, _, rfl, rfl, _, rfl, ite2 (fun l => ?_) fun l => ?_⟩
          · have l : s.T i p.N * s.T r c < s.T r p.N * s.T i c := of_decide_eq_true l
            exact itT rfl ⟨_, rfl, _, _, _, _, _, rfl, n3, hD3, .inr ⟨i, rfl, h.take hp (.inl l)⟩⟩
          · have l : ¬ s.T i p.N * s.T r c < s.T r p.N * s.T i c := fun z => l (decide_eq_true z)
            refine ⟨_, rfl, _, rfl, rfl, _, rfl, ite2 (fun l2 => ?_) fun l2 => ?_⟩
            · have l2 : s.T i p.N * s.T r c = s.T r p.N * s.T i c := by
                have l2 := of_decide_eq_true l2
                injection l2
              refine ⟨_, rfl, a, dx, _, _, rfl, ha3, rfl, _, rfl, pb, _, _, _, rfl, rfl, SqL.of hb3, ibs i hi, _, rfl, a, dx, _, _, rfl, ha3, rfl, _, rfl, pb, _, _, _, rfl, rfl, SqL.of hb3, ibs r hr2, _, _, rfl, rfl, _, rfl, ite2 (fun l3 => ?_) fun l3 => ?_⟩
              · have l3 : (s.b i : Int) < s.b r := of_decide_eq_true l3
                exact ⟨_, rfl, _, _, _, _, _, rfl, n3, hD3, .inr ⟨i, rfl, h.take hp (.inr ⟨l2, by omega⟩)⟩⟩
              · have l3 : ¬ (s.b i : Int) < s.b r := fun z => l3 (decide_eq_true z)
                exact ⟨_, _, _, _, _, rfl, n3, hD3, .inr ⟨r, rfl, h.keep (by omega) fun _ => by omega⟩⟩
            · have l2 : ¬ s.T i p.N * s.T r c = s.T r p.N * s.T i c := fun z => l2 (decide_eq_true (congrArg V.int z))
              exact itF (by simp) ⟨_, _, _, _, _, rfl, n3, hD3, .inr ⟨r, rfl, h.keep (by omega) fun z => absurd z l2⟩⟩
      · have np : ¬ 0 < s.T i c := fun z => cc (decide_eq_true z)
        refine ⟨bv, _, _, z1, z2, rfl, n3, hD3, ?_⟩
        rcases hbv with ⟨e, h⟩ | ⟨r, e, h⟩
        · exact .inl ⟨e, fun k hk => by
            rcases Nat.lt_or_ge k i with l | l
            · exact h k l
            · have : k = i := by omega
              subst this
              exact np⟩
        · exact .inr ⟨r, e, h.skip np⟩
    · rintro σ H2 ⟨bv, x, y, z1, z2, rfl, n2, hD2, hbv⟩
      rw [lx] at hbv
      rcases hbv with ⟨_, h⟩ | ⟨r, rfl, h⟩
      · obtain ⟨i, hi, hp⟩ := o.bounded pok hc
        exact absurd hp (h i hi)
      · exact ⟨_, rfl, k r _ ⟨⟨h.lt, hc, h.pos, h.most⟩, h.least⟩ n2⟩
/-! ### the solver runs to its end -/
theorem Nw.thruM {M M' : Addr → Prop} {G H G1 H1 G2 H2 : Hp} (a : Nw M G H G1 H1) (b : Nw M' G1 H1 G2 H2) (h : ∀ c, M' c → M c ∨ H c = none) : Nw M G H G2 H2 :=
  ⟨fun c u n e => b.hh c u (fun z => (h c z).elim n fun q => by rw [q] at e; cases e) (a.hh c u n e), fun c e => a.dom c (b.dom c e), a.gg.trans b.gg, b.gh, fun c u e => (b.nw c u e).elim (fun z => .inl (a.dom c z)) fun z => a.nw c u z⟩
def rSol (K : PySem.W.Frag) (p : Prob) : Rep Tab := fun G v s => ∃ a pb, v = .ref a ∧ SolV K p G G a pb s
instance {p : Prob} : Mono (rSol K p) := ⟨fun s ⟨a, pb, e, h⟩ => ⟨a, pb, e, h.mono s s⟩⟩
def spSolI (K : PySem.W.Frag) : Sp := fun vs H Q _ => ∃ (x dx pr : Addr) (G : Hp) (p : Prob), vs = [.ref x, .ref pr, .int p.n] ∧ Same G H ∧ H x = some (.ins (He.ga K "Solver") dx []) ∧ G x = none ∧ TabV p G pr p.t ∧ p.Ok (2 ^ 280) ∧ p.m ≤ 24 ∧ p.N ≤ 1000 ∧
  ∀ s, s.Ok p → s.Opt p → Ini (rSol K p) x G H s Q
/-- the loop's word: m turns at most are left -/
def SolW (K : PySem.W.Frag) (p : Prob) (G H : Hp) (x pr pb : Addr) (m : Nat) (σ : L2.St) (H' : Hp) : Prop := ∃ (cv : V) (z : Option V) (Gc : Hp) (s : Tab), σ = [some (.ref x), some (.ref pr), some (.int p.n), some cv, z] ∧ Ends p m s ∧ s.Ok p ∧
  ((∃ c : Nat, cv = .int c ∧ s.Rise p c) ∨ (cv = .non ∧ s.Opt p)) ∧ Nw (fun c => c = x) G H Gc H' ∧ SolV K p Gc H' x pb s ∧ Gc x = none ∧ Gc pb = none
theorem sc_Solver_init : FnScope ["self", "rows", "many", "column", "at"] ["self", "rows", "many"] (defScope s_Solver_init) := ⟨rfl, rfl, rfl, by decide +kernel, rfl, by decide +kernel, by decide +kernel⟩
theorem ok_Solver_init (T : Tx K mg) : Ok P w K mg base 2 (He.ma K (He.ga K "Solver") "__init__") ["self", "rows", "many"] (spSolI K) := by
  refine ok_mk (f_Solver_init T) (df_kp (f_Solver_init T)) sc_Solver_init (fun _ _ _ _ _ _ us hl => match us, hl with | [_, _, _], _ => rfl) (fun vs H Q E h => ?_) (fun cdv A outer s0 H vs Q E hr h => ?_)
  · obtain ⟨x, dx, pr, G, p, rfl, _⟩ := h
    rfl
  · obtain ⟨x, dx, pr, G, p, rfl, sm, hx, gx, tv, pok, hm, hN, k⟩ := h
    obtain ⟨rs, hrs, lrs, hrow⟩ := id tv
    refine ⟨_, (pss_cons (ps_f (c_Solver T) (n_Solver_rows T) (pv 0) (pv 1))
      (pss_cons (ps_f (c_Solver T) (n_Solver_divisor T) (pv 0) pe_int)
      (pss_cons (ps_f (c_Solver T) (n_Solver_basis T) (pv 0) (pe_lc (own := [("at", 4)]) (g := (gName 4)) (tt := tYes) rfl sc_Solver_init.nd (pi_range1 (by rfl) (b_range T) (pa_cons (pe_op op_sub (pe_callB call_len_seq (by rfl) (b_len T) (by decide +kernel) (pa_cons (pv 1) pa_nil)) pe_int) pa_nil)) (blkOk_by (N := ["self", "rows", "many", "column", "at"]) (sc := defScope s_Solver_init) (by decide +kernel)) (fun _ _ _ _ _ => (pg_name (i := 4) sc_Solver_init.nd rfl (Or.inl rfl))) (fun _ _ _ _ _ => pts_nil) (fun _ _ _ _ _ => (pe_op op_add (pv 2) (pv 4)))))
      (C8.pss_cut (ps_set (i := 3) sc_Solver_init.nd rfl (Or.inl rfl) (pe_m0 (pv 0) (c_Solver T) (m_Solver_rising T) (ok_Solver_rising T) (hr.mono (by decide))))
      (pss_one (ps_while PassesOwn.never (pt_cmpR op_notN (pv 3) pe_non (nomark _))
      (pss_cons (ps_expr (pe_m (pv 0) (c_Solver T) (m_Solver_exchange T) (ok_Solver_exchange T) (hr.mono (by decide)) (pa_cons (pe_m (pv 0) (c_Solver T) (m_Solver_bounding T) (ok_Solver_bounding T) (hr.mono (by decide)) (pa_cons (pv 3) pa_nil)) (pa_cons (pv 3) pa_nil))))
      (pss_one (ps_set (i := 3) sc_Solver_init.nd rfl (Or.inl rfl) (pe_m0 (pv 0) (c_Solver T) (m_Solver_rising T) (ok_Solver_rising T) (hr.mono (by decide)))))))))))), ?_⟩
    have hrsH := sm _ _ hrs
    have nxr : pr ≠ x := fun e => by rw [e, gx] at hrs; cases hrs
    refine ⟨_, rfl, _, rfl, x, dx, _, rfl, hx, by decide, ?_⟩
    refine ⟨_, rfl, x, dx, _, rfl, upd_same, show (1 : Nat) < 1000 by decide, ?_⟩
    rw [upd_upd']
    have n0 := (Nw.refl (M := fun c => c = x) sm).putM (o := .ins (He.ga K "Solver") dx [("rows", .ref pr), ("divisor", .int 1)]) rfl gx
    have hx0 : upd H x (.ins (He.ga K "Solver") dx [("rows", .ref pr), ("divisor", .int 1)]) x = some (.ins (He.ga K "Solver") dx [("rows", .ref pr), ("divisor", .int 1)]) := upd_same
    have hr0 : upd H x (.ins (He.ga K "Solver") dx [("rows", .ref pr), ("divisor", .int 1)]) pr = some (.lst rs) := by rw [upd_ne nxr]; exact hrsH
    have gn0 : ∀ b, H b = none → upd H x (.ins (He.ga K "Solver") dx [("rows", .ref pr), ("divisor", .int 1)]) b = none → True := fun _ _ _ => trivial
    refine ⟨_, rfl, pr, rs, rfl, .inl (SqL.of hr0), _, _, rfl, rfl, _, rfl, by omega, by omega, fun pb hpb => ?_⟩
    have hpbH : H pb = none := n0.dom _ hpb
    have nxb : x ≠ pb := ne_of_none hx0 hpb
    have lm : ((rs.length : Int) - 1).toNat = p.m := by omega
    rw [lm]
    refine lcM' (ys := rowV p.m fun k => ((p.n + k : Nat) : Int)) walk_range (rowV_len _ _) (by omega) (fun l => trivial) (fun i y' l Ky hi hy hk => ?_) ?_
    · obtain ⟨_, rfl⟩ := rowV_of hy
      refine ⟨rfl, _, rfl, _, rfl, _, _, rfl, rfl, ?_⟩
      have e : (p.n : Int) + (0 + (i : Int)) = ((p.n + i : Nat) : Int) := by omega
      show Ky (.int ((p.n : Int) + (0 + (i : Int)))) _
      rw [e]
      exact hk
    · have gpb := sm.free hpbH
      have n1 := n0.allocH (o := .lst (rowV p.m fun k => ((p.n + k : Nat) : Int))) hpb
      have hx1 := get_new (o := .lst (rowV p.m fun k => ((p.n + k : Nat) : Int))) hx0 hpb
      have hb1 : upd (upd H x (.ins (He.ga K "Solver") dx [("rows", .ref pr), ("divisor", .int 1)])) pb (.lst (rowV p.m fun k => ((p.n + k : Nat) : Int))) pb = some (.lst (rowV p.m fun k => ((p.n + k : Nat) : Int))) := upd_same
      refine ⟨_, rfl, x, dx, _, rfl, hx1, show (2 : Nat) < 1000 by decide, ?_⟩
      have n2 := n1.putM (o := solO K dx pr pb 1) rfl gx
      have hx2 : upd (upd (upd H x (.ins (He.ga K "Solver") dx [("rows", .ref pr), ("divisor", .int 1)])) pb (.lst (rowV p.m fun k => ((p.n + k : Nat) : Int)))) x (solO K dx pr pb 1) x = some (solO K dx pr pb 1) := upd_same
      have hb2 : upd (upd (upd H x (.ins (He.ga K "Solver") dx [("rows", .ref pr), ("divisor", .int 1)])) pb (.lst (rowV p.m fun k => ((p.n + k : Nat) : Int)))) x (solO K dx pr pb 1) pb = some (.lst (rowV p.m fun k => ((p.n + k : Nat) : Int))) := by rw [upd_ne (Ne.symm nxb)]; exact hb1
      have sv : SolV K p G (upd (upd (upd H x (.ins (He.ga K "Solver") dx [("rows", .ref pr), ("divisor", .int 1)])) pb (.lst (rowV p.m fun k => ((p.n + k : Nat) : Int)))) x (solO K dx pr pb 1)) x pb p.start := ⟨dx, pr, hx2, tv, hb2⟩
      have o0 : p.start.Ok p := Prob.Ok.start pok
      obtain ⟨m0, em⟩ := ends_start pok
      refine ⟨fun σ H' => ∃ m, SolW K p G H x pr pb m σ H', ⟨_, rfl, x, dx, _, rfl, hx2, rfl, G, x, pb, p, p.start, rfl, n2.gh, sv.read n2.gh, hN, fun c H' hc n3 => ?_, fun H' ho n3 => ?_⟩, ?_⟩
      · exact ⟨m0, .int c, _, G, p.start, rfl, em, o0, .inl ⟨c, rfl, hc⟩, n2.trans n3.sub, sv.mono (Same.refl G) n3.same, gx, gpb⟩
      · exact ⟨m0, .non, _, G, p.start, rfl, em, o0, .inr ⟨rfl, ho⟩, n2.trans n3.sub, sv.mono (Same.refl G) n3.same, gx, gpb⟩
      · rintro σ0 H0 hw
        refine ⟨SolW K p G H x pr pb, hw, ?_⟩
        rintro m σ H' ⟨cv, z, Gc, s, rfl, em, o, hcv, n3, sv2, gx2, gb2⟩
        refine ⟨_, rfl, rfl, _, rfl, ite2 (fun t => ?_) fun t => ?_⟩
        · rcases hcv with ⟨c, rfl, rise⟩ | ⟨rfl, opt⟩
          · refine ⟨_, fun σ' H' q => q, ?_⟩
            match m, em with
            | 0, em => exact absurd rise (em c)
            | m + 1, em =>
              obtain ⟨dx2, pr2, hx3, tv2, hb3⟩ := id sv2
              refine ⟨_, rfl, x, dx2, _, rfl, hx3, rfl, _, rfl, x, dx2, _, rfl, hx3, rfl, _, rfl, Gc, x, pb, p, s, c, rfl, n3.gh, sv2.read n3.gh, o, pok, hm, hN, rise.hc, fun r H4 pick n4 => ?_⟩
              refine ⟨_, rfl, Gc, x, pb, p, s, r, c, rfl, n4.gh, sv2.mono (Same.refl Gc) n4.same, gx2, gb2, o, pok, hm, hN, pick.toBnd, fun G5 H5 n5 sv5 gx5 gb5 => ?_⟩
              have n6 : Nw (fun c => c = x) G H G5 H5 := (n3.trans n4.sub).thruM n5 fun b hb => hb.elim .inl fun e => .inr (e ▸ hpbH)
              have o5 := o.exch pick.toBnd
              have em5 := em r c rise pick
              obtain ⟨dx5, pr5, hx5, tv5, hb5⟩ := id sv5
              refine ⟨_, rfl, x, dx5, _, rfl, hx5, rfl, G5, x, pb, p, _, rfl, n5.gh, sv5.read n5.gh, hN, fun c2 H' hc n7 => ?_, fun H' ho n7 => ?_⟩
              · exact ⟨m, by omega, .int c2, _, G5, _, rfl, em5, o5, .inl ⟨c2, rfl, hc⟩, n6.trans n7.sub, sv5.mono (Same.refl G5) n7.same, gx5, gb5⟩
              · exact ⟨m, by omega, .non, _, G5, _, rfl, em5, o5, .inr ⟨rfl, ho⟩, n6.trans n7.sub, sv5.mono (Same.refl G5) n7.same, gx5, gb5⟩
          · exact absurd t (by simp)
        · rcases hcv with ⟨c, rfl, rise⟩ | ⟨rfl, opt⟩
          · exact absurd t (by simp)
          · obtain ⟨dx2, pr2, hx3, tv2, hb3⟩ := id sv2
            have n4 := n3.frz hpbH hb3
            have gx4 : upd Gc pb (.lst (rowV p.m fun k => (s.b k : Int))) x = none := by rw [upd_ne nxb]; exact gx2
            refine k s o opt _ _ _ n4 gx4 hx3 ⟨x, pb, rfl, dx2, pr2, upd_same, (tv2.mono (same_new gb2)).mono (same_new gx4), ?_⟩
            rw [upd_ne (Ne.symm nxb)]
            exact upd_same
end
end Mk

-- P1
set_option Elab.async false
set_option linter.all false
set_option maxRecDepth 100000
set_option maxHeartbeats 4000000
set_option exponentiation.threshold 20000
namespace Mk
open PySem PySem.Spec PyProof.Rows L2
open C8 (InsC call_isC)
/-! ### tuples of ints as data -/
def encT (l : List Int) : PyData := .tuple (l.map .int)
theorem layI : ∀ l : List Int, PyData.canLayAll0 (l.map .int) = true
  | [] => by simp [PyData.canLayAll0]
  | x :: l => by simp [PyData.canLayAll0, PyData.canLay0, layI l]
theorem layT (l : List Int) : (encT l).canLay0 = true := by simp [encT, PyData.canLay0, layI l]
theorem layTs : ∀ ls : List (List Int), PyData.canLayAll0 (ls.map encT) = true
  | [] => by simp [PyData.canLayAll0]
  | x :: l => by simp [PyData.canLayAll0, layT x, layTs l]
theorem depI : ∀ l : List Int, PyData.depthAll (l.map .int) = 0
  | [] => by simp [PyData.depthAll]
  | x :: l => by simp [PyData.depthAll, PyData.depth, depI l]
theorem depT (l : List Int) : (encT l).depth = 1 := by simp [encT, PyData.depth, depI l]
theorem depTs : ∀ ls : List (List Int), PyData.depthAll (ls.map encT) ≤ 1
  | [] => by simp [PyData.depthAll]
  | x :: l => by
    have := depTs l
    simp only [List.map_cons, PyData.depthAll, depT]
    omega
theorem shT (l : List Int) : SeqAt.shaped (encT l) = true := by simp [SeqAt.shaped, layT, depT]
theorem shTs (ls : List (List Int)) : SeqAt.shaped (.list (ls.map encT)) = true := by
  have := depTs ls
  simp [SeqAt.shaped, PyData.canLay0, layTs, PyData.depth]
  omega
theorem eqvI : ∀ l m : List Int, PyData.eqvAll (l.map .int) (m.map .int) = decide (l = m)
  | [], [] => by simp [PyData.eqvAll]
  | [], _ :: _ => by simp [PyData.eqvAll]
  | _ :: _, [] => by simp [PyData.eqvAll]
  | x :: l, y :: m => by
    simp only [List.map_cons, PyData.eqvAll, PyData.eqv, eqvI l m]
    by_cases h : x = y
    · by_cases h' : l = m
      · simp [h, h']
      · simp [h, h']
    · simp [h]
theorem eqvT (l m : List Int) : PyData.eqv (encT l) (encT m) = decide (l = m) := by
  simp only [encT, PyData.eqv]
  exact eqvI l m
theorem dpI {K : PySem.W.Frag} {H : Hp} : ∀ l : List Int, DpAll K H (l.map V.int) (l.map .int)
  | [] => .nil
  | x :: l => .cons (.int x) (dpI l)
theorem dpTs {K : PySem.W.Frag} {G H : Hp} (sm : Same G H) : ∀ {vs : List V} {ls : List (List Int)}, Paired (rTf V.int G) vs ls → DpAll K H vs (ls.map encT)
  | _, _, .nil => .nil
  | _, _, .cons ⟨p, e, h⟩ t => by
    subst e
    exact .cons (.tup (SqT.of (sm _ _ h)) (dpI _)) (dpTs sm t)
theorem any_enc {g : List Int} {gs : List (List Int)} : (gs.map encT).any (fun z => PyData.eqv z (encT g)) = decide (g ∈ gs) := by
  induction gs with
  | nil => rfl
  | cons h t ih =>
    rw [List.map_cons, List.any_cons, ih, eqvT]
    by_cases e : h = g
    · simp [e]
    · have e' : ¬ g = h := fun z => e z.symm
      simp [e, e']
/-! ### the packing of an instance -/
def ofR (rows : List Row) (t : Str) : List Str := ((rows.find? fun r => decide (r.1 = t)).map (·.2)).getD []
theorem ofR_eq : ∀ {rows : List Row} {r : Row}, (rows.map (·.1)).Nodup → r ∈ rows → ofR rows r.1 = r.2
  | x :: rows, r, nd, h => by
    rw [List.map_cons, List.nodup_cons] at nd
    unfold ofR
    rw [List.find?_cons]
    by_cases e : x.1 = r.1
    · have : r = x := by
        rcases List.mem_cons.mp h with z | z
        · exact z
        · exact absurd (List.mem_map.mpr ⟨r, z, e.symm⟩) nd.1
      subst this
      simp
    · have hm : r ∈ rows := (List.mem_cons.mp h).resolve_left fun z => e (by rw [z])
      simp only [e, decide_false]
      exact ofR_eq nd.2 hm
/-- the places that read t, out of what was read so far -/
def grp (L : List (Nat × Str)) (t : Str) : List Int := (L.filter fun e => decide (e.2 = t)).map fun e => (e.1 : Int)
def readsFrom (rows : List Row) : Nat → List Wd → List (Nat × Str)
  | _, [] => []
  | i, e :: ws => (ofR rows e.1).map (fun t => (i, t)) ++ readsFrom rows (i + 1) ws
def reads (rows : List Row) (ws : List Wd) : List (Nat × Str) := readsFrom rows 0 ws
theorem mem_from {rows : List Row} {t : Str} : ∀ {ws : List Wd} {k i : Nat}, (i, t) ∈ readsFrom rows k ws ↔ ∃ j e, i = k + j ∧ ws[j]? = some e ∧ t ∈ ofR rows e.1
  | [], k, i => by simp [readsFrom]
  | x :: ws, k, i => by
    rw [readsFrom, List.mem_append, mem_from]
    constructor
    · rintro (h | ⟨j, e, h1, h2, h3⟩)
      · obtain ⟨u, hu, e⟩ := List.mem_map.mp h
        injection e with e1 e2
        exact ⟨0, x, by omega, rfl, e2 ▸ hu⟩
      · exact ⟨j + 1, e, by omega, by simpa using h2, h3⟩
    · rintro ⟨j, e, h1, h2, h3⟩
      cases j with
      | zero =>
        have h2 : x = e := Option.some.inj h2
        subst h2
        exact .inl (List.mem_map.mpr ⟨t, h3, by rw [h1]; rfl⟩)
      | succ j => exact .inr ⟨j, e, by omega, by simpa using h2, h3⟩
theorem mem_reads {rows : List Row} {ws : List Wd} {t : Str} {i : Nat} : (i, t) ∈ reads rows ws ↔ ∃ e, ws[i]? = some e ∧ t ∈ ofR rows e.1 := by
  unfold reads
  rw [mem_from]
  constructor
  · rintro ⟨j, e, h1, h2, h3⟩
    exact ⟨e, by rw [show i = j by omega]; exact h2, h3⟩
  · rintro ⟨e, h1, h2⟩
    exact ⟨i, e, by omega, h1, h2⟩
theorem mem_grp {L : List (Nat × Str)} {t : Str} {i : Nat} : (i : Int) ∈ grp L t ↔ (i, t) ∈ L := by
  unfold grp
  rw [List.mem_map]
  constructor
  · rintro ⟨e, he, h⟩
    obtain ⟨h1, h2⟩ := List.mem_filter.mp he
    have h2 := of_decide_eq_true h2
    have : e = (i, t) := by
      obtain ⟨a, b⟩ := e
      have : a = i := by have : (a : Int) = i := h; omega
      subst this
      have h2 : b = t := h2
      subst h2
      rfl
    exact this ▸ h1
  · intro h
    exact ⟨(i, t), List.mem_filter.mpr ⟨h, decide_eq_true rfl⟩, rfl⟩
theorem grp_snoc (L : List (Nat × Str)) (i : Nat) (u t : Str) : grp (L ++ [(i, u)]) t = if u = t then grp L t ++ [(i : Int)] else grp L t := by
  unfold grp
  rw [List.filter_append]
  by_cases h : u = t
  · rw [if_pos h]
    simp [h]
  · rw [if_neg h]
    simp [h]
structure Pk where
  texts : List Str
  unit : Int
  bounds : List Int
  level : Int
  readable : List Str
  groups : List (List Int)
  readers : List Str
def unitOf (ws : List Wd) (lam : Rat) : Int := (Int.lcm (total ws) (lam.den : Int) : Nat)
structure PkOk (ws : List Wd) (rows : List Row) (lam : Rat) (k : Pk) : Prop where
  texts : k.texts = ws.map (·.1)
  unit : k.unit = unitOf ws lam
  bounds : k.bounds = ws.map fun e => e.2 * (unitOf ws lam / total ws)
  level : k.level = lam.num * (unitOf ws lam / (lam.den : Int))
  rdb : Srt k.readable
  rdbm : ∀ t, t ∈ k.readable ↔ ∃ r ∈ rows, t ∈ r.2
  len : k.groups.length = k.readers.length
  nd : k.readers.Nodup
  grp : ∀ (j : Nat) (g : List Int) (t : Str), k.groups[j]? = some g → k.readers[j]? = some t → g = grp (reads rows ws) t
  mem : ∀ t ∈ k.readers, ∃ i, (i, t) ∈ reads rows ws
  all : ∀ (i : Nat) (t : Str), (i, t) ∈ reads rows ws → ∃ j : Nat, k.groups[j]? = some (Mk.grp (reads rows ws) t)
section
variable {P : Program} {w : World} {K : PySem.W.Frag} {mg : Str → Option Value} {base : Heap}
def pkF (v1 : V) (u : Int) (v3 : V) (l : Int) (v5 v6 v7 : V) : List (Str × V) := [("texts", v1), ("unit", .int u), ("bounds", v3), ("level", .int l), ("readable", v5), ("groups", v6), ("readers", v7)]
def rPk (K : PySem.W.Frag) : Rep Pk := fun G v k => ∃ a dx v1 v3 v5 v6 v7, v = .ref a ∧ G a = some (.ins (He.ga K "Packing") dx (pkF v1 k.unit v3 k.level v5 v6 v7)) ∧ rTf V.str G v1 k.texts ∧ rLf V.int G v3 k.bounds ∧ rTf V.str G v5 k.readable ∧ rLst (rTf V.int) G v6 k.groups ∧ rLf V.str G v7 k.readers
instance : Mono (rPk K) := ⟨fun s ⟨a, dx, v1, v3, v5, v6, v7, e, h, h1, h3, h5, h6, h7⟩ => ⟨a, dx, v1, v3, v5, v6, v7, e, s _ _ h, Mono.mono s h1, Mono.mono s h3, Mono.mono s h5, Mono.mono s h6, Mono.mono s h7⟩⟩
def cap (lam : Rat) : Rat := if lam < 1 then lam else 1
/-- what the packing is made of -/
structure Inst (ws : List Wd) (rows : List Row) : Prop where
  W : Wds ws
  R : Rows rows
  n8 : ws.length ≤ 8
  has : ∀ e ∈ ws, e.1 ∈ rows.map (·.1)
  few : ∀ l : List Str, l.Nodup → (∀ t ∈ l, ∃ r ∈ rows, t ∈ r.2) → l.length ≤ 16
/-- the dict of places, read by read: at d, the list of t at pl t -/
structure PkD (G H : Hp) (d : Addr) (L : List (Nat × Str)) (kvs : List (Key × V)) (ks : List Str) (pl : Str → Addr) (base : Hp) (Av : Addr → Prop) : Prop where
  hd : H d = some (.dK kvs)
  ka : KeysAre kvs ks
  nd : ks.Nodup
  mem : ∀ t, t ∈ ks ↔ ∃ i, (i, t) ∈ L
  val : ∀ t ∈ ks, valV kvs (.inr t) = some (.ref (pl t))
  lst : ∀ t ∈ ks, H (pl t) = some (.lst ((grp L t).map V.int))
  gn : ∀ t ∈ ks, G (pl t) = none
  bn : ∀ t ∈ ks, base (pl t) = none
  inj : ∀ t ∈ ks, ∀ u ∈ ks, pl t = pl u → t = u
  av : ∀ t ∈ ks, ¬ Av (pl t)
theorem PkD.mono {G H G' H' : Hp} {d : Addr} {L : List (Nat × Str)} {kvs : List (Key × V)} {ks : List Str} {pl : Str → Addr} {b : Hp} {Av : Addr → Prop} (D : PkD G H d L kvs ks pl b Av) (s : Same H H') (g : ∀ t ∈ ks, G' (pl t) = none) : PkD G' H' d L kvs ks pl b Av :=
  ⟨s _ _ D.hd, D.ka, D.nd, D.mem, D.val, fun t ht => s _ _ (D.lst t ht), g, D.bn, D.inj, D.av⟩
theorem PkD.old {G H : Hp} {d : Addr} {L : List (Nat × Str)} {kvs : List (Key × V)} {ks : List Str} {pl : Str → Addr} {b : Hp} {Av : Addr → Prop} {i : Nat} {t : Str} (D : PkD G H d L kvs ks pl b Av) (ht : t ∈ ks) : PkD G (upd H (pl t) (.lst (((grp L t).map V.int) ++ [.int i]))) d (L ++ [(i, t)]) kvs ks pl b Av := by
  have nd : d ≠ pl t := fun e => by
    have := D.lst t ht
    rw [← e, D.hd] at this
    cases this
  refine ⟨by rw [upd_ne nd]; exact D.hd, D.ka, D.nd, fun u => ?_, D.val, fun u hu => ?_, D.gn, D.bn, D.inj, D.av⟩
  · rw [D.mem]
    constructor
    · rintro ⟨j, h⟩
      exact ⟨j, List.mem_append_left _ h⟩
    · rintro ⟨j, h⟩
      rcases List.mem_append.mp h with h | h
      · exact ⟨j, h⟩
      · have h := List.mem_singleton.mp h
        injection h with h1 h2
        subst h2
        exact (D.mem u).mp ht
  · rw [grp_snoc]
    by_cases e : t = u
    · subst e
      rw [if_pos rfl, upd_same, List.map_append]
      rfl
    · rw [if_neg e, upd_ne (fun z => e (D.inj u hu t ht z).symm)]
      exact D.lst u hu
theorem PkD.new {G H : Hp} {d p : Addr} {L : List (Nat × Str)} {kvs : List (Key × V)} {ks : List Str} {pl : Str → Addr} {b : Hp} {Av : Addr → Prop} {i : Nat} {t : Str} (D : PkD G H d L kvs ks pl b Av) (ht : t ∉ ks) (hp : H p = none) (gp : G p = none) (bp : b p = none) (ap : ¬ Av p) :
    PkD G (upd (upd (upd H p (.lst [])) d (.dK (putK kvs (.inr t) (.ref p)))) p (.lst [.int i])) d (L ++ [(i, t)]) (putK kvs (.inr t) (.ref p)) (ks ++ [t]) (fun u => if u = t then p else pl u) b Av := by
  have ndp : d ≠ p := ne_of_none D.hd hp
  have no : ∀ u ∈ ks, u ≠ t := fun u hu e => ht (e ▸ hu)
  have gt : grp L t = [] := by
    unfold grp
    rw [List.filter_eq_nil_iff.mpr fun e he z => ?_]
    · rfl
    · have z := of_decide_eq_true z
      exact ht ((D.mem t).mpr ⟨e.1, by rw [← z]; exact he⟩)
  refine ⟨by rw [upd_ne ndp, upd_same], ?_, ?_, fun u => ?_, fun u hu => ?_, fun u hu => ?_, fun u hu => ?_, fun u hu => ?_, fun u hu v hv e => ?_, fun u hu => ?_⟩
  · have := D.ka.put t (.ref p)
    rw [if_neg ht] at this
    exact this
  · have := put_nd t D.nd
    rw [if_neg ht] at this
    exact this
  · rw [List.mem_append, List.mem_singleton, D.mem]
    constructor
    · rintro (⟨j, h⟩ | h)
      · exact ⟨j, List.mem_append_left _ h⟩
      · exact ⟨i, by rw [h]; exact List.mem_append_right _ (List.mem_singleton.mpr rfl)⟩
    · rintro ⟨j, h⟩
      rcases List.mem_append.mp h with h | h
      · exact .inl ⟨j, h⟩
      · have h := List.mem_singleton.mp h
        injection h with h1 h2
        exact .inr h2
  · rw [valV_put]
    rcases List.mem_append.mp hu with h | h
    · rw [if_neg (fun z => no u h (by injection z)), if_neg (no u h)]
      exact D.val u h
    · rw [List.mem_singleton.mp h, if_pos rfl, if_pos rfl]
  · rw [grp_snoc]
    rcases List.mem_append.mp hu with h | h
    · have hl := D.lst u h
      have n1 : pl u ≠ p := ne_of_none hl hp
      have n2 : pl u ≠ d := fun z => by rw [z, D.hd] at hl; cases hl
      rw [if_neg (no u h), if_neg (fun z => no u h z.symm), upd_ne n1, upd_ne n2, upd_ne n1]
      exact hl
    · have h := List.mem_singleton.mp h
      subst h
      rw [if_pos rfl, if_pos rfl, upd_same, gt]
      rfl
  · rcases List.mem_append.mp hu with h | h
    · rw [if_neg (no u h)]; exact D.gn u h
    · rw [List.mem_singleton.mp h, if_pos rfl]; exact gp
  · rcases List.mem_append.mp hu with h | h
    · rw [if_neg (no u h)]; exact D.bn u h
    · rw [List.mem_singleton.mp h, if_pos rfl]; exact bp
  · rcases List.mem_append.mp hu with h | h
    · rw [if_neg (no u h)] at e
      rcases List.mem_append.mp hv with h' | h'
      · rw [if_neg (no v h')] at e
        exact D.inj u h v h' e
      · rw [List.mem_singleton.mp h', if_pos rfl] at e
        exact absurd e (ne_of_none (D.lst u h) hp)
    · have h := List.mem_singleton.mp h
      rw [h, if_pos rfl] at e
      rcases List.mem_append.mp hv with h' | h'
      · rw [if_neg (no v h')] at e
        exact absurd e.symm (ne_of_none (D.lst v h') hp)
      · rw [h, List.mem_singleton.mp h']
  · rcases List.mem_append.mp hu with h | h
    · rw [if_neg (no u h)]; exact D.av u h
    · rw [List.mem_singleton.mp h, if_pos rfl]; exact ap
theorem grp_len (L : List (Nat × Str)) (t : Str) : (grp L t).length ≤ L.length := by
  unfold grp
  rw [List.length_map]
  exact List.length_filter_le _ _
theorem reads_len {rows : List Row} {B : Nat} : ∀ {ws : List Wd} {k : Nat}, (∀ e ∈ ws, (ofR rows e.1).length ≤ B) → (readsFrom rows k ws).length ≤ B * ws.length
  | [], _, _ => Nat.zero_le _
  | x :: ws, k, h => by
    have h1 := h x List.mem_cons_self
    have h2 := reads_len (k := k + 1) fun e he => h e (List.mem_cons_of_mem _ he)
    rw [readsFrom, List.length_append, List.length_map, List.length_cons, Nat.mul_add]
    omega
theorem reads_snoc {rows : List Row} {e : Wd} : ∀ {ws : List Wd} {k : Nat}, readsFrom rows k (ws ++ [e]) = readsFrom rows k ws ++ (ofR rows e.1).map fun t => (k + ws.length, t)
  | [], k => by simp [readsFrom]
  | x :: ws, k => by
    rw [List.cons_append, readsFrom, readsFrom, reads_snoc, List.append_assoc, List.length_cons, show k + 1 + ws.length = k + (ws.length + 1) by omega]
def spPkI (K : PySem.W.Frag) : Sp := fun vs H Q _ => ∃ (x dx : Addr) (G : Hp) (sv cv lv : V) (ws : List Wd) (rows : List Row) (lam : Rat), vs = [.ref x, sv, cv, lv] ∧ Same G H ∧ H x = some (.ins (He.ga K "Packing") dx []) ∧ G x = none ∧ rSrc K G sv ws ∧ rCh K G cv rows ∧ rSh K G lv lam ∧
  Inst ws rows ∧ Bq 140 lam ∧ 0 < lam ∧ ∀ k, PkOk ws rows (cap lam) k → Ini (rPk K) x G H k Q
theorem sc_Packing_init : FnScope ["self", "source", "changes", "level", "rows", "place", "text", "read", "group"] ["self", "source", "changes", "level"] (defScope s_Packing_init) := ⟨rfl, rfl, rfl, by decide +kernel, rfl, by decide +kernel, by decide +kernel⟩
theorem cap_bq {lam : Rat} (h : Bq 140 lam) : Bq 140 (cap lam) := by
  unfold cap
  split
  · exact h
  · exact ⟨by decide, by decide⟩
theorem cap_pos {lam : Rat} (h : 0 < lam) : 0 < cap lam := by
  unfold cap
  split
  · exact h
  · decide +kernel
theorem unit_pos {ws : List Wd} {lam : Rat} (W : Wds ws) : 0 < unitOf ws lam := by
  have h1 := sum_pos W.pos W.ne
  have h2 := den_pos lam
  unfold unitOf
  have : Int.lcm (total ws) lam.den ≠ 0 := Int.lcm_ne_zero (by omega) (by omega)
  omega
theorem unit_lt {ws : List Wd} {lam : Rat} (W : Wds ws) (h : Bq 140 lam) : (unitOf ws lam).natAbs < 2 ^ 280 := by
  unfold unitOf
  have h1 := sum_pos W.pos W.ne
  have h2 := den_pos lam
  rw [Int.natAbs_natCast]
  have e : Int.lcm (total ws) lam.den ≤ (total ws).natAbs * lam.den := Nat.le_of_dvd (Nat.mul_pos (by omega) (by omega)) (Nat.lcm_dvd_mul _ _)
  refine Nat.lt_of_le_of_lt e ?_
  rw [show 280 = 140 + 140 from rfl, Nat.pow_add]
  exact Nat.mul_lt_mul'' W.big h.2
theorem ok_Packing_init (T : Tx K mg) : Ok P w K mg base 5 (He.ma K (He.ga K "Packing") "__init__") ["self", "source", "changes", "level"] (spPkI K) := by
  refine ok_mk (f_Packing_init T) (df_kp (f_Packing_init T)) sc_Packing_init (fun _ _ _ _ _ _ us hl => match us, hl with | [_, _, _, _], _ => rfl) (fun vs H Q E h => ?_) (fun cdv A outer s0 H vs Q E hr h => ?_)
  · obtain ⟨x, dx, G, sv, cv, lv, ws, rows, lam, rfl, _⟩ := h
    rfl
  · obtain ⟨x, dx, G, sv, cv, lv, ws, rows, lam, rfl, sm, hx, gx, rs, rc, rl, I, bl, pl, k⟩ := h
    obtain ⟨W, R, n8, has, few⟩ := I
    refine ⟨_, (pss_cons (ps_expr (pe_c (ok_known T) (hr.mono (by decide)) rfl (g_known T) (pa_cons (pv 1) (pa_cons (pv 2) pa_nil))))
      (pss_cons (ps_set (i := 3) sc_Packing_init.nd rfl (Or.inl rfl) (pe_c (ok_at_most_one T) (hr.mono (by decide)) rfl (g_at_most_one T) (pa_cons (pv 3) pa_nil)))
      (pss_cons (ps_f (c_Packing T) (n_Packing_texts T) (pv 0) (pe_src_texts (K := K) rfl (pe_m0 (pv 1) (c_Table T) (m_Table_texts T) (ok_Table_texts T) (hr.mono (by decide))) (pe_m0 (pv 1) (c_Machine T) (m_Machine_texts T) (ok_Machine_texts T) (hr.mono (by decide)))))
      (pss_cons (ps_f (c_Packing T) (n_Packing_unit T) (pv 0) (pe_c (ok_least_multiple T) (hr.mono (by decide)) rfl (g_least_multiple T) (pa_cons (pe_src_whole (K := K) rfl (pe_f (c_Table T) (n_Table_whole T) (pv 1)) (pe_f (c_Machine T) (n_Machine_whole T) (pv 1))) (pa_cons (pe_f (c_Share T) (n_Share_under T) (pv 3)) pa_nil))))
      (C8.pss_cut (ps_f (c_Packing T) (n_Packing_bounds T) (pv 0) (pe_lc (own := [("text", 6)]) (g := (gName 6)) (tt := tYes) rfl sc_Packing_init.nd (pi_tup (pe_f (c_Packing T) (n_Packing_texts T) (pv 0))) (blkOk_by (N := ["self", "source", "changes", "level", "rows", "place", "text", "read", "group"]) (sc := defScope s_Packing_init) (by decide +kernel)) (fun _ _ _ _ _ => (pg_name (i := 6) sc_Packing_init.nd rfl (Or.inl rfl))) (fun _ _ _ _ _ => pts_nil) (fun _ _ _ _ _ => (pe_op op_mulX (pe_src_weight_of (K := K) rfl (pe_m (pv 1) (c_Table T) (m_Table_weight_of T) (ok_Table_weight_of T) (hr.mono (by decide)) (pa_cons (pv 6) pa_nil)) (pe_m (pv 1) (c_Machine T) (m_Machine_weight_of T) (ok_Machine_weight_of T) (hr.mono (by decide)) (pa_cons (pv 6) pa_nil))) (pe_op op_fdivW (pe_f (c_Packing T) (n_Packing_unit T) (pv 0)) (pe_src_whole (K := K) rfl (pe_f (c_Table T) (n_Table_whole T) (pv 1)) (pe_f (c_Machine T) (n_Machine_whole T) (pv 1))))))))
      (pss_cons (ps_f (c_Packing T) (n_Packing_level T) (pv 0) (pe_op op_mulX (pe_f (c_Share T) (n_Share_over T) (pv 3)) (pe_op op_fdivW (pe_f (c_Packing T) (n_Packing_unit T) (pv 0)) (pe_f (c_Share T) (n_Share_under T) (pv 3)))))
      (pss_cons (ps_f (c_Packing T) (n_Packing_readable T) (pv 0) (pe_m0 (pv 2) (c_Changes T) (m_Changes_readable T) (ok_Changes_readable T) (hr.mono (by decide))))
      (pss_cons (ps_f (c_Packing T) (n_Packing_groups T) (pv 0) (pe_lst pa_nil))
      (C8.pss_cut (ps_f (c_Packing T) (n_Packing_readers T) (pv 0) (pe_lst pa_nil))
      (pss_cons (ps_set (i := 4) sc_Packing_init.nd rfl (Or.inl rfl) pe_dnewK)
      (C8.pss_cut (ps_for PassesOwn.never rfl (pi_enumX (by rfl) (b_enumerate T) (pa_cons (pe_f (c_Packing T) (n_Packing_texts T) (pv 0)) pa_nil)) (pg_tup rfl (pgs_cons (pg_name (i := 5) sc_Packing_init.nd rfl (Or.inl rfl)) (pgs_cons (pg_name (i := 6) sc_Packing_init.nd rfl (Or.inl rfl)) pgs_nil)))
      (pss_one (ps_for PassesOwn.never rfl (pi_tup (pe_m (pv 2) (c_Changes T) (m_Changes_of T) (ok_Changes_of T) (hr.mono (by decide)) (pa_cons (pv 6) pa_nil))) (pg_name (i := 7) sc_Packing_init.nd rfl (Or.inl rfl))
      (pss_one (ps_expr (pe_bm PySem.F.plainAttrs_list PySem.F.slot_list_append PySem.F.type_list_append mt_append (pe_dsetd (pv 4) (pv 7) (pe_lst pa_nil) ⟨by rfl, by rfl, by rfl, by rfl⟩) (pa_cons (pv 5) pa_nil)))))))
      (pss_one (ps_for PassesOwn.never rfl (pi_list (pe_callB (call_sortedD rfl) (by rfl) (b_sorted T) (by decide +kernel) (pa_cons (pv 4) pa_nil))) (pg_name (i := 7) sc_Packing_init.nd rfl (Or.inl rfl))
      (pss_cons (ps_set (i := 8) sc_Packing_init.nd rfl (Or.inl rfl) (pe_callTy call_tuple_of (by rfl) (b_tuple T) (by decide +kernel) (pa_cons (pe_dget (hu_of hr) (pv 4) (pv 7) (fun _ _ => rfl)) pa_nil)))
      (pss_one (ps_if (pt_cmpR (op_notInD (u65 hr)) (pv 8) (pe_f (c_Packing T) (n_Packing_groups T) (pv 0)) (by rfl))
        (pss_cons (ps_expr (pe_bm PySem.F.plainAttrs_list PySem.F.slot_list_append PySem.F.type_list_append mt_append (pe_f (c_Packing T) (n_Packing_groups T) (pv 0)) (pa_cons (pv 8) pa_nil)))
      (pss_one (ps_expr (pe_bm PySem.F.plainAttrs_list PySem.F.slot_list_append PySem.F.type_list_append mt_append (pe_f (c_Packing T) (n_Packing_readers T) (pv 0)) (pa_cons (pv 7) pa_nil)))))
        pss_nil)))))))))))))))), ?_⟩
    have hcb := cap_bq bl
    have hub := unit_lt W hcb
    have hup := unit_pos (lam := cap lam) W
    refine ⟨_, rfl, _, rfl, G, sv, cv, ws, rows, rfl, sm, rs, W, rc, R.nd, has, fun G1 H1 n1 => ?_⟩
    refine ⟨_, rfl, G1, _, lam, rfl, n1.gh, Mono.mono n1.gg rl, bl.mono (by decide), fun v2 G2 H2 n2 r2 => ?_⟩
    have n12 := n1.trans n2
    refine ⟨_, rfl, G2, ws, n12.gh, Mono.mono n12.gg rs, W, fun v3 G3 H3 n3 r3 => ?_⟩
    have n13 := n12.trans n3
    have hx3 := n13.hh _ _ (fun z => z) hx
    have gx3 := n13.loc hx gx
    have r2 : rSh K G2 v2 (cap lam) := r2
    refine ⟨_, rfl, x, dx, _, rfl, hx3, by decide, ?_⟩
    have m0 := (n13.sub (M := fun c => c = x)).putM (o := .ins (He.ga K "Packing") dx [("texts", v3)]) rfl gx3
    have hx4 : upd H3 x (.ins (He.ga K "Packing") dx [("texts", v3)]) x = some (.ins (He.ga K "Packing") dx [("texts", v3)]) := upd_same
    obtain ⟨lx, ldx, rfl, hl⟩ := id r2
    refine ⟨_, rfl, G3, ws, m0.gh, Mono.mono n13.gg rs, _, rfl, lx, ldx, _, _, rfl, m0.gh _ _ (n3.gg _ _ hl), rfl, total ws, ((cap lam).den : Int), rfl, sum_pos W.pos W.ne, den_pos _, pow_up W.big (by decide), pow_up (den_bq hcb) (by decide), ?_⟩
    refine ⟨_, rfl, x, dx, _, rfl, hx4, show (1 : Nat) < 1000 by decide, ?_⟩
    have m1 := m0.putM (o := .ins (He.ga K "Packing") dx [("texts", v3), ("unit", .int (unitOf ws (cap lam)))]) rfl gx3
    have hx5 : upd (upd H3 x (.ins (He.ga K "Packing") dx [("texts", v3)])) x (.ins (He.ga K "Packing") dx [("texts", v3), ("unit", .int (unitOf ws (cap lam)))]) x = some (.ins (He.ga K "Packing") dx [("texts", v3), ("unit", .int (unitOf ws (cap lam)))]) := upd_same
    refine ⟨fun σ H' => ∃ (G' : Hp) (v1 v3 : V), σ = [some (.ref x), some sv, some cv, some (.ref lx), none, none, none, none, none] ∧ Nw (fun c => c = x) G H G' H' ∧ H' x = some (.ins (He.ga K "Packing") dx [("texts", v1), ("unit", .int (unitOf ws (cap lam))), ("bounds", v3)]) ∧ G' x = none ∧
      rTf V.str G' v1 (ws.map (·.1)) ∧ rLf V.int G' v3 (ws.map fun e => e.2 * (unitOf ws (cap lam) / total ws)) ∧ rSh K G' (.ref lx) (cap lam), ?_, ?_⟩
    · obtain ⟨p3, rfl, hp3⟩ := id r3
      refine ⟨_, rfl, x, dx, _, _, rfl, hx5, rfl, p3, rfl, ⟨_, SqT.of (m1.gh _ _ hp3)⟩, fun D hD => ?_⟩
      have hp5 := m1.gh _ _ hp3
      refine lcM (ys := (ws.map fun e => e.2 * (unitOf ws (cap lam) / total ws)).map V.int) (walk_tup (xs := (ws.map fun e : Wd => e.1).map V.str)) (by simp) (by simp; omega) (fun l => SqT.of (get_new hp5 hD)) (fun i y y' l Ky hy hy' hk => ?_) ?_
      · cases hw : ws[i]? with
        | none => rw [List.getElem?_map, List.getElem?_map, hw] at hy; cases hy
        | some e =>
          rw [List.getElem?_map, List.getElem?_map, hw] at hy hy'
          obtain rfl := (Option.some.inj hy).symm
          obtain rfl := (Option.some.inj hy').symm
          have n6 := m1.allocH (o := .lst l) hD
          have tp := sum_pos W.pos W.ne
          refine ⟨rfl, _, rfl, G3, ws, e, rfl, n6.gh, Mono.mono n13.gg rs, W, List.mem_of_getElem? hw, _, rfl, x, dx, _, _, rfl, get_new hx5 hD, rfl, _, rfl, G3, ws, n6.gh, Mono.mono n13.gg rs, _, _, rfl, rfl, wide_div (b := 140) tp W.big (by decide) (by decide), _, _, rfl, rfl, mulx_ok (wd_big W (List.mem_of_getElem? hw)) (nat_lt_two (by
            obtain ⟨tt, ht⟩ := Int.eq_ofNat_of_zero_le (Int.le_of_lt tp)
            rw [ht]
            exact natAbs_ediv_le _ _) hub) (by decide), hk⟩
      · have n6 := m1.alloc (o := .lst ((ws.map fun e => e.2 * (unitOf ws (cap lam) / total ws)).map V.int)) hD
        have nxD : x ≠ D := ne_of_none hx5 hD
        have gx6 : upd G3 D (.lst ((ws.map fun e => e.2 * (unitOf ws (cap lam) / total ws)).map V.int)) x = none := by rw [upd_ne nxD]; exact gx3
        have s6 := same_new (o := .lst ((ws.map fun e => e.2 * (unitOf ws (cap lam) / total ws)).map V.int)) (m1.gfree hD)
        refine ⟨_, rfl, x, dx, _, rfl, get_new hx5 hD, show (2 : Nat) < 1000 by decide, _, .ref p3, .ref D, rfl, n6.putM rfl gx6, upd_same, gx6, Mono.mono s6 r3, ⟨D, rfl, upd_same⟩, Mono.mono (n3.gg.trans s6) r2⟩
    · rintro σ H4 ⟨G4, v1, v3', rfl, n4, hx4, gx4, r1, r3', rl4⟩
      have sG4 := n4.gg.trans n4.gh
      obtain ⟨lx, ldx, e4, hl4⟩ := id rl4
      injection e4 with e4
      subst e4
      refine ⟨_, rfl, _, _, _, _, rfl, n4.gh _ _ hl4, rfl, _, rfl, x, dx, _, _, rfl, hx4, rfl, _, rfl, _, _, _, _, rfl, n4.gh _ _ hl4, rfl, _, _, rfl, rfl, wide_div (b := 140) (den_pos _) (den_bq hcb) (by decide) (by decide), _, _, rfl, rfl, mulx_ok hcb.1 (nat_lt_two (natAbs_ediv_le _ _) hub) (by decide), ?_⟩
      refine ⟨_, rfl, x, dx, _, rfl, hx4, show (3 : Nat) < 1000 by decide, ?_⟩
      have m5 := n4.putM (o := .ins (He.ga K "Packing") dx [("texts", v1), ("unit", .int (unitOf ws (cap lam))), ("bounds", v3'), ("level", .int ((cap lam).num * (unitOf ws (cap lam) / ((cap lam).den : Int))))]) rfl gx4
      have hx5 : upd H4 x (.ins (He.ga K "Packing") dx [("texts", v1), ("unit", .int (unitOf ws (cap lam))), ("bounds", v3'), ("level", .int ((cap lam).num * (unitOf ws (cap lam) / ((cap lam).den : Int))))]) x = some (.ins (He.ga K "Packing") dx [("texts", v1), ("unit", .int (unitOf ws (cap lam))), ("bounds", v3'), ("level", .int ((cap lam).num * (unitOf ws (cap lam) / ((cap lam).den : Int))))]) := upd_same
      obtain ⟨ca, cdx, cd, kvs, rfl, hca, hcd, pk⟩ := id rc
      refine ⟨_, rfl, ca, cdx, _, rfl, m5.gh _ _ (n4.gg _ _ hca), rfl, G4, _, rows, rfl, m5.gh, Mono.mono n4.gg rc, R, fun l h1 h2 => Nat.le_trans (few l h1 h2) (by decide), fun ys sy my v5 G5 H5 n5 r5 => ?_⟩
      have m6 := m5.trans n5.sub
      have hx6 := n5.hh _ _ (fun z => z) hx5
      have gx6 := m6.loc hx gx
      refine ⟨_, rfl, x, dx, _, rfl, hx6, show (4 : Nat) < 1000 by decide, ?_⟩
      have m7 := m6.putM (o := .ins (He.ga K "Packing") dx [("texts", v1), ("unit", .int (unitOf ws (cap lam))), ("bounds", v3'), ("level", .int ((cap lam).num * (unitOf ws (cap lam) / ((cap lam).den : Int)))), ("readable", v5)]) rfl gx6
      have hx7 : upd H5 x (.ins (He.ga K "Packing") dx [("texts", v1), ("unit", .int (unitOf ws (cap lam))), ("bounds", v3'), ("level", .int ((cap lam).num * (unitOf ws (cap lam) / ((cap lam).den : Int)))), ("readable", v5)]) x = some (.ins (He.ga K "Packing") dx [("texts", v1), ("unit", .int (unitOf ws (cap lam))), ("bounds", v3'), ("level", .int ((cap lam).num * (unitOf ws (cap lam) / ((cap lam).den : Int)))), ("readable", v5)]) := upd_same
      refine ⟨Nat.zero_le _, fun pg hpg => ?_⟩
      have m8 := m7.allocH (o := .lst []) hpg
      have hx8 := get_new (o := .lst []) hx7 hpg
      refine ⟨_, rfl, x, dx, _, rfl, hx8, show (5 : Nat) < 1000 by decide, ?_⟩
      have nxg : x ≠ pg := ne_of_none hx7 hpg
      have m9 := m8.putM (o := .ins (He.ga K "Packing") dx [("texts", v1), ("unit", .int (unitOf ws (cap lam))), ("bounds", v3'), ("level", .int ((cap lam).num * (unitOf ws (cap lam) / ((cap lam).den : Int)))), ("readable", v5), ("groups", .ref pg)]) rfl gx6
      have hx9 : upd (upd (upd H5 x (.ins (He.ga K "Packing") dx [("texts", v1), ("unit", .int (unitOf ws (cap lam))), ("bounds", v3'), ("level", .int ((cap lam).num * (unitOf ws (cap lam) / ((cap lam).den : Int)))), ("readable", v5)])) pg (.lst [])) x (.ins (He.ga K "Packing") dx [("texts", v1), ("unit", .int (unitOf ws (cap lam))), ("bounds", v3'), ("level", .int ((cap lam).num * (unitOf ws (cap lam) / ((cap lam).den : Int)))), ("readable", v5), ("groups", .ref pg)]) x = _ := upd_same
      have hg9 : upd (upd (upd H5 x (.ins (He.ga K "Packing") dx [("texts", v1), ("unit", .int (unitOf ws (cap lam))), ("bounds", v3'), ("level", .int ((cap lam).num * (unitOf ws (cap lam) / ((cap lam).den : Int)))), ("readable", v5)])) pg (.lst [])) x (.ins (He.ga K "Packing") dx [("texts", v1), ("unit", .int (unitOf ws (cap lam))), ("bounds", v3'), ("level", .int ((cap lam).num * (unitOf ws (cap lam) / ((cap lam).den : Int)))), ("readable", v5), ("groups", .ref pg)]) pg = some (.lst []) := by
        rw [upd_ne (Ne.symm nxg)]
        exact upd_same
      have hpgH : H pg = none := m7.dom _ hpg
      refine ⟨fun σ H' => ∃ (G' : Hp) (pq : Addr), σ = [some (.ref x), some sv, some (.ref ca), some (.ref lx), none, none, none, none, none] ∧ Nw (fun c => c = x) G H G' H' ∧ H' x = some (.ins (He.ga K "Packing") dx (pkF v1 (unitOf ws (cap lam)) v3' ((cap lam).num * (unitOf ws (cap lam) / ((cap lam).den : Int))) v5 (.ref pg) (.ref pq))) ∧ G' x = none ∧ G' pg = none ∧ G' pq = none ∧
        H' pg = some (.lst []) ∧ H' pq = some (.lst []) ∧ rTf V.str G' v1 (ws.map (·.1)) ∧ rLf V.int G' v3' (ws.map fun e => e.2 * (unitOf ws (cap lam) / total ws)) ∧ rTf V.str G' v5 ys ∧ H pq = none ∧ pg ≠ pq, ?_, ?_⟩
      · refine ⟨Nat.zero_le _, fun pq hpq => ?_⟩
        have m10 := m9.allocH (o := .lst []) hpq
        have hx10 := get_new (o := .lst []) hx9 hpq
        have hg10 := get_new (o := .lst []) hg9 hpq
        have nxq : x ≠ pq := ne_of_none hx9 hpq
        have ngq : pg ≠ pq := ne_of_none hg9 hpq
        refine ⟨_, rfl, x, dx, _, rfl, hx10, show (6 : Nat) < 1000 by decide, G5, pq, rfl, m10.putM rfl gx6, upd_same, gx6, m7.gfree hpg, m9.gfree hpq, ?_, ?_, Mono.mono n5.gg r1, Mono.mono n5.gg r3', r5, m9.dom _ hpq, ngq⟩
        · rw [upd_ne (Ne.symm nxg)]
          exact hg10
        · rw [upd_ne (Ne.symm nxq)]
          exact upd_same
      · rintro σ H6 ⟨G6, pq, rfl, n6, hx6', gx6', gg6, gq6, hg6, hq6, r1', r3'', r5', hpqH, ngq⟩
        intro d hd6
        have sG6 := n6.gg.trans n6.gh
        obtain ⟨p1, rfl, hp1⟩ := id r1'
        have m0 := n6.allocH (o := .dK []) hd6
        have hx0 := get_new (o := .dK []) hx6' hd6
        have hg0 := get_new (o := .dK []) hg6 hd6
        have hq0 := get_new (o := .dK []) hq6 hd6
        have hd0 : upd H6 d (.dK []) d = some (.dK []) := upd_same
        refine ⟨fun σ H' => ∃ (a b c : Option V) (kvs : List (Key × V)) (ks : List Str) (pl : Str → Addr), σ = [some (.ref x), some sv, some (.ref ca), some (.ref lx), some (.ref d), a, b, c, none] ∧ Nw (fun c => c = x) G H G6 H' ∧
          H' x = some (.ins (He.ga K "Packing") dx (pkF (.ref p1) (unitOf ws (cap lam)) v3' ((cap lam).num * (unitOf ws (cap lam) / ((cap lam).den : Int))) v5 (.ref pg) (.ref pq))) ∧
          H' pg = some (.lst []) ∧ H' pq = some (.lst []) ∧ PkD G6 H' d (reads rows ws) kvs ks pl H (fun b => b = pg ∨ b = pq), ?_, ?_⟩
        · refine ⟨_, rfl, x, dx, _, _, rfl, hx0, rfl, .tup p1, _, rfl, Rd.of (m0.gh _ _ hp1), ?_⟩
          refine for_it (walk_enumX (q := .tup p1) (xs := (ws.map fun e : Wd => e.1).map V.str)) (fun i σ H' => ∃ (a b c : Option V) (kvs : List (Key × V)) (ks : List Str) (pl : Str → Addr), σ = [some (.ref x), some sv, some (.ref ca), some (.ref lx), some (.ref d), a, b, c, none] ∧ Nw (fun c => c = x) G H G6 H' ∧
            H' x = some (.ins (He.ga K "Packing") dx (pkF (.ref p1) (unitOf ws (cap lam)) v3' ((cap lam).num * (unitOf ws (cap lam) / ((cap lam).den : Int))) v5 (.ref pg) (.ref pq))) ∧
            H' pg = some (.lst []) ∧ H' pq = some (.lst []) ∧ PkD G6 H' d (readsFrom rows 0 (ws.take i)) kvs ks pl H (fun b => b = pg ∨ b = pq))
            ⟨none, none, none, [], [], fun _ => 0, rfl, m0, hx0, hg0, hq0, hd0, rfl, List.nodup_nil, fun t => ⟨fun h => (by cases h), fun ⟨i, h⟩ => (by cases h)⟩, fun t h => (by cases h), fun t h => (by cases h), fun t h => (by cases h), fun t h => (by cases h), fun t h => (by cases h), fun t h => (by cases h)⟩
            (fun i σ H' _ h => by obtain ⟨a, b, c, kvs, ks, pl, rfl, n, _⟩ := h; exact Rd.of (n.gh _ _ hp1)) ?_ ?_
          · rintro i v σ H7 H8 hi ⟨a, b, c, kvs2, ks, pl, rfl, n7, hx7', hg7, hq7, PD⟩ ⟨T1, y1, y2, rfl, hT1, rfl, f1, f2⟩
            have f1 := (Option.some.inj f1).symm
            subst f1
            have hi' : i < ws.length := by simpa using hi
            have hw : ws[i]? = some ws[i] := List.getElem?_eq_getElem hi'
            have f2 : ((ws.map fun e : Wd => e.1).map V.str)[i]? = some y2 := f2
            rw [List.getElem?_map, List.getElem?_map, hw] at f2
            have f2 := (Option.some.inj f2).symm
            have f2 : y2 = .str ws[i].1 := f2
            subst f2
            obtain ⟨r, hrm, er⟩ := List.mem_map.mp (has ws[i] (List.getElem_mem hi'))
            have n8 := n7.allocH (o := .tup [.int (i : Nat), .str ws[i].1]) hT1
            have hx8 := get_new (o := .tup [.int (i : Nat), .str ws[i].1]) hx7' hT1
            have hg8 := get_new (o := .tup [.int (i : Nat), .str ws[i].1]) hg7 hT1
            have hq8 := get_new (o := .tup [.int (i : Nat), .str ws[i].1]) hq7 hT1
            have hT8 : upd H7 T1 (.tup [.int (i : Nat), .str ws[i].1]) T1 = some (.tup [.int (i : Nat), .str ws[i].1]) := upd_same
            have PD8 := PD.mono (G' := G6) (same_new (o := .tup [.int (i : Nat), .str ws[i].1]) hT1) PD.gn
            generalize upd H7 T1 (.tup [.int (i : Nat), .str ws[i].1]) = H8 at n8 hx8 hg8 hq8 hT8 PD8
            refine ⟨T1, _, rfl, SqT.of hT8, rfl, _, _, rfl, _, _, rfl, rfl, ?_⟩
            refine ⟨_, rfl, ca, cdx, _, rfl, n8.gh _ _ (n6.gg _ _ hca), rfl, _, rfl, G6, _, rows, r, by rw [er], n8.gh, Mono.mono n6.gg rc, R.nd, hrm, fun u ru => ?_⟩
            obtain ⟨pu, rfl, hpu⟩ := ru
            refine ⟨pu, rfl, ⟨_, SqT.of (n8.gh _ _ hpu)⟩, ?_⟩
            have er2 : ofR rows ws[i].1 = r.2 := by rw [← er]; exact ofR_eq R.nd hrm
            refine for_it (walk_tup (xs := r.2.map V.str)) (fun j σ H' => ∃ (c : Option V) (kvs : List (Key × V)) (ks : List Str) (pl : Str → Addr), σ = [some (.ref x), some sv, some (.ref ca), some (.ref lx), some (.ref d), some (.int (i : Nat)), some (.str ws[i].1), c, none] ∧ Nw (fun c => c = x) G H G6 H' ∧
              H' x = some (.ins (He.ga K "Packing") dx (pkF (.ref p1) (unitOf ws (cap lam)) v3' ((cap lam).num * (unitOf ws (cap lam) / ((cap lam).den : Int))) v5 (.ref pg) (.ref pq))) ∧
              H' pg = some (.lst []) ∧ H' pq = some (.lst []) ∧ PkD G6 H' d (readsFrom rows 0 (ws.take i) ++ (r.2.take j).map fun t => (i, t)) kvs ks pl H (fun b => b = pg ∨ b = pq))
              ⟨c, kvs2, ks, pl, rfl, n8, hx8, hg8, hq8, by simpa using PD8⟩ (fun j σ H' _ h => by obtain ⟨c, kvs, ks, pl, rfl, n, _⟩ := h; exact SqT.of (n.gh _ _ hpu)) ?_ ?_
            · rintro j y σ H9 H10 hj ⟨c, kvs3, ks3, pl3, rfl, n9, hx9', hg9', hq9', PD9⟩ ⟨rfl, hy⟩
              have hj' : j < r.2.length := by simpa using hj
              have hrj : r.2[j]? = some r.2[j] := List.getElem?_eq_getElem hj'
              rw [List.getElem?_map, hrj] at hy
              have hy := (Option.some.inj hy).symm
              have hy : y = .str r.2[j] := hy
              subst hy
              have eL : readsFrom rows 0 (ws.take i) ++ (r.2.take (j + 1)).map (fun t => (i, t)) = (readsFrom rows 0 (ws.take i) ++ (r.2.take j).map fun t => (i, t)) ++ [(i, r.2[j])] := by
                rw [List.take_add_one, hrj, List.map_append, List.append_assoc]
                rfl
              have fewks : ks3.length ≤ 16 := few ks3 PD9.nd fun t ht => by
                obtain ⟨i', h⟩ := (PD9.mem t).mp ht
                rcases List.mem_append.mp h with h | h
                · obtain ⟨j', e, h1, h2, h3⟩ := mem_from.mp h
                  have he := List.mem_of_mem_take (List.mem_of_getElem? h2)
                  obtain ⟨r', hr', er'⟩ := List.mem_map.mp (has e he)
                  rw [← er', ofR_eq R.nd hr'] at h3
                  exact ⟨r', hr', h3⟩
                · obtain ⟨u, hu, e⟩ := List.mem_map.mp h
                  injection e with e1 e2
                  exact ⟨r, hrm, e2 ▸ List.mem_of_mem_take hu⟩
              refine ⟨_, rfl, d, rfl, .inl ⟨_, Rd.of PD9.hd⟩, _, rfl, Nat.zero_le _, fun p hp => ?_⟩
              have n10 := n9.allocH (o := .lst []) hp
              have PD10 := PD9.mono (G' := G6) (same_new (o := .lst []) hp) PD9.gn
              refine ⟨kvs3, .inr r.2[j], PD10.hd, rfl, by rw [PD9.ka.len, sizeLine_eq]; omega, fun v hv => ?_, fun hv => ?_⟩
              · have ht : r.2[j] ∈ ks3 := PD9.ka.some.mp (by rw [hv]; rfl)
                have e := PD9.val _ ht
                rw [hv] at e
                injection e with e
                subst e
                have hl := PD10.lst _ ht
                refine ⟨tyL hl, _, rfl, pl3 r.2[j], _, _, rfl, rfl, hl, ?_, ?_⟩
                · rw [List.length_map, sizeLine_eq]
                  have l1 := grp_len (readsFrom rows 0 (ws.take i) ++ (r.2.take j).map fun t => (i, t)) r.2[j]
                  rw [List.length_append, List.length_map, List.length_take] at l1
                  have l2 := reads_len (rows := rows) (B := 60) (ws := ws.take i) (k := 0) fun e he => by
                    obtain ⟨r', hr', er'⟩ := List.mem_map.mp (has e (List.mem_of_mem_take he))
                    rw [← er', ofR_eq R.nd hr']
                    exact (R.row r' hr').2.2
                  have l3 := (R.row r hrm).2.2
                  rw [List.length_take] at l2
                  omega
                · have bn := PD9.bn _ ht
                  have av := PD9.av _ ht
                  have nx : x ≠ pl3 r.2[j] := ne_of_none hx bn
                  have ng : pg ≠ pl3 r.2[j] := fun e => av (.inl e.symm)
                  have nq : pq ≠ pl3 r.2[j] := fun e => av (.inr e.symm)
                  refine ⟨some (.str r.2[j]), kvs3, ks3, pl3, rfl, n10.putH bn (PD9.gn _ ht), ?_, ?_, ?_, ?_⟩
                  · rw [upd_ne nx]; exact get_new hx9' hp
                  · rw [upd_ne ng]; exact get_new hg9' hp
                  · rw [upd_ne nq]; exact get_new hq9' hp
                  · rw [eL]
                    exact PD10.old ht
              · have ht : r.2[j] ∉ ks3 := fun h => by
                  have := PD9.ka.some.mpr h
                  rw [hv] at this
                  cases this
                have nxd : x ≠ d := fun e => by have := PD9.hd; rw [← e, hx9'] at this; cases this
                have ngd : pg ≠ d := fun e => by have := PD9.hd; rw [← e, hg9'] at this; cases this
                have nqd : pq ≠ d := fun e => by have := PD9.hd; rw [← e, hq9'] at this; cases this
                have ndp : d ≠ p := ne_of_none PD9.hd hp
                have nxp : x ≠ p := ne_of_none hx9' hp
                have ngp : pg ≠ p := ne_of_none hg9' hp
                have nqp : pq ≠ p := ne_of_none hq9' hp
                have hdH : H d = none := n6.dom _ hd6
                have hpH : H p = none := n9.dom _ hp
                have gd6 : G6 d = none := n6.gh.free hd6
                have gp6 : G6 p = none := n9.gfree hp
                have hl : upd (upd H10 p (.lst [])) d (.dK (putK kvs3 (.inr r.2[j]) (.ref p))) p = some (.lst []) := by
                  rw [upd_ne (Ne.symm ndp)]
                  exact upd_same
                refine ⟨tyL hl, _, rfl, p, _, _, rfl, rfl, hl, by rw [sizeLine_eq]; decide, ?_⟩
                refine ⟨some (.str r.2[j]), putK kvs3 (.inr r.2[j]) (.ref p), ks3 ++ [r.2[j]], (fun u => if u = r.2[j] then p else pl3 u), rfl, (n10.putH hdH gd6).putH hpH gp6, ?_, ?_, ?_, ?_⟩
                · rw [upd_ne nxp, upd_ne nxd]; exact get_new hx9' hp
                · rw [upd_ne ngp, upd_ne ngd]; exact get_new hg9' hp
                · rw [upd_ne nqp, upd_ne nqd]; exact get_new hq9' hp
                · rw [eL]
                  exact PD9.new ht hp gp6 hpH fun e => e.elim (fun e => ngp e.symm) fun e => nqp e.symm
            · rintro σ H9 ⟨c, kvs3, ks3, pl3, rfl, n9, hx9', hg9', hq9', PD9⟩
              refine ⟨_, _, c, kvs3, ks3, pl3, rfl, n9, hx9', hg9', hq9', ?_⟩
              have e : readsFrom rows 0 (ws.take (i + 1)) = readsFrom rows 0 (ws.take i) ++ (r.2.take (r.2.map V.str).length).map fun t => (i, t) := by
                rw [List.take_add_one, hw, List.length_map, List.take_length]
                show readsFrom rows 0 (ws.take i ++ [ws[i]]) = _
                rw [reads_snoc, er2, List.length_take, Nat.min_eq_left (by omega), Nat.zero_add]
              rw [e]
              exact PD9
          · rintro σ H7 ⟨a, b, c, kvs2, ks, pl, rfl, n7, hx7', hg7, hq7, PD⟩
            have e : ((ws.map fun e : Wd => e.1).map V.str).length = ws.length := by simp
            rw [e, List.take_length] at PD
            exact ⟨a, b, c, kvs2, ks, pl, rfl, n7, hx7', hg7, hq7, PD⟩
        · rintro σ H7 ⟨a, b, c, kvs, ks, pl, rfl, n7, hx7, hg7, hq7, PD⟩
          have fewk : ks.length ≤ 16 := few ks PD.nd fun t ht => by
            obtain ⟨i', h⟩ := (PD.mem t).mp ht
            obtain ⟨e, h1, h2⟩ := mem_reads.mp h
            obtain ⟨r', hr', er'⟩ := List.mem_map.mp (has e (List.mem_of_getElem? h1))
            rw [← er', ofR_eq R.nd hr'] at h2
            exact ⟨r', hr', h2⟩
          refine ⟨_, rfl, d, kvs, ks, rfl, Rd.of PD.hd, PD.ka, by omega, fun ys2 p pm so hp => ?_⟩
          have sy2 := srt_perm so pm PD.nd
          have n8' := n7.allocH (o := .lst (ys2.map V.str)) hp
          have hx8 := get_new (o := .lst (ys2.map V.str)) hx7 hp
          have hg8 := get_new (o := .lst (ys2.map V.str)) hg7 hp
          have hq8 := get_new (o := .lst (ys2.map V.str)) hq7 hp
          have PD8 := PD.mono (G' := G6) (same_new (o := .lst (ys2.map V.str)) hp) PD.gn
          have hp8 : upd H7 p (.lst (ys2.map V.str)) p = some (.lst (ys2.map V.str)) := upd_same
          have npg : p ≠ pg := fun e => ne_of_none hg7 hp e.symm
          have npq : p ≠ pq := fun e => ne_of_none hq7 hp e.symm
          have gp6 := n7.gfree hp
          have hpH := n7.dom _ hp
          generalize upd H7 p (.lst (ys2.map V.str)) = H8 at n8' hx8 hg8 hq8 PD8 hp8
          refine ⟨p, rfl, ⟨_, SqL.of hp8⟩, ?_⟩
          refine for_it (walk_list (xs := ys2.map V.str)) (fun i σ H' => ∃ (c g : Option V) (Gc : Hp) (gvs : List V) (gs : List (List Int)) (rds : List Str), σ = [some (.ref x), some sv, some (.ref ca), some (.ref lx), some (.ref d), a, b, c, g] ∧ Nw (fun c => c = x) G H Gc H' ∧ Same G6 Gc ∧
            H' x = some (.ins (He.ga K "Packing") dx (pkF (.ref p1) (unitOf ws (cap lam)) v3' ((cap lam).num * (unitOf ws (cap lam) / ((cap lam).den : Int))) v5 (.ref pg) (.ref pq))) ∧
            H' pg = some (.lst gvs) ∧ H' pq = some (.lst (rds.map V.str)) ∧ Gc pg = none ∧ Gc pq = none ∧ Paired (rTf V.int Gc) gvs gs ∧ gs.length = rds.length ∧ rds.Nodup ∧ (∀ t ∈ rds, t ∈ ys2.take i) ∧
            (∀ (j : Nat) (g : List Int) (t : Str), gs[j]? = some g → rds[j]? = some t → g = grp (reads rows ws) t) ∧ (∀ t ∈ ys2.take i, ∃ j : Nat, gs[j]? = some (grp (reads rows ws) t)) ∧
            PkD Gc H' d (reads rows ws) kvs ks pl H (fun b => b = pg ∨ b = pq) ∧ H' p = some (.lst (ys2.map V.str)))
            ⟨c, none, G6, [], [], [], rfl, n8', Same.refl G6, hx8, hg8, hq8, gg6, gq6, .nil, rfl, List.nodup_nil, fun t h => (by cases h), fun j g t h => (by cases h), fun t h => (by simp at h), PD8, hp8⟩
            (fun i σ H' _ h => by obtain ⟨c, g, Gc, gvs, gs, rds, rfl, _, _, _, _, _, _, _, _, _, _, _, _, _, _, h⟩ := h; exact SqL.of h) ?_ ?_
          · rintro i y σ H9 H10 hi ⟨c9, g9, Gc, gvs, gs, rds, rfl, n9, s9, hx9, hg9, hq9, gg9, gq9, pr9, len9, nd9, sub9, grp9, all9, PD9, hp9⟩ ⟨rfl, hy⟩
            have hi' : i < ys2.length := by simpa using hi
            have hyi : ys2[i]? = some ys2[i] := List.getElem?_eq_getElem hi'
            rw [List.getElem?_map, hyi] at hy
            have hy := (Option.some.inj hy).symm
            have hy : y = .str ys2[i] := hy
            subst hy
            have ht : ys2[i] ∈ ks := pm.mem_iff.mp (List.getElem_mem hi')
            have dg := DGet.k (k := .inr ys2[i]) PD9.hd
            rw [PD9.val _ ht] at dg
            refine ⟨_, rfl, _, rfl, d, _, rfl, dg, pl ys2[i], _, rfl, .inl ⟨SqL.of (PD9.lst _ ht), fun l hl => ?_⟩⟩
            have n10 := n9.alloc (o := .tup ((grp (reads rows ws) ys2[i]).map V.int)) hl
            have hx10 := get_new (o := .tup ((grp (reads rows ws) ys2[i]).map V.int)) hx9 hl
            have hg10 := get_new (o := .tup ((grp (reads rows ws) ys2[i]).map V.int)) hg9 hl
            have hq10 := get_new (o := .tup ((grp (reads rows ws) ys2[i]).map V.int)) hq9 hl
            have hp10 := get_new (o := .tup ((grp (reads rows ws) ys2[i]).map V.int)) hp9 hl
            have hl10 : upd H10 l (.tup ((grp (reads rows ws) ys2[i]).map V.int)) l = some (.tup ((grp (reads rows ws) ys2[i]).map V.int)) := upd_same
            have gl10 : upd Gc l (.tup ((grp (reads rows ws) ys2[i]).map V.int)) l = some (.tup ((grp (reads rows ws) ys2[i]).map V.int)) := upd_same
            have sg10 : Same Gc (upd Gc l (.tup ((grp (reads rows ws) ys2[i]).map V.int))) := same_new (n9.gfree hl)
            have ngl : pg ≠ l := ne_of_none hg9 hl
            have nql : pq ≠ l := ne_of_none hq9 hl
            have gg10 : upd Gc l (.tup ((grp (reads rows ws) ys2[i]).map V.int)) pg = none := by rw [upd_ne ngl]; exact gg9
            have gq10 : upd Gc l (.tup ((grp (reads rows ws) ys2[i]).map V.int)) pq = none := by rw [upd_ne nql]; exact gq9
            have PD10 := PD9.mono (G' := upd Gc l (.tup ((grp (reads rows ws) ys2[i]).map V.int))) (same_new (o := .tup ((grp (reads rows ws) ys2[i]).map V.int)) hl) fun t ht => by
              rw [upd_ne (ne_of_none (PD9.lst t ht) hl)]; exact PD9.gn t ht
            have pr10 := paired_mono (R := rTf V.int) sg10 pr9
            generalize upd H10 l (.tup ((grp (reads rows ws) ys2[i]).map V.int)) = H11 at n10 hx10 hg10 hq10 hp10 hl10 PD10
            generalize upd Gc l (.tup ((grp (reads rows ws) ys2[i]).map V.int)) = G11 at n10 gl10 sg10 gg10 gq10 PD10 pr10
            have tk : ys2.take (i + 1) = ys2.take i ++ [ys2[i]] := by rw [List.take_add_one, hyi]; rfl
            refine ⟨_, rfl, _, rfl, x, dx, _, _, rfl, hx10, rfl, encT (grp (reads rows ws) ys2[i]), gs.map encT, .tup (SqT.of hl10) (dpI _), .lst (SqL.of hg10) (dpTs n10.gh pr10), shT _, shTs _, _, rfl, ?_⟩
            rw [any_enc]
            refine ite2 (fun cc => ?_) fun cc => ?_
            · have lg := paired_len pr10
              have lr : rds.length ≤ 16 := Nat.le_trans (nodup_le nd9 fun t h => pm.mem_iff.mp (List.mem_of_mem_take (sub9 t h))) fewk
              refine ⟨_, rfl, x, dx, _, _, rfl, hx10, rfl, tyL hg10, _, rfl, pg, _, _, rfl, rfl, hg10, by rw [sizeLine_eq]; omega, ?_⟩
              have hq11 : upd H11 pg (.lst (gvs ++ [.ref l])) pq = some (.lst (rds.map V.str)) := by rw [upd_ne (Ne.symm ngq)]; exact hq10
              have nxg' : x ≠ pg := nxg
              have nxq : x ≠ pq := fun e => by rw [e, hq10] at hx10; cases hx10
              have hx11 := (show upd H11 pg (.lst (gvs ++ [.ref l])) x = H11 x from upd_ne nxg').trans hx10
              refine ⟨_, rfl, x, dx, _, _, rfl, hx11, rfl, tyL hq11, _, rfl, pq, _, _, rfl, rfl, hq11, by rw [List.length_map, sizeLine_eq]; omega, ?_⟩
              have nd_pl : ∀ t ∈ ks, pl t ≠ pg ∧ pl t ≠ pq := fun t h => ⟨fun e => PD10.av t h (.inl e), fun e => PD10.av t h (.inr e)⟩
              have ndg : d ≠ pg := fun e => by have := PD10.hd; rw [e, hg10] at this; cases this
              have ndq : d ≠ pq := fun e => by have := PD10.hd; rw [e, hq10] at this; cases this
              refine ⟨some (.str ys2[i]), _, G11, gvs ++ [.ref l], gs ++ [grp (reads rows ws) ys2[i]], rds ++ [ys2[i]], rfl, (n10.putH hpgH gg10).putH hpqH gq10, s9.trans sg10, ?_, ?_, ?_, gg10, gq10, paired_snoc ⟨l, rfl, gl10⟩ pr10, by simp [len9], ?_, ?_, ?_, ?_, ?_, ?_⟩
              · rw [upd_ne nxq]; exact hx11
              · rw [upd_ne ngq]; exact upd_same
              · rw [upd_same, List.map_append]; rfl
              · refine List.nodup_append.mpr ⟨nd9, by simp, fun u hu v hv e => ?_⟩
                rw [List.mem_singleton.mp hv] at e
                subst e
                have nd2 := sy2.nd
                rw [← List.take_append_drop (i + 1) ys2, tk] at nd2
                have := (List.nodup_append.mp (List.nodup_append.mp nd2).1).2.2 _ (sub9 _ hu) _ (List.mem_singleton.mpr rfl)
                exact this rfl
              · intro t h
                rw [tk]
                rcases List.mem_append.mp h with h | h
                · exact List.mem_append_left _ (sub9 t h)
                · exact List.mem_append_right _ h
              · intro j g t h1 h2
                rcases Nat.lt_or_ge j gs.length with z | z
                · rw [List.getElem?_append_left z] at h1
                  rw [List.getElem?_append_left (by omega)] at h2
                  exact grp9 j g t h1 h2
                · rw [List.getElem?_append_right z] at h1
                  rw [List.getElem?_append_right (by omega)] at h2
                  have hj := (List.getElem?_eq_some_iff.mp h1).1
                  have e0 : j - gs.length = 0 := by simpa using hj
                  rw [e0] at h1
                  rw [show j - rds.length = 0 by omega] at h2
                  have h1 : grp (reads rows ws) ys2[i] = g := by simpa using h1
                  have h2 : ys2[i] = t := by simpa using h2
                  rw [← h1, h2]
              · intro t h
                rw [tk] at h
                rcases List.mem_append.mp h with h | h
                · obtain ⟨j, hj⟩ := all9 t h
                  exact ⟨j, by rw [List.getElem?_append_left (List.getElem?_eq_some_iff.mp hj).1]; exact hj⟩
                · rw [List.mem_singleton.mp h]
                  exact ⟨gs.length, by simp⟩
              · refine ⟨?_, PD10.ka, PD10.nd, PD10.mem, PD10.val, fun t h => ?_, PD10.gn, PD10.bn, PD10.inj, PD10.av⟩
                · rw [upd_ne ndq, upd_ne ndg]; exact PD10.hd
                · rw [upd_ne (nd_pl t h).2, upd_ne (nd_pl t h).1]; exact PD10.lst t h
              · rw [upd_ne npq, upd_ne npg]; exact hp10
            · have hin : grp (reads rows ws) ys2[i] ∈ gs := by simpa using cc
              refine ⟨some (.str ys2[i]), _, G11, gvs, gs, rds, rfl, n10, s9.trans sg10, hx10, hg10, hq10, gg10, gq10, pr10, len9, nd9, fun t h => ?_, grp9, fun t h => ?_, PD10, hp10⟩
              · rw [tk]; exact List.mem_append_left _ (sub9 t h)
              · rw [tk] at h
                rcases List.mem_append.mp h with h | h
                · exact all9 t h
                · rw [List.mem_singleton.mp h]
                  obtain ⟨j, hj⟩ := List.getElem?_of_mem hin
                  exact ⟨j, hj⟩
          · rintro σ H9 ⟨c9, g9, Gc, gvs, gs, rds, rfl, n9, s9, hx9, hg9, hq9, gg9, gq9, pr9, len9, nd9, sub9, grp9, all9, PD9, hp9⟩
            have nxq : x ≠ pq := fun e => by rw [e, hq9] at hx9; cases hx9
            have gx9 := n9.loc hx gx
            have n10 := (n9.frz hpgH hg9).frz hpqH hq9
            have gx10 : upd (upd Gc pg (.lst gvs)) pq (.lst (rds.map V.str)) x = none := by rw [upd_ne nxq, upd_ne nxg]; exact gx9
            have gq10 : upd Gc pg (.lst gvs) pq = none := by rw [upd_ne (Ne.symm ngq)]; exact gq9
            have sT : Same Gc (upd (upd (upd Gc pg (.lst gvs)) pq (.lst (rds.map V.str))) x (.ins (He.ga K "Packing") dx (pkF (.ref p1) (unitOf ws (cap lam)) v3' ((cap lam).num * (unitOf ws (cap lam) / ((cap lam).den : Int))) v5 (.ref pg) (.ref pq)))) :=
              ((same_new gg9).trans (same_new gq10)).trans (same_new gx10)
            refine k ⟨ws.map (·.1), unitOf ws (cap lam), ws.map fun e => e.2 * (unitOf ws (cap lam) / total ws), (cap lam).num * (unitOf ws (cap lam) / ((cap lam).den : Int)), ys, gs, rds⟩ ⟨rfl, rfl, rfl, rfl, sy, my, len9, nd9, grp9, fun t h => ?_, fun i t h => ?_⟩ _ _ _ n10 gx10 hx9
              ⟨x, dx, .ref p1, v3', v5, .ref pg, .ref pq, rfl, upd_same, Mono.mono (s9.trans sT) r1', Mono.mono (s9.trans sT) r3'', Mono.mono (s9.trans sT) r5', ⟨pg, gvs, rfl, ?_, paired_mono (R := rTf V.int) sT pr9⟩, ⟨pq, rfl, ?_⟩⟩
            · exact (PD.mem t).mp (pm.mem_iff.mp (List.mem_of_mem_take (sub9 t h)))
            · refine all9 t ?_
              rw [List.length_map, List.take_length]
              exact pm.mem_iff.mpr ((PD.mem t).mpr ⟨i, h⟩)
            · rw [upd_ne (Ne.symm nxg), upd_ne ngq]; exact upd_same
            · rw [upd_ne (Ne.symm nxq)]; exact upd_same
end
end Mk

-- P2
set_option Elab.async false
set_option linter.all false
set_option maxRecDepth 100000
set_option maxHeartbeats 4000000
set_option exponentiation.threshold 20000
namespace Mk
open PySem PySem.Spec PyProof.Rows L2
open C8 (InsC call_isC)
theorem yes_ok {σ : L2.St} {H : Hp} {A B : Hp → Prop} (h : A H) : tYes σ H fun b H3 => if b = true then A H3 else B H3 := by
  show if true = true then A H else B H
  rw [if_pos rfl]
  exact h
/-! ### the packing as a table -/
def sidesL (k : Pk) : List (List Int) := ((List.range k.texts.length).map fun i : Nat => [(i : Int)]) ++ k.groups
def endsL (k : Pk) : List Int := k.bounds ++ k.groups.map fun _ => k.level
def pkT (k : Pk) (i j : Nat) : Int :=
  if i < (sidesL k).length then
    (if j < k.texts.length then (if (j : Int) ∈ ((sidesL k)[i]?).getD [] then 1 else 0) else if j < k.texts.length + (sidesL k).length then (if j - k.texts.length = i then 1 else 0) else ((endsL k)[i]?).getD 0)
  else if j < k.texts.length then -1 else 0
def probOf (k : Pk) : Prob := ⟨k.texts.length, (sidesL k).length, pkT k⟩
theorem row_split (a b : Nat) (f : Nat → Int) : rowV (a + b) f = rowV a f ++ rowV b fun j => f (a + j) := by
  unfold rowV
  rw [List.range_add, List.map_append, List.map_map]
  rfl
theorem row_congr {N : Nat} {f g : Nat → Int} (h : ∀ j, j < N → f j = g j) : rowV N f = rowV N g := by
  unfold rowV
  exact List.map_congr_left fun j hj => by rw [h j (List.mem_range.mp hj)]
theorem inV_int {c : Int} {g : List Int} : inV (.int c) (g.map V.int) = decide (c ∈ g) := by
  induction g with
  | nil => rfl
  | cons x g ih =>
    have ih : ((g.map V.int).any fun y => eqV y (.int c)) = decide (c ∈ g) := ih
    unfold inV
    rw [List.map_cons, List.any_cons, ih]
    by_cases e : x = c
    · simp [eqV, e]
    · have e' : ¬ c = x := fun z => e z.symm
      simp [eqV, e, e']
theorem flat_ints (g : List Int) : (g.map V.int).all flatV = true := by
  rw [List.all_eq_true]
  intro x hx
  obtain ⟨j, _, rfl⟩ := List.mem_map.mp hx
  rfl
section
variable {P : Program} {w : World} {K : PySem.W.Frag} {mg : Str → Option Value} {base : Heap}
def spTable (K : PySem.W.Frag) : Sp := fun vs H Q _ => ∃ (G : Hp) (v : V) (k : Pk), vs = [v] ∧ Same G H ∧ rPk K G v k ∧ k.texts.length ≤ 100 ∧ k.groups.length ≤ 100 ∧ k.bounds.length = k.texts.length ∧ ∀ pr G' H', Nw nM G H G' H' → TabV (probOf k) G' pr (pkT k) → Q (.ref pr) H'
theorem sc_Packing_table : FnScope ["self", "many", "sides", "ends", "rows", "at", "side", "own", "slack", "place", "_", "other"] ["self"] (defScope s_Packing_table) := ⟨rfl, rfl, rfl, by decide +kernel, rfl, by decide +kernel, by decide +kernel⟩
theorem ok_Packing_table (T : Tx K mg) : Ok P w K mg base 1 (He.ma K (He.ga K "Packing") "table") ["self"] (spTable K) := by
  refine ok_mk (f_Packing_table T) (df_kp (f_Packing_table T)) sc_Packing_table (fun _ _ _ _ _ _ us hl => match us, hl with | [_], _ => rfl) (fun vs H Q E h => ?_) (fun cdv A outer s0 H vs Q E hr h => ?_)
  · obtain ⟨G, v, k, rfl, _⟩ := h
    rfl
  · obtain ⟨G, v, k, rfl, sm, ⟨a, dx, v1, v3, v5, v6, v7, rfl, ha, ⟨p1, rfl, hp1⟩, ⟨p3, rfl, hp3⟩, r5, ⟨p6, gvs, rfl, hp6, pg⟩, r7⟩, hn, hg, hb, kk⟩ := h
    refine ⟨_, (pss_cons (ps_set (i := 1) sc_Packing_table.nd rfl (Or.inl rfl) (pe_callB call_len_seq (by rfl) (b_len T) (by decide +kernel) (pa_cons (pe_f (c_Packing T) (n_Packing_texts T) (pv 0)) pa_nil)))
      (pss_cons (ps_set (i := 2) sc_Packing_table.nd rfl (Or.inl rfl) (pe_op op_cat (pe_lc (own := [("place", 9)]) (g := (gName 9)) (tt := tYes) rfl sc_Packing_table.nd (pi_range1 (by rfl) (b_range T) (pa_cons (pv 1) pa_nil)) (blkOk_by (N := ["self", "many", "sides", "ends", "rows", "at", "side", "own", "slack", "place", "_", "other"]) (sc := defScope s_Packing_table) (by decide +kernel)) (fun _ _ _ _ _ => (pg_name (i := 9) sc_Packing_table.nd rfl (Or.inl rfl))) (fun _ _ _ _ _ => pts_nil) (fun _ _ _ _ _ => (pe_tup (pa_cons (pv 9) pa_nil)))) (pe_f (c_Packing T) (n_Packing_groups T) (pv 0))))
      (pss_cons (ps_set (i := 3) sc_Packing_table.nd rfl (Or.inl rfl) (pe_op op_cat (pe_f (c_Packing T) (n_Packing_bounds T) (pv 0)) (pe_lc (own := [("_", 10)]) (g := (gName 10)) (tt := tYes) rfl sc_Packing_table.nd (pi_list (pe_f (c_Packing T) (n_Packing_groups T) (pv 0))) (blkOk_by (N := ["self", "many", "sides", "ends", "rows", "at", "side", "own", "slack", "place", "_", "other"]) (sc := defScope s_Packing_table) (by decide +kernel)) (fun _ _ _ _ _ => (pg_name (i := 10) sc_Packing_table.nd rfl (Or.inl rfl))) (fun _ _ _ _ _ => pts_nil) (fun _ _ _ _ _ => (pe_f (c_Packing T) (n_Packing_level T) (pv 0))))))
      (pss_cons (ps_set (i := 4) sc_Packing_table.nd rfl (Or.inl rfl) (pe_lst pa_nil))
      (pss_cons (ps_for PassesOwn.never rfl (pi_enumX (by rfl) (b_enumerate T) (pa_cons (pv 2) pa_nil)) (pg_tup rfl (pgs_cons (pg_name (i := 5) sc_Packing_table.nd rfl (Or.inr rfl)) (pgs_cons (pg_name (i := 6) sc_Packing_table.nd rfl (Or.inr rfl)) pgs_nil)))
      (pss_cons (ps_setLc (i := 7) (own := [("place", 9)]) (g := (gName 9)) (tt := tYes) rfl sc_Packing_table.nd rfl rfl (sw_true rfl rfl rfl (by decide +kernel)) (pi_range1 (by rfl) (b_range T) (pa_cons (pv 1) pa_nil)) (blkOk_by (N := ["self", "many", "sides", "ends", "rows", "at", "side", "own", "slack", "place", "_", "other"]) (sc := defScope s_Packing_table) (by decide +kernel)) (fun _ _ _ _ _ => (pg_name (i := 9) sc_Packing_table.nd rfl (Or.inl rfl))) (fun _ _ _ _ _ => pts_nil) (fun _ _ _ _ _ => (pe_callTy call_int1 (by rfl) (b_int T) (by decide +kernel) (pa_cons (pe_cmpR (show OpR _ _ (rIn K false) from op_in_seq) (pv 9) (pv 6) (by rfl)) pa_nil))))
      (pss_cons (ps_setLc (i := 8) (own := [("other", 11)]) (g := (gName 11)) (tt := tYes) rfl sc_Packing_table.nd rfl rfl (sw_true rfl rfl rfl (by decide +kernel)) (pi_range1 (by rfl) (b_range T) (pa_cons (pe_callB call_len_seq (by rfl) (b_len T) (by decide +kernel) (pa_cons (pv 2) pa_nil)) pa_nil)) (blkOk_by (N := ["self", "many", "sides", "ends", "rows", "at", "side", "own", "slack", "place", "_", "other"]) (sc := defScope s_Packing_table) (by decide +kernel)) (fun _ _ _ _ _ => (pg_name (i := 11) sc_Packing_table.nd rfl (Or.inl rfl))) (fun _ _ _ _ _ => pts_nil) (fun _ _ _ _ _ => (pe_callTy call_int1 (by rfl) (b_int T) (by decide +kernel) (pa_cons (pe_cmpR op_eq (pv 11) (pv 5) (nomark _)) pa_nil))))
      (pss_one (ps_expr (pe_bm PySem.F.plainAttrs_list PySem.F.slot_list_append PySem.F.type_list_append mt_append (pv 4) (pa_cons (pe_op op_cat (pe_op op_cat (pv 7) (pv 8)) (pe_lst (pa_cons (pe_ix ix_list (pv 3) (pv 5) (fun _ _ => rfl)) pa_nil))) pa_nil)))))))
      (pss_cons (ps_expr (pe_bm PySem.F.plainAttrs_list PySem.F.slot_list_append PySem.F.type_list_append mt_append (pv 4) (pa_cons (pe_op op_cat (pe_lc (own := [("_", 10)]) (g := (gName 10)) (tt := tYes) rfl sc_Packing_table.nd (pi_range1 (by rfl) (b_range T) (pa_cons (pv 1) pa_nil)) (blkOk_by (N := ["self", "many", "sides", "ends", "rows", "at", "side", "own", "slack", "place", "_", "other"]) (sc := defScope s_Packing_table) (by decide +kernel)) (fun _ _ _ _ _ => (pg_name (i := 10) sc_Packing_table.nd rfl (Or.inl rfl))) (fun _ _ _ _ _ => pts_nil) (fun _ _ _ _ _ => (pe_un un_neg pe_int))) (pe_lc (own := [("_", 10)]) (g := (gName 10)) (tt := tYes) rfl sc_Packing_table.nd (pi_range1 (by rfl) (b_range T) (pa_cons (pe_op op_add (pe_callB call_len_seq (by rfl) (b_len T) (by decide +kernel) (pa_cons (pv 2) pa_nil)) pe_int) pa_nil)) (blkOk_by (N := ["self", "many", "sides", "ends", "rows", "at", "side", "own", "slack", "place", "_", "other"]) (sc := defScope s_Packing_table) (by decide +kernel)) (fun _ _ _ _ _ => (pg_name (i := 10) sc_Packing_table.nd rfl (Or.inl rfl))) (fun _ _ _ _ _ => pts_nil) (fun _ _ _ _ _ => pe_int))) pa_nil)))
      (pss_one (ps_ret (pv 4))))))))), ?_⟩
    have haH := sm _ _ ha
    refine ⟨_, rfl, a, dx, _, _, rfl, haH, rfl, p1, _, rfl, .inr (SqT.of (sm _ _ hp1)), ?_⟩
    rw [List.length_map]
    refine ⟨_, rfl, _, rfl, by omega, by omega, fun D1 hD1 => ?_⟩
    rw [Int.toNat_natCast]
    refine lc_I walk_range (M := nM) (G := G) (rTf V.int) (fun i ys _ _ => ys = (List.range i).map fun i : Nat => [(i : Int)]) hD1 sm (by omega) (fun i ys Gc Hc o _ h => h) rfl (fun _ _ _ => trivial) (fun z => z) (fun i x ys Gc Hc H' Ky Kn hi n h y k1 k2 => ?_) ?_
    · obtain ⟨rfl, rfl⟩ := y
      refine ⟨rfl, yes_ok ⟨_, rfl, len_ok (show 1 ≤ 100000 by decide), fun t ht => ?_⟩⟩
      refine k1 _ _ _ [(i : Int)] ((Nw.refl n.gh).alloc ht) ⟨t, rfl, ?_⟩ ?_
      · rw [upd_same]
        show some (HO.tup [V.int (0 + (i : Int))]) = _
        rw [Int.zero_add]
        rfl
      · rw [h, List.range_succ, List.map_append]
        rfl
    · rintro ys vs Gc Hc n1 rfl hD1c gD1 pr1
      have ha1 := n1.hh _ _ (fun z => z) haH
      have hg1 := n1.gh _ _ (n1.gg _ _ hp6)
      have lv := paired_len pr1
      have lg := paired_len pg
      simp only [List.length_map, List.length_range] at lv
      refine ⟨_, rfl, a, dx, _, _, rfl, ha1, rfl, D1, p6, vs, gvs, rfl, rfl, hD1c, hg1, by rw [sizeLine_eq]; omega, fun ps hps => ?_⟩
      have n2 := n1.alloc (o := .lst (vs ++ gvs)) hps
      have hs2 : upd Hc ps (.lst (vs ++ gvs)) ps = some (.lst (vs ++ gvs)) := upd_same
      have prS : Paired (rTf V.int (upd Gc ps (.lst (vs ++ gvs)))) (vs ++ gvs) (sidesL k) := paired_append (paired_mono (same_new (n1.gfree hps)) pr1) (paired_mono (n1.gg.trans (same_new (n1.gfree hps))) pg)
      have gps : upd Gc ps (.lst (vs ++ gvs)) ps = some (.lst (vs ++ gvs)) := upd_same
      generalize upd Hc ps (.lst (vs ++ gvs)) = H2 at n2 hs2
      generalize upd Gc ps (.lst (vs ++ gvs)) = G2 at n2 prS gps
      have ha2 := n2.hh _ _ (fun z => z) haH
      have hg2 := n2.gh _ _ (n2.gg _ _ hp6)
      have hb2 := n2.gh _ _ (n2.gg _ _ hp3)
      refine ⟨_, rfl, a, dx, _, _, rfl, ha2, rfl, _, rfl, a, dx, _, _, rfl, ha2, rfl, p6, rfl, ⟨_, SqL.of hg2⟩, fun D2 hD2 => ?_⟩
      refine lcM (ys := (k.groups.map fun _ => k.level).map V.int) (walk_list (xs := gvs)) (by simp [lg]) (by omega) (fun l => SqL.of (get_new hg2 hD2)) (fun i x y l Ky hx hy hk => ?_) ?_
      · have ey : y = .int k.level := by
          rw [List.getElem?_map, List.getElem?_map] at hy
          cases hq : k.groups[i]? with
          | none => rw [hq] at hy; cases hy
          | some g => rw [hq] at hy; exact (Option.some.inj hy).symm
        rw [ey] at hk
        exact ⟨rfl, _, rfl, a, dx, _, _, rfl, get_new ha2 hD2, rfl, hk⟩
      · have n3 := n2.allocH (o := .lst ((k.groups.map fun _ => k.level).map V.int)) hD2
        refine ⟨p3, D2, _, _, rfl, rfl, get_new hb2 hD2, upd_same, by rw [sizeLine_eq]; simp; omega, fun pe hpe => ?_⟩
        have n4 := n3.allocH (o := .lst ((endsL k).map V.int)) hpe
        have eqe : upd (upd H2 D2 (.lst ((k.groups.map fun _ => k.level).map V.int))) pe (.lst (k.bounds.map V.int ++ (k.groups.map fun _ => k.level).map V.int)) = upd (upd H2 D2 (.lst ((k.groups.map fun _ => k.level).map V.int))) pe (.lst ((endsL k).map V.int)) := by
          unfold endsL
          rw [List.map_append]
        have he4 : upd (upd H2 D2 (.lst ((k.groups.map fun _ => k.level).map V.int))) pe (.lst ((endsL k).map V.int)) pe = some (.lst ((endsL k).map V.int)) := upd_same
        have hs4 := get_new (o := .lst ((endsL k).map V.int)) (get_new (o := .lst ((k.groups.map fun _ => k.level).map V.int)) hs2 hD2) hpe
        dsimp only
        rw [eqe]
        generalize upd (upd H2 D2 (.lst ((k.groups.map fun _ => k.level).map V.int))) pe (.lst ((endsL k).map V.int)) = H4 at n4 he4 hs4
        refine ⟨Nat.zero_le _, fun D4 hD4 => ?_⟩
        have ls : (vs ++ gvs).length = (sidesL k).length := paired_len prS
        have lsn : (sidesL k).length = k.texts.length + k.groups.length := by simp [sidesL]
        have le : (endsL k).length = (sidesL k).length := by simp [endsL, sidesL, hb]
        have gD4 := n4.gfree hD4
        refine ⟨_, rfl, .lst ps, _, rfl, Rd.of (get_new hs4 hD4), ?_⟩
        refine for_it (walk_enumX (q := .lst ps) (xs := vs ++ gvs)) (fun i σ H' => ∃ (z1 z2 z3 z4 : Option V) (Gc : Hp) (rs' : List V), σ = [some (.ref a), some (.int k.texts.length), some (.ref ps), some (.ref pe), some (.ref D4), z1, z2, z3, z4, none, none, none] ∧ Nw nM G2 H4 Gc H' ∧ H' D4 = some (.lst rs') ∧ Gc D4 = none ∧ rs'.length = i ∧
            ∀ x, x < i → ∃ q, rs'[x]? = some (.ref q) ∧ Gc q = some (.lst (rowV ((probOf k).N + 1) (pkT k x))))
          ⟨none, none, none, none, G2, [], rfl, (Nw.refl n4.gh).allocH hD4, upd_same, gD4, rfl, fun x h => absurd h (Nat.not_lt_zero _)⟩
          (fun i σ H' _ h => by obtain ⟨z1, z2, z3, z4, Gc, rs', rfl, n, _⟩ := h; exact Rd.of (n.hh _ _ (fun z => z) hs4)) ?_ ?_
        · rintro i v σ H5 H6 hi ⟨z1, z2, z3, z4, Gc5, rs', rfl, n5, hD5, gD5, lrs, hrs⟩ ⟨T1, y1, y2, rfl, hT1, rfl, e1, e2⟩
          have e1 := (Option.some.inj e1).symm
          subst e1
          obtain ⟨g, hgi, t, rfl, htg⟩ := paired_get prS e2
          have n6 := n5.allocH (o := .tup [.int (i : Nat), .ref t]) hT1
          have hD6 := get_new (o := .tup [.int (i : Nat), .ref t]) hD5 hT1
          have hT6 : upd H5 T1 (.tup [.int (i : Nat), .ref t]) T1 = some (.tup [.int (i : Nat), .ref t]) := upd_same
          generalize upd H5 T1 (.tup [.int (i : Nat), .ref t]) = H6 at n6 hD6 hT6
          have ht6 := n6.gh _ _ (n6.gg _ _ htg)
          have hs6 := n6.hh _ _ (fun z => z) hs4
          have he6 := n6.hh _ _ (fun z => z) he4
          refine ⟨T1, _, rfl, SqT.of hT6, rfl, _, _, rfl, _, _, rfl, rfl, ?_⟩
          refine ⟨_, rfl, _, rfl, by omega, by omega, fun D7 hD7 => ?_⟩
          rw [Int.toNat_natCast]
          refine lcM' (ys := rowV k.texts.length fun j => if (j : Int) ∈ g then 1 else 0) walk_range (rowV_len _ _) (by omega) (fun l => trivial) (fun j y' l Ky hj hy hk => ?_) ?_
          · obtain ⟨_, rfl⟩ := rowV_of hy
            refine ⟨rfl, _, rfl, _, rfl, t, _, rfl, .inr (SqT.of (get_new ht6 hD7)), rfl, flat_ints g, .inr ⟨_, rfl, ?_⟩⟩
            show Ky (.int (if inV (.int (0 + (j : Int))) (g.map V.int) = true then 1 else 0)) _
            rw [inV_int, Int.zero_add]
            by_cases e : (j : Int) ∈ g
            · rw [if_pos e] at hk
              rw [decide_eq_true e, if_pos rfl]
              exact hk
            · rw [if_neg e] at hk
              rw [decide_eq_false e, if_neg (by simp)]
              exact hk
          · have n7 := n6.allocH (o := .lst (rowV k.texts.length fun j => if (j : Int) ∈ g then 1 else 0)) hD7
            have hs7 := get_new (o := .lst (rowV k.texts.length fun j => if (j : Int) ∈ g then 1 else 0)) hs6 hD7
            have he7 := get_new (o := .lst (rowV k.texts.length fun j => if (j : Int) ∈ g then 1 else 0)) he6 hD7
            have hD47 := get_new (o := .lst (rowV k.texts.length fun j => if (j : Int) ∈ g then 1 else 0)) hD6 hD7
            have h77 : upd H6 D7 (.lst (rowV k.texts.length fun j => if (j : Int) ∈ g then 1 else 0)) D7 = some (.lst (rowV k.texts.length fun j => if (j : Int) ∈ g then 1 else 0)) := upd_same
            generalize upd H6 D7 (.lst (rowV k.texts.length fun j => if (j : Int) ∈ g then 1 else 0)) = H7 at n7 hs7 he7 hD47 h77
            refine ⟨_, rfl, ps, _, rfl, .inl (SqL.of hs7), _, rfl, by omega, by omega, fun D8 hD8 => ?_⟩
            rw [Int.toNat_natCast, ls]
            have hil : i < (sidesL k).length := by rw [← ls]; exact hi
            refine lcM' (ys := rowV (sidesL k).length fun j => if j = i then 1 else 0) walk_range (rowV_len _ _) (by omega) (fun l => trivial) (fun j y' l Ky hj hy hk => ?_) ?_
            · obtain ⟨_, rfl⟩ := rowV_of hy
              refine ⟨rfl, _, rfl, _, rfl, rfl, .inr ⟨_, rfl, ?_⟩⟩
              show Ky (.int (if decide (V.int (0 + (j : Int)) = V.int (i : Int)) = true then 1 else 0)) _
              by_cases e : j = i
              · rw [if_pos e] at hk
                rw [decide_eq_true (by rw [e, Int.zero_add]), if_pos rfl]
                exact hk
              · rw [if_neg e] at hk
                rw [decide_eq_false (fun z => by injection z with z; omega), if_neg (by simp)]
                exact hk
            · have n8 := n7.allocH (o := .lst (rowV (sidesL k).length fun j => if j = i then 1 else 0)) hD8
              have he8 := get_new (o := .lst (rowV (sidesL k).length fun j => if j = i then 1 else 0)) he7 hD8
              have hD48 := get_new (o := .lst (rowV (sidesL k).length fun j => if j = i then 1 else 0)) hD47 hD8
              have h78 := get_new (o := .lst (rowV (sidesL k).length fun j => if j = i then 1 else 0)) h77 hD8
              have h88 : upd H7 D8 (.lst (rowV (sidesL k).length fun j => if j = i then 1 else 0)) D8 = some (.lst (rowV (sidesL k).length fun j => if j = i then 1 else 0)) := upd_same
              generalize upd H7 D8 (.lst (rowV (sidesL k).length fun j => if j = i then 1 else 0)) = H8 at n8 he8 hD48 h78 h88
              refine ⟨_, rfl, tyL hD48, _, rfl, _, rfl, D7, D8, _, _, rfl, rfl, h78, h88, by rw [rowV_len, rowV_len, sizeLine_eq]; omega, fun p1' hp1' => ?_⟩
              have hie : i < (endsL k).length := by omega
              have he9 := get_new (o := .lst ((rowV k.texts.length fun j => if (j : Int) ∈ g then 1 else 0) ++ rowV (sidesL k).length fun j => if j = i then 1 else 0)) he8 hp1'
              have hD49 := get_new (o := .lst ((rowV k.texts.length fun j => if (j : Int) ∈ g then 1 else 0) ++ rowV (sidesL k).length fun j => if j = i then 1 else 0)) hD48 hp1'
              have n9 := n8.allocH (o := .lst ((rowV k.texts.length fun j => if (j : Int) ∈ g then 1 else 0) ++ rowV (sidesL k).length fun j => if j = i then 1 else 0)) hp1'
              have h99 : upd H8 p1' (.lst ((rowV k.texts.length fun j => if (j : Int) ∈ g then 1 else 0) ++ rowV (sidesL k).length fun j => if j = i then 1 else 0)) p1' = some (.lst ((rowV k.texts.length fun j => if (j : Int) ∈ g then 1 else 0) ++ rowV (sidesL k).length fun j => if j = i then 1 else 0)) := upd_same
              generalize upd H8 p1' (.lst ((rowV k.texts.length fun j => if (j : Int) ∈ g then 1 else 0) ++ rowV (sidesL k).length fun j => if j = i then 1 else 0)) = H9 at he9 hD49 n9 h99
              refine ⟨_, rfl, _, rfl, pe, _, _, _, rfl, rfl, SqL.of he9, (at_nat (by rw [List.length_map]; exact hie)).trans (by rw [List.getElem?_map, List.getElem?_eq_getElem hie]; rfl), len_ok (show 1 ≤ 100000 by decide), fun p2 hp2 => ?_⟩
              have hD410 := get_new (o := .lst [.int (endsL k)[i]]) hD49 hp2
              have n10 := n9.allocH (o := .lst [.int (endsL k)[i]]) hp2
              have h910 := get_new (o := .lst [.int (endsL k)[i]]) h99 hp2
              have h1010 : upd H9 p2 (.lst [.int (endsL k)[i]]) p2 = some (.lst [.int (endsL k)[i]]) := upd_same
              generalize upd H9 p2 (.lst [.int (endsL k)[i]]) = H10 at hD410 n10 h910 h1010
              refine ⟨p1', p2, _, _, rfl, rfl, h910, h1010, by rw [List.length_append, rowV_len, rowV_len, sizeLine_eq]; simp; omega, fun p3' hp3' => ?_⟩
              have er : (rowV k.texts.length fun j => if (j : Int) ∈ g then 1 else 0) ++ (rowV (sidesL k).length fun j => if j = i then 1 else 0) ++ [V.int (endsL k)[i]] = rowV ((probOf k).N + 1) (pkT k i) := by
                show _ = rowV (k.texts.length + (sidesL k).length + 1) (pkT k i)
                rw [row_split, row_split]
                congr 1
                · congr 1
                  · refine row_congr fun j hj => ?_
                    unfold pkT
                    rw [if_pos hil, if_pos hj, hgi]
                    rfl
                  · refine row_congr fun j hj => ?_
                    unfold pkT
                    rw [if_pos hil, if_neg (show ¬ (k.texts.length + j < k.texts.length) by omega), if_pos (show k.texts.length + j < k.texts.length + (sidesL k).length by omega), show k.texts.length + j - k.texts.length = j by omega]
                · show _ = [V.int (pkT k i (k.texts.length + (sidesL k).length + 0))]
                  unfold pkT
                  rw [if_pos hil, if_neg (by omega), if_neg (by omega), List.getElem?_eq_getElem hie]
                  rfl
              dsimp only
              rw [er]
              have n11 := n10.alloc (o := .lst (rowV ((probOf k).N + 1) (pkT k i))) hp3'
              have hD411 := get_new (o := .lst (rowV ((probOf k).N + 1) (pkT k i))) hD410 hp3'
              have nD : D4 ≠ p3' := ne_of_none hD410 hp3'
              have gD11 : upd Gc5 p3' (.lst (rowV ((probOf k).N + 1) (pkT k i))) D4 = none := by rw [upd_ne nD]; exact gD5
              refine ⟨D4, rs', _, rfl, rfl, hD411, by rw [lrs, sizeLine_eq]; omega, _, _, _, _, _, _, rfl, n11.putH hD4 gD11, upd_same, gD11, by rw [List.length_append, lrs]; rfl, fun x hx => ?_⟩
              by_cases e : x = i
              · subst e
                exact ⟨p3', by rw [List.getElem?_append_right (by omega), lrs, Nat.sub_self]; rfl, upd_same⟩
              · obtain ⟨q, h1, h2⟩ := hrs x (by omega)
                exact ⟨q, by rw [List.getElem?_append_left (by omega)]; exact h1, by rw [upd_ne (ne_of_none (n10.gh _ _ h2) hp3')]; exact h2⟩
        · rintro σ H5 ⟨z1, z2, z3, z4, Gc5, rs', rfl, n5, hD5, gD5, lrs, hrs⟩
          refine ⟨_, rfl, tyL hD5, _, rfl, _, rfl, by omega, by omega, fun D7 hD7 => ?_⟩
          rw [Int.toNat_natCast]
          refine lcM' (ys := rowV k.texts.length fun _ => -1) walk_range (rowV_len _ _) (by omega) (fun l => trivial) (fun j y' l Ky hj hy hk => ?_) ?_
          · obtain ⟨_, rfl⟩ := rowV_of hy
            exact ⟨rfl, _, rfl, hk⟩
          · have n7 := n5.allocH (o := .lst (rowV k.texts.length fun _ => -1)) hD7
            have hs7 := get_new (o := .lst (rowV k.texts.length fun _ => -1)) (n5.hh _ _ (fun z => z) hs4) hD7
            have hD47 := get_new (o := .lst (rowV k.texts.length fun _ => -1)) hD5 hD7
            have h77 : upd H5 D7 (.lst (rowV k.texts.length fun _ => -1)) D7 = some (.lst (rowV k.texts.length fun _ => -1)) := upd_same
            generalize upd H5 D7 (.lst (rowV k.texts.length fun _ => -1)) = H7 at n7 hs7 hD47 h77
            refine ⟨_, rfl, ps, _, rfl, .inl (SqL.of hs7), _, _, rfl, rfl, _, rfl, by omega, by omega, fun D8 hD8 => ?_⟩
            have en : (((vs ++ gvs).length : Int) + 1).toNat = (sidesL k).length + 1 := by omega
            rw [en]
            refine lcM' (ys := rowV ((sidesL k).length + 1) fun _ => 0) walk_range (rowV_len _ _) (by omega) (fun l => trivial) (fun j y' l Ky hj hy hk => ?_) ?_
            · obtain ⟨_, rfl⟩ := rowV_of hy
              exact ⟨rfl, hk⟩
            · have n8 := n7.allocH (o := .lst (rowV ((sidesL k).length + 1) fun _ => 0)) hD8
              have hD48 := get_new (o := .lst (rowV ((sidesL k).length + 1) fun _ => 0)) hD47 hD8
              have h78 := get_new (o := .lst (rowV ((sidesL k).length + 1) fun _ => 0)) h77 hD8
              have h88 : upd H7 D8 (.lst (rowV ((sidesL k).length + 1) fun _ => 0)) D8 = some (.lst (rowV ((sidesL k).length + 1) fun _ => 0)) := upd_same
              generalize upd H7 D8 (.lst (rowV ((sidesL k).length + 1) fun _ => 0)) = H8 at n8 hD48 h78 h88
              refine ⟨D7, D8, _, _, rfl, rfl, h78, h88, by rw [rowV_len, rowV_len, sizeLine_eq]; omega, fun p9 hp9 => ?_⟩
              have er : (rowV k.texts.length fun _ => -1) ++ (rowV ((sidesL k).length + 1) fun _ => 0) = rowV ((probOf k).N + 1) (pkT k (sidesL k).length) := by
                show _ = rowV (k.texts.length + (sidesL k).length + 1) (pkT k (sidesL k).length)
                rw [Nat.add_assoc, row_split k.texts.length ((sidesL k).length + 1)]
                congr 1
                · refine row_congr fun j hj => ?_
                  unfold pkT
                  rw [if_neg (by omega), if_pos hj]
                · refine row_congr fun j hj => ?_
                  unfold pkT
                  rw [if_neg (by omega), if_neg (by omega)]
              dsimp only
              rw [er]
              have n9 := n8.alloc (o := .lst (rowV ((probOf k).N + 1) (pkT k (sidesL k).length))) hp9
              have hD49 := get_new (o := .lst (rowV ((probOf k).N + 1) (pkT k (sidesL k).length))) hD48 hp9
              have nD : D4 ≠ p9 := ne_of_none hD48 hp9
              have gD9 : upd Gc5 p9 (.lst (rowV ((probOf k).N + 1) (pkT k (sidesL k).length))) D4 = none := by rw [upd_ne nD]; exact gD5
              refine ⟨D4, rs', _, rfl, rfl, hD49, by rw [lrs, sizeLine_eq]; omega, ?_⟩
              refine ⟨_, rfl, kk D4 (upd (upd Gc5 p9 (.lst (rowV ((probOf k).N + 1) (pkT k (sidesL k).length)))) D4 (.lst (rs' ++ [.ref p9]))) _ ((n4.trans (n9.putH hD4 gD9)).frz (n4.dom _ hD4) upd_same) ⟨rs' ++ [.ref p9], upd_same, by rw [List.length_append, lrs, ls]; rfl, fun x hx => ?_⟩⟩
              have hx : x ≤ (sidesL k).length := hx
              by_cases e : x = (sidesL k).length
              · subst e
                refine ⟨p9, by rw [List.getElem?_append_right (by omega), lrs, ls, Nat.sub_self]; rfl, ?_⟩
                rw [upd_ne (Ne.symm nD)]
                exact upd_same
              · obtain ⟨q, h1, h2⟩ := hrs x (by omega)
                refine ⟨q, by rw [List.getElem?_append_left (by omega)]; exact h1, ?_⟩
                rw [upd_ne (fun e => by rw [e, gD5] at h2; cases h2), upd_ne (ne_of_none (n8.gh _ _ h2) hp9)]
                exact h2
end
end Mk

-- V1
set_option Elab.async false
set_option linter.all false
set_option maxRecDepth 100000
set_option maxHeartbeats 4000000
set_option exponentiation.threshold 20000
namespace Mk
open PySem PySem.Spec PyProof.Rows L2
/-! ### sums of rationals over lists -/
def ls {α : Type} (f : α → Rat) : List α → Rat
  | [] => 0
  | a :: l => f a + ls f l
section
variable {α β : Type}
theorem ls_congr {f g : α → Rat} : ∀ {l : List α}, (∀ a ∈ l, f a = g a) → ls f l = ls g l
  | [], _ => rfl
  | a :: l, h => by rw [ls, ls, h a List.mem_cons_self, ls_congr fun b hb => h b (List.mem_cons_of_mem _ hb)]
theorem ls_le {f g : α → Rat} : ∀ {l : List α}, (∀ a ∈ l, f a ≤ g a) → ls f l ≤ ls g l
  | [], _ => Rat.le_refl
  | a :: l, h => by
    have h1 := h a List.mem_cons_self
    have h2 := ls_le (l := l) fun b hb => h b (List.mem_cons_of_mem _ hb)
    rw [ls, ls]
    grind
theorem ls_nn {f : α → Rat} : ∀ {l : List α}, (∀ a ∈ l, 0 ≤ f a) → 0 ≤ ls f l
  | [], _ => Rat.le_refl
  | a :: l, h => by
    have h1 := h a List.mem_cons_self
    have h2 := ls_nn (l := l) fun b hb => h b (List.mem_cons_of_mem _ hb)
    rw [ls]
    grind
theorem ls_add (f g : α → Rat) : ∀ l : List α, ls (fun a => f a + g a) l = ls f l + ls g l
  | [] => by rw [ls, ls, ls]; grind
  | a :: l => by rw [ls, ls, ls, ls_add f g l]; grind
theorem ls_mul (c : Rat) (f : α → Rat) : ∀ l : List α, ls (fun a => c * f a) l = c * ls f l
  | [] => by simp [ls]
  | a :: l => by rw [ls, ls, ls_mul c f l]; grind
theorem ls_zero : ∀ l : List α, ls (fun _ => 0) l = 0
  | [] => rfl
  | a :: l => by rw [ls, ls_zero l]; grind
theorem ls_swap (f : α → β → Rat) : ∀ (l : List α) (m : List β), ls (fun a => ls (fun b => f a b) m) l = ls (fun b => ls (fun a => f a b) l) m
  | [], m => by simp [ls, ls_zero]
  | a :: l, m => by
    rw [ls, ls_swap f l m, ← ls_add]
    rfl
theorem ls_append (f : α → Rat) : ∀ l m : List α, ls f (l ++ m) = ls f l + ls f m
  | [], m => by rw [List.nil_append, ls]; grind
  | a :: l, m => by rw [List.cons_append, ls, ls, ls_append f l m]; grind
theorem ls_map (f : β → Rat) (g : α → β) : ∀ l : List α, ls f (l.map g) = ls (fun a => f (g a)) l
  | [] => rfl
  | a :: l => by rw [List.map_cons, ls, ls, ls_map f g l]
theorem ls_mem {f : α → Rat} : ∀ {l : List α}, (∀ a ∈ l, 0 ≤ f a) → ∀ a ∈ l, f a ≤ ls f l
  | [], _, a, h => by cases h
  | b :: l, p, a, h => by
    have p1 := p b List.mem_cons_self
    have p2 := ls_nn (l := l) fun c hc => p c (List.mem_cons_of_mem _ hc)
    rw [ls]
    rcases List.mem_cons.mp h with rfl | h
    · grind
    · have := ls_mem (fun c hc => p c (List.mem_cons_of_mem _ hc)) a h
      grind
/-- an integer sum, as one over a list -/
theorem ls_sm {f : α → Rat} {g : Nat → Int} {c : Rat} : ∀ {l : List α}, (∀ (i : Nat) (a : α), l[i]? = some a → f a = (g i : Rat) * c) → ls f l = (sm l.length g : Rat) * c := by
  intro l
  induction l generalizing g with
  | nil =>
    intro _
    show (0 : Rat) = ((0 : Int) : Rat) * c
    simp
  | cons a l ih =>
    intro h
    rw [List.length_cons, sm_first, ls, h 0 a rfl, ih (g := fun k => g (k + 1)) fun i b hb => h (i + 1) b (by simpa using hb), Rat.intCast_add]
    grind
end
/-! ### the two programs over an instance -/
/-- a row of shares: at most the words' shares, at most lam of each reader's words -/
structure Pri (ws : List Wd) (rows : List Row) (lam : Rat) (x : Str → Rat) (V : Rat) : Prop where
  nn : ∀ e ∈ ws, 0 ≤ x e.1
  le : ∀ e ∈ ws, x e.1 * (total ws : Rat) ≤ (e.2 : Rat)
  rd : ∀ t, ls (fun e : Wd => if t ∈ ofR rows e.1 then x e.1 else 0) ws ≤ lam
  val : V = ls (fun e : Wd => x e.1) ws
/-- prices that reach each word -/
structure Dua (ws : List Wd) (rows : List Row) (rdb : List Str) (lam : Rat) (u v : Str → Rat) (V : Rat) : Prop where
  un : ∀ e ∈ ws, 0 ≤ u e.1
  vn : ∀ t, 0 ≤ v t
  re : ∀ e ∈ ws, 1 ≤ u e.1 + ls (fun t => if t ∈ ofR rows e.1 then v t else 0) rdb
  val : V * (total ws : Rat) = ls (fun e : Wd => (e.2 : Rat) * u e.1) ws + lam * (total ws : Rat) * ls v rdb
theorem weak {ws : List Wd} {rows : List Row} {rdb : List Str} {lam : Rat} {x u v : Str → Rat} {V V' : Rat} (p : Pri ws rows lam x V) (d : Dua ws rows rdb lam u v V') (hW : 0 < total ws) : V ≤ V' := by
  have hw : (0 : Rat) < (total ws : Rat) := int_pos_rat hW
  have h1 : ls (fun e : Wd => x e.1) ws ≤ ls (fun e : Wd => x e.1 * (u e.1 + ls (fun t => if t ∈ ofR rows e.1 then v t else 0) rdb)) ws := ls_le fun e he => by
    have a := p.nn e he
    have b := d.re e he
    have c := Rat.mul_le_mul_of_nonneg_left b a
    grind
  have h2 : ls (fun e : Wd => x e.1 * (u e.1 + ls (fun t => if t ∈ ofR rows e.1 then v t else 0) rdb)) ws = ls (fun e : Wd => x e.1 * u e.1) ws + ls (fun t => v t * ls (fun e : Wd => if t ∈ ofR rows e.1 then x e.1 else 0) ws) rdb := by
    have e1 : ∀ t, v t * ls (fun e : Wd => if t ∈ ofR rows e.1 then x e.1 else 0) ws = ls (fun e : Wd => x e.1 * (if t ∈ ofR rows e.1 then v t else 0)) ws := fun t => by
      rw [← ls_mul]
      refine ls_congr fun e _ => ?_
      by_cases h : t ∈ ofR rows e.1
      · rw [if_pos h, if_pos h]; grind
      · rw [if_neg h, if_neg h]; grind
    rw [ls_congr (l := rdb) (fun t _ => e1 t), ← ls_swap, ← ls_add]
    refine ls_congr fun e _ => ?_
    rw [ls_mul]
    grind
  have h3 : ls (fun t => v t * ls (fun e : Wd => if t ∈ ofR rows e.1 then x e.1 else 0) ws) rdb ≤ lam * ls v rdb := by
    rw [← ls_mul]
    refine ls_le fun t _ => ?_
    have := Rat.mul_le_mul_of_nonneg_left (p.rd t) (d.vn t)
    grind
  have h4 : ls (fun e : Wd => x e.1 * u e.1) ws * (total ws : Rat) ≤ ls (fun e : Wd => (e.2 : Rat) * u e.1) ws := by
    have : ls (fun e : Wd => x e.1 * u e.1) ws * (total ws : Rat) = ls (fun e : Wd => (total ws : Rat) * (x e.1 * u e.1)) ws := by rw [ls_mul]; grind
    rw [this]
    refine ls_le fun e he => ?_
    have := Rat.mul_le_mul_of_nonneg_right (p.le e he) (d.un e he)
    grind
  have h5 : V * (total ws : Rat) ≤ V' * (total ws : Rat) := by
    rw [d.val, p.val]
    have h6 : ls (fun e : Wd => x e.1) ws ≤ ls (fun e : Wd => x e.1 * u e.1) ws + lam * ls v rdb := by grind
    have h7 := Rat.mul_le_mul_of_nonneg_right h6 (Rat.le_of_lt hw)
    grind
  exact Rat.le_of_mul_le_mul_right h5 hw
end Mk

-- V2
set_option Elab.async false
set_option linter.all false
set_option maxRecDepth 100000
set_option maxHeartbeats 4000000
set_option exponentiation.threshold 20000
namespace Mk
open PySem PySem.Spec PyProof.Rows L2
theorem ls_erase {α : Type} [DecidableEq α] {f : α → Rat} {a : α} : ∀ {l : List α}, a ∈ l → ls f l = f a + ls f (l.erase a)
  | [], h => by cases h
  | b :: l, h => by
    by_cases e : b = a
    · subst e
      rw [List.erase_cons_head, ls]
    · have hm : a ∈ l := (List.mem_cons.mp h).resolve_left fun z => e z.symm
      rw [List.erase_cons_tail (by simpa using e), ls, ls, ls_erase hm]
      grind
theorem ls_sub {α : Type} [DecidableEq α] {f : α → Rat} : ∀ {r l : List α}, r.Nodup → l.Nodup → (∀ t ∈ r, t ∈ l) → (∀ t ∈ l, t ∉ r → f t = 0) → ls f l = ls f r
  | [], l, _, _, _, z => by rw [ls_congr (g := fun _ => 0) fun t ht => z t ht (by simp), ls_zero]; rfl
  | a :: r, l, nr, nl, s, z => by
    obtain ⟨n1, n2⟩ := List.nodup_cons.mp nr
    have ha := s a List.mem_cons_self
    rw [ls_erase ha, ls, ls_sub n2 (nl.erase a) (fun t ht => ?_) fun t ht hn => ?_]
    · have ne : t ≠ a := fun e => n1 (e ▸ ht)
      exact (List.mem_erase_of_ne ne).mpr (s t (List.mem_cons_of_mem _ ht))
    · have := (List.Nodup.mem_erase_iff nl).mp ht
      exact z t this.2 fun h => (List.mem_cons.mp h).elim this.1 hn
theorem idx_of {l : List Str} (nd : l.Nodup) {i : Nat} {t : Str} (h : l[i]? = some t) : l.idxOf t = i := by
  obtain ⟨hi, e⟩ := List.getElem?_eq_some_iff.mp h
  subst e
  exact nd.idxOf_getElem i hi
section
variable {ws : List Wd} {rows : List Row} {lam : Rat} {k : Pk}
theorem div_unit {a u : Int} (h : a ∣ u) (ha : 0 < a) : a * (u / a) = u := Int.mul_ediv_cancel' h
theorem dvdW (ws : List Wd) (lam : Rat) : total ws ∣ unitOf ws lam := Int.dvd_lcm_left ..
theorem dvdL (ws : List Wd) (lam : Rat) : (lam.den : Int) ∣ unitOf ws lam := Int.dvd_lcm_right ..
theorem num_le_den {q : Rat} (h : q ≤ 1) : q.num ≤ q.den := by simpa using (Rat.le_iff q 1).mp h
theorem cap_le (lam : Rat) : cap lam ≤ 1 := by
  unfold cap
  split
  · rename_i h
    exact Rat.le_of_lt h
  · exact Rat.le_refl
theorem ediv_pos_of {a u : Int} (h : a ∣ u) (ha : 0 < a) (hu : 0 < u) : 0 < u / a := by
  have e := div_unit h ha
  rcases Int.lt_or_le 0 (u / a) with z | z
  · exact z
  · have := Int.mul_nonneg (Int.le_of_lt ha) (show 0 ≤ -(u / a) by omega)
    rw [Int.mul_neg] at this
    omega
/-- the table of a packing is one that the solver can solve -/
theorem pk_prob (I : Inst ws rows) (bl : Bq 140 (cap lam)) (pl : 0 < cap lam) (h : PkOk ws rows (cap lam) k) : (probOf k).Ok (2 ^ 280) ∧ (probOf k).m ≤ 24 ∧ (probOf k).N ≤ 32 ∧ k.texts.length = ws.length ∧ k.groups.length ≤ 16 ∧ k.bounds.length = k.texts.length := by
  have W := I.W
  have tp := sum_pos W.pos W.ne
  have up := unit_pos (lam := cap lam) W
  have ul := unit_lt W bl
  have hn : k.texts.length = ws.length := by rw [h.texts, List.length_map]
  have hb : k.bounds.length = k.texts.length := by rw [h.bounds, List.length_map, hn]
  have hg : k.groups.length ≤ 16 := by
    rw [h.len]
    exact I.few _ h.nd fun t ht => by
      obtain ⟨i, hi⟩ := h.mem t ht
      obtain ⟨e, h1, h2⟩ := mem_reads.mp hi
      obtain ⟨r', hr', er'⟩ := List.mem_map.mp (I.has e (List.mem_of_getElem? h1))
      rw [← er', ofR_eq I.R.nd hr'] at h2
      exact ⟨r', hr', h2⟩
  have ls : (sidesL k).length = k.texts.length + k.groups.length := by simp [sidesL]
  have le : (endsL k).length = (sidesL k).length := by simp [endsL, sidesL, hb]
  have n8 := I.n8
  have en : ∀ x ∈ endsL k, 0 ≤ x ∧ x.natAbs ≤ 2 ^ 280 := fun x hx => by
    rcases List.mem_append.mp hx with hx | hx
    · rw [h.bounds] at hx
      obtain ⟨e, he, rfl⟩ := List.mem_map.mp hx
      have p1 := W.pos e he
      have p2 := mem_le W.pos e he
      have q := ediv_pos_of (dvdW ws (cap lam)) tp up
      have m1 : 0 ≤ e.2 * (unitOf ws (cap lam) / total ws) := Int.mul_nonneg (by omega) (Int.le_of_lt q)
      have m2 : e.2 * (unitOf ws (cap lam) / total ws) ≤ unitOf ws (cap lam) := by
        have := Int.mul_le_mul_of_nonneg_right p2 (Int.le_of_lt q)
        rw [div_unit (dvdW ws (cap lam)) tp] at this
        exact this
      exact ⟨m1, by omega⟩
    · obtain ⟨g, _, rfl⟩ := List.mem_map.mp hx
      rw [h.level]
      have q := ediv_pos_of (dvdL ws (cap lam)) (den_pos _) up
      have np := num_pos' pl
      have nl := num_le_den (cap_le lam)
      have m1 : 0 ≤ (cap lam).num * (unitOf ws (cap lam) / ((cap lam).den : Int)) := Int.mul_nonneg (by omega) (Int.le_of_lt q)
      have m2 : (cap lam).num * (unitOf ws (cap lam) / ((cap lam).den : Int)) ≤ unitOf ws (cap lam) := by
        have := Int.mul_le_mul_of_nonneg_right nl (Int.le_of_lt q)
        rw [div_unit (dvdL ws (cap lam)) (den_pos _)] at this
        exact this
      exact ⟨m1, by omega⟩
  have sd : ∀ j, j < k.texts.length → (sidesL k)[j]? = some [(j : Int)] := fun j hj => by
    unfold sidesL
    rw [List.getElem?_append_left (by simpa using hj)]
    simp [hj]
  have ee : ∀ i, i < (sidesL k).length → (((endsL k)[i]?).getD 0) ∈ endsL k := fun i hi => by
    rw [List.getElem?_eq_getElem (by omega)]
    exact List.getElem_mem _
  refine ⟨⟨fun i j hi hj => ?_, fun j hj => ?_, fun i j hi hj => ?_, fun j hj => ?_, fun j hj => ?_, ?_, fun i j hi hj => ?_, fun i hi => ?_, by decide⟩, ?_, ?_, hn, hg, hb⟩
  · show pkT k i (k.texts.length + j) = _
    have hi : i < (sidesL k).length := hi
    have hj : j < (sidesL k).length := hj
    unfold pkT
    rw [if_pos hi, if_neg (show ¬ k.texts.length + j < k.texts.length by omega), if_pos (show k.texts.length + j < k.texts.length + (sidesL k).length by omega), show k.texts.length + j - k.texts.length = j by omega]
    by_cases e : i = j
    · rw [if_pos e, if_pos e.symm]
    · rw [if_neg e, if_neg fun z => e z.symm]
  · show pkT k (sidesL k).length (k.texts.length + j) = 0
    unfold pkT
    rw [if_neg (Nat.lt_irrefl _), if_neg (by omega)]
  · show 0 ≤ pkT k i j
    have hi : i < (sidesL k).length := hi
    unfold pkT
    rw [if_pos hi]
    split
    · split <;> decide
    · split
      · split <;> decide
      · exact (en _ (ee i hi)).1
  · have hj : j < k.texts.length := hj
    refine ⟨j, show j < (sidesL k).length by omega, ?_⟩
    show 0 < pkT k j j
    unfold pkT
    rw [if_pos (by omega), if_pos hj, sd j hj, if_pos (by simp)]
    decide
  · have hj : j < k.texts.length := hj
    show pkT k (sidesL k).length j = -1
    unfold pkT
    rw [if_neg (Nat.lt_irrefl _), if_pos hj]
  · show pkT k (sidesL k).length (k.texts.length + (sidesL k).length) = 0
    unfold pkT
    rw [if_neg (Nat.lt_irrefl _), if_neg (by omega)]
  · have hj : j < k.texts.length + (sidesL k).length := hj
    show (pkT k i j).natAbs ≤ 1
    unfold pkT
    split
    · split
      · split <;> decide
      · split <;> decide
    · split <;> decide
  · show (pkT k i (k.texts.length + (sidesL k).length)).natAbs ≤ 2 ^ 280
    unfold pkT
    split
    · rename_i hi
      rw [if_neg (by omega), if_neg (by omega)]
      exact (en _ (ee i hi)).2
    · rw [if_neg (by omega)]
      decide
  · show (sidesL k).length ≤ 24
    omega
  · show k.texts.length + (sidesL k).length ≤ 32
    omega
end
end Mk

-- V3
set_option Elab.async false
set_option linter.all false
set_option maxRecDepth 100000
set_option maxHeartbeats 4000000
set_option exponentiation.threshold 20000
namespace Mk
open PySem PySem.Spec PyProof.Rows L2
/-- what the columns have, as a function -/
def toldF (p : Prob) (s : Tab) (j : Nat) : Int := sm p.m fun k => if s.b k = j then s.T k p.N else 0
theorem toldF_ok {p : Prob} {s : Tab} (o : s.Ok p) : s.Told p (toldF p s) := by
  refine ⟨fun i hi => ?_, fun j hj => ?_⟩
  · unfold toldF
    rw [sm_one (i := i) hi fun k hk hne => if_neg fun q => hne (o.inj hk hi q), if_pos rfl]
  · exact sm_zero_of fun k hk => if_neg (hj k hk)
/-- the common lower number -/
def lowOf (ws : List Wd) (lam : Rat) (s : Tab) : Int := s.d * unitOf ws lam
def xOf (ws : List Wd) (lam : Rat) (k : Pk) (s : Tab) (t : Str) : Rat := (toldF (probOf k) s (k.texts.idxOf t) : Rat) / (lowOf ws lam s : Rat)
def uOf (k : Pk) (s : Tab) (t : Str) : Rat := (s.T (probOf k).m ((probOf k).n + k.texts.idxOf t) : Rat) / (s.d : Rat)
def vOf (k : Pk) (s : Tab) (t : Str) : Rat := if t ∈ k.readers then (s.T (probOf k).m ((probOf k).n + ((probOf k).n + k.readers.idxOf t)) : Rat) / (s.d : Rat) else 0
def worthOf (ws : List Wd) (lam : Rat) (k : Pk) (s : Tab) : Rat := (s.T (probOf k).m (probOf k).N : Rat) / (lowOf ws lam s : Rat)
section
variable {ws : List Wd} {rows : List Row} {lam : Rat} {k : Pk} {s : Tab}
theorem int_ne_rat {a : Int} (h : a ≠ 0) : (a : Rat) ≠ 0 := fun z => h ((Rat.intCast_inj (a := a) (b := 0)).mp z)
theorem int_le_rat {a b : Int} (h : a ≤ b) : (a : Rat) ≤ (b : Rat) := Rat.intCast_le_intCast.mpr h
theorem div_le_of {a b c : Rat} (hc : 0 < c) (h : a ≤ b * c) : a / c ≤ b := by
  have hc' : c ≠ 0 := fun z => by rw [z] at hc; exact absurd hc (by decide)
  have e : a = (a / c) * c := by grind
  rw [e] at h
  exact Rat.le_of_mul_le_mul_right h hc
theorem le_div_of {a b c : Rat} (hc : 0 < c) (h : a * c ≤ b) : a ≤ b / c := by
  have hc' : c ≠ 0 := fun z => by rw [z] at hc; exact absurd hc (by decide)
  have e : b = (b / c) * c := by grind
  rw [e] at h
  exact Rat.le_of_mul_le_mul_right h hc
theorem div_nn {a b : Rat} (ha : 0 ≤ a) (hb : 0 < b) : 0 ≤ a / b := le_div_of hb (by grind)
/-- the run's numbers -/
structure Run (ws : List Wd) (rows : List Row) (lam : Rat) (k : Pk) (s : Tab) : Prop where
  I : Inst ws rows
  bl : Bq 140 (cap lam)
  pl : 0 < cap lam
  pk : PkOk ws rows (cap lam) k
  o : s.Ok (probOf k)
  z : s.Opt (probOf k)
theorem Run.low (r : Run ws rows lam k s) : 0 < lowOf ws (cap lam) s := Int.mul_pos r.o.hd (unit_pos r.I.W)
theorem Run.idx (r : Run ws rows lam k s) {i : Nat} {e : Wd} (h : ws[i]? = some e) : k.texts.idxOf e.1 = i := by
  have nd : k.texts.Nodup := by rw [r.pk.texts]; exact r.I.W.srt.nd
  refine idx_of nd ?_
  rw [r.pk.texts, List.getElem?_map, h]
  rfl
theorem t_side (r : Run ws rows lam k s) {i j : Nat} (hi : i < k.texts.length) (hj : j < k.texts.length) : pkT k i j = if j = i then 1 else 0 := by
  unfold pkT
  have ls : (sidesL k).length = k.texts.length + k.groups.length := by simp [sidesL]
  rw [if_pos (by omega), if_pos hj]
  have : ((sidesL k)[i]?).getD [] = [(i : Int)] := by
    unfold sidesL
    rw [List.getElem?_append_left (by simpa using hi)]
    simp [hi]
  rw [this]
  by_cases e : j = i
  · rw [if_pos e, if_pos (by rw [e]; simp)]
  · rw [if_neg e, if_neg (by simp; omega)]
theorem t_group (r : Run ws rows lam k s) {c j : Nat} {t : Str} {e : Wd} (hc : k.readers[c]? = some t) (hj : ws[j]? = some e) : pkT k (k.texts.length + c) j = if t ∈ ofR rows e.1 then 1 else 0 := by
  have hcl := (List.getElem?_eq_some_iff.mp hc).1
  have hjl := (List.getElem?_eq_some_iff.mp hj).1
  have ls : (sidesL k).length = k.texts.length + k.groups.length := by simp [sidesL]
  have hn : k.texts.length = ws.length := by rw [r.pk.texts, List.length_map]
  have hg : c < k.groups.length := by rw [r.pk.len]; exact hcl
  have e1 : ((sidesL k)[k.texts.length + c]?).getD [] = grp (reads rows ws) t := by
    unfold sidesL
    rw [List.getElem?_append_right (by simp), List.length_map, List.length_range, Nat.add_sub_cancel_left, List.getElem?_eq_getElem hg]
    exact r.pk.grp c _ t (List.getElem?_eq_getElem hg) hc
  unfold pkT
  rw [if_pos (by omega), if_pos (by omega), e1]
  by_cases h : t ∈ ofR rows e.1
  · rw [if_pos h, if_pos (mem_grp.mpr (mem_reads.mpr ⟨e, hj, h⟩))]
  · rw [if_neg h, if_neg fun z => h ?_]
    obtain ⟨e', h1, h2⟩ := mem_reads.mp (mem_grp.mp z)
    rw [hj] at h1
    injection h1 with h1
    rw [h1]
    exact h2
theorem t_end (r : Run ws rows lam k s) {i : Nat} {e : Wd} (hi : ws[i]? = some e) : pkT k i (probOf k).N = e.2 * (unitOf ws (cap lam) / total ws) := by
  have hil := (List.getElem?_eq_some_iff.mp hi).1
  have ls : (sidesL k).length = k.texts.length + k.groups.length := by simp [sidesL]
  have hn : k.texts.length = ws.length := by rw [r.pk.texts, List.length_map]
  show pkT k i (k.texts.length + (sidesL k).length) = _
  unfold pkT
  rw [if_pos (by omega), if_neg (by omega), if_neg (by omega)]
  unfold endsL
  rw [r.pk.bounds, List.getElem?_append_left (by simpa using hil), List.getElem?_map, hi]
  rfl
theorem t_end' (r : Run ws rows lam k s) {c : Nat} (hc : c < k.groups.length) : pkT k (k.texts.length + c) (probOf k).N = (cap lam).num * (unitOf ws (cap lam) / ((cap lam).den : Int)) := by
  have ls : (sidesL k).length = k.texts.length + k.groups.length := by simp [sidesL]
  have hb : k.bounds.length = k.texts.length := by rw [r.pk.bounds, r.pk.texts, List.length_map, List.length_map]
  show pkT k (k.texts.length + c) (k.texts.length + (sidesL k).length) = _
  unfold pkT
  rw [if_pos (by omega), if_neg (by omega), if_neg (by omega)]
  unfold endsL
  rw [List.getElem?_append_right (by omega), hb, Nat.add_sub_cancel_left, List.getElem?_map, List.getElem?_eq_getElem hc, r.pk.level]
  rfl
theorem sm_side {n j : Nat} (hj : j < n) (f : Nat → Int) : sm n (fun i => f i * if i = j then 1 else 0) = f j := by
  rw [sm_one (i := j) hj fun i _ ne => by rw [if_neg ne]; simp, if_pos rfl]
  simp
theorem run_pri (r : Run ws rows lam k s) : Pri ws rows (cap lam) (xOf ws (cap lam) k s) (worthOf ws (cap lam) k s) := by
  obtain ⟨pok, hm, hN, hn, hg, hb⟩ := pk_prob r.I r.bl r.pl r.pk
  have o := r.o
  have X := toldF_ok o
  have lp := r.low
  have lr : (0 : Rat) < (lowOf ws (cap lam) s : Rat) := int_pos_rat lp
  have lne : (lowOf ws (cap lam) s : Rat) ≠ 0 := int_ne_rat (by omega)
  have tp := sum_pos r.I.W.pos r.I.W.ne
  have tr : (0 : Rat) < (total ws : Rat) := int_pos_rat tp
  have ls' : (sidesL k).length = k.texts.length + k.groups.length := by simp [sidesL]
  have up := unit_pos (lam := cap lam) r.I.W
  have pn : (probOf k).n = ws.length := hn
  refine ⟨fun e he => div_nn (int_le_rat (told_nn o X _)) lr, fun e he => ?_, fun t => ?_, ?_⟩
  · obtain ⟨i, hi⟩ := List.getElem?_of_mem he
    have hil := (List.getElem?_eq_some_iff.mp hi).1
    have h1 := told_row pok o X (i := i) (show i < (sidesL k).length by omega)
    have h2 : sm (probOf k).n (fun j => toldF (probOf k) s j * (probOf k).t i j) = toldF (probOf k) s i := by
      rw [← sm_side (n := (probOf k).n) (j := i) (by omega) (toldF (probOf k) s)]
      refine sm_congr fun j hj => ?_
      show _ * pkT k i j = _
      rw [t_side r (by omega) (by omega)]
    rw [h2] at h1
    have h3 : (probOf k).t i (probOf k).N = e.2 * (unitOf ws (cap lam) / total ws) := t_end r hi
    rw [h3] at h1
    have h4 : toldF (probOf k) s i * total ws ≤ e.2 * lowOf ws (cap lam) s := by
      have := Int.mul_le_mul_of_nonneg_right h1 (Int.le_of_lt tp)
      have e4 := div_unit (dvdW ws (cap lam)) tp
      have e5 : s.d * (e.2 * (unitOf ws (cap lam) / total ws)) * total ws = e.2 * lowOf ws (cap lam) s := by
        unfold lowOf
        rw [show s.d * (e.2 * (unitOf ws (cap lam) / total ws)) * total ws = e.2 * (s.d * (total ws * (unitOf ws (cap lam) / total ws))) by grind, e4]
      rw [e5] at this
      exact this
    have h5 := int_le_rat h4
    rw [Rat.intCast_mul, Rat.intCast_mul] at h5
    show (toldF (probOf k) s (k.texts.idxOf e.1) : Rat) / (lowOf ws (cap lam) s : Rat) * (total ws : Rat) ≤ (e.2 : Rat)
    rw [r.idx hi]
    have : (toldF (probOf k) s i : Rat) / (lowOf ws (cap lam) s : Rat) * (total ws : Rat) = ((toldF (probOf k) s i : Rat) * (total ws : Rat)) / (lowOf ws (cap lam) s : Rat) := by grind
    rw [this]
    exact div_le_of lr h5
  · by_cases hx : ∃ i, (i, t) ∈ reads rows ws
    · obtain ⟨i0, hi0⟩ := hx
      obtain ⟨c, hc⟩ := r.pk.all i0 t hi0
      have hcl := (List.getElem?_eq_some_iff.mp hc).1
      have hrc : c < k.readers.length := by rw [← r.pk.len]; exact hcl
      have hgt := r.pk.grp c _ _ hc (List.getElem?_eq_getElem hrc)
      have tm : ∀ (j : Nat) (e : Wd), ws[j]? = some e → pkT k (k.texts.length + c) j = if t ∈ ofR rows e.1 then 1 else 0 := fun j e hj => by
        rw [t_group r (List.getElem?_eq_getElem hrc) hj]
        have a : t ∈ ofR rows e.1 ↔ k.readers[c] ∈ ofR rows e.1 := by
          have b1 := mem_grp (L := reads rows ws) (t := t) (i := j)
          have b2 := mem_grp (L := reads rows ws) (t := k.readers[c]) (i := j)
          rw [← hgt] at b2
          have c1 : (j, t) ∈ reads rows ws ↔ t ∈ ofR rows e.1 := by
            rw [mem_reads]
            exact ⟨fun ⟨e', h1, h2⟩ => by rw [hj] at h1; injection h1 with h1; rw [h1]; exact h2, fun h => ⟨e, hj, h⟩⟩
          have c2 : (j, k.readers[c]) ∈ reads rows ws ↔ k.readers[c] ∈ ofR rows e.1 := by
            rw [mem_reads]
            exact ⟨fun ⟨e', h1, h2⟩ => by rw [hj] at h1; injection h1 with h1; rw [h1]; exact h2, fun h => ⟨e, hj, h⟩⟩
          rw [← c1, ← c2, ← b1, ← b2]
        by_cases h : t ∈ ofR rows e.1
        · rw [if_pos h, if_pos (a.mp h)]
        · rw [if_neg h, if_neg fun z => h (a.mpr z)]
      have h1 := told_row pok o X (i := k.texts.length + c) (show k.texts.length + c < (sidesL k).length by omega)
      have e1 : ls (fun e : Wd => if t ∈ ofR rows e.1 then xOf ws (cap lam) k s e.1 else 0) ws = (sm ws.length (fun j => toldF (probOf k) s j * pkT k (k.texts.length + c) j) : Rat) * (1 / (lowOf ws (cap lam) s : Rat)) := ls_sm fun i e hi => by
        rw [tm i e hi]
        by_cases h : t ∈ ofR rows e.1
        · rw [if_pos h, if_pos h]
          unfold xOf
          rw [r.idx hi, Int.mul_one]
          grind
        · rw [if_neg h, if_neg h, Int.mul_zero]
          show (0 : Rat) = ((0 : Int) : Rat) * _
          rw [Rat.intCast_zero]
          grind
      rw [e1]
      have h2 : sm ws.length (fun j => toldF (probOf k) s j * pkT k (k.texts.length + c) j) ≤ s.d * ((cap lam).num * (unitOf ws (cap lam) / ((cap lam).den : Int))) := by
        have h3 : (probOf k).t (k.texts.length + c) (probOf k).N = (cap lam).num * (unitOf ws (cap lam) / ((cap lam).den : Int)) := t_end' r hcl
        rw [h3, pn] at h1
        exact h1
      have h4 : sm ws.length (fun j => toldF (probOf k) s j * pkT k (k.texts.length + c) j) * (cap lam).den ≤ (cap lam).num * lowOf ws (cap lam) s := by
        have := Int.mul_le_mul_of_nonneg_right h2 (Int.le_of_lt (den_pos (cap lam)))
        have e4 := div_unit (dvdL ws (cap lam)) (den_pos _)
        have e5 : s.d * ((cap lam).num * (unitOf ws (cap lam) / ((cap lam).den : Int))) * ((cap lam).den : Int) = (cap lam).num * lowOf ws (cap lam) s := by
          unfold lowOf
          rw [show s.d * ((cap lam).num * (unitOf ws (cap lam) / ((cap lam).den : Int))) * ((cap lam).den : Int) = (cap lam).num * (s.d * (((cap lam).den : Int) * (unitOf ws (cap lam) / ((cap lam).den : Int)))) by grind, e4]
        rw [e5] at this
        exact this
      have h5 := int_le_rat h4
      rw [Rat.intCast_mul, Rat.intCast_mul, num_eq (cap lam)] at h5
      have dp : (0 : Rat) < (((cap lam).den : Int) : Rat) := int_pos_rat (den_pos _)
      have h6 : (sm ws.length (fun j => toldF (probOf k) s j * pkT k (k.texts.length + c) j) : Rat) ≤ cap lam * (lowOf ws (cap lam) s : Rat) := by
        refine Rat.le_of_mul_le_mul_right ?_ dp
        grind
      have := div_le_of lr h6
      grind
    · have : ls (fun e : Wd => if t ∈ ofR rows e.1 then xOf ws (cap lam) k s e.1 else 0) ws = 0 := by
        rw [ls_congr (g := fun _ => 0) fun e he => ?_, ls_zero]
        obtain ⟨i, hi⟩ := List.getElem?_of_mem he
        rw [if_neg fun z => hx ⟨i, mem_reads.mpr ⟨e, hi, z⟩⟩]
      rw [this]
      exact Rat.le_of_lt r.pl
  · unfold worthOf
    rw [← told_ob pok o X, pn]
    have e1 : ls (fun e : Wd => xOf ws (cap lam) k s e.1) ws = (sm ws.length (toldF (probOf k) s) : Rat) * (1 / (lowOf ws (cap lam) s : Rat)) := ls_sm fun i e hi => by
      unfold xOf
      rw [r.idx hi]
      grind
    rw [e1]
    grind
end
end Mk

-- V4
set_option Elab.async false
set_option linter.all false
set_option maxRecDepth 100000
set_option maxHeartbeats 4000000
set_option exponentiation.threshold 20000
namespace Mk
open PySem PySem.Spec PyProof.Rows L2
theorem alg1 {e a d q w u : Rat} (h : w * q = u) (hd : d ≠ 0) (hu : u ≠ 0) : e * (a / d) = a * (e * q) * (w * (1 / (d * u))) := by
  subst h
  have hw : w ≠ 0 := fun z => hu (by rw [z]; grind)
  have hq : q ≠ 0 := fun z => hu (by rw [z]; grind)
  have e1 : 1 / (d * (w * q)) = (1 / d) * ((1 / w) * (1 / q)) := by grind
  rw [e1]
  grind
theorem alg2 {A B u d W l : Rat} (hd : d ≠ 0) (hu : u ≠ 0) : (A + B * (l * u)) / (d * u) * W = A * (W * (1 / (d * u))) + l * W * (B * (1 / d)) := by
  have e1 : 1 / (d * u) = (1 / d) * (1 / u) := by grind
  have e2 : (A + B * (l * u)) / (d * u) = (A + B * (l * u)) * (1 / (d * u)) := by grind
  rw [e2, e1]
  grind
section
variable {ws : List Wd} {rows : List Row} {lam : Rat} {k : Pk} {s : Tab}
theorem reader_rdb (r : Run ws rows lam k s) : ∀ t ∈ k.readers, t ∈ k.readable := fun t ht => by
  obtain ⟨i, hi⟩ := r.pk.mem t ht
  obtain ⟨e, h1, h2⟩ := mem_reads.mp hi
  obtain ⟨r', hr', er'⟩ := List.mem_map.mp (r.I.has e (List.mem_of_getElem? h1))
  rw [← er', ofR_eq r.I.R.nd hr'] at h2
  exact (r.pk.rdbm t).mpr ⟨r', hr', h2⟩
theorem run_dua (r : Run ws rows lam k s) : Dua ws rows k.readable (cap lam) (uOf k s) (vOf k s) (worthOf ws (cap lam) k s) := by
  obtain ⟨pok, hm, hN, hn, hg, hb⟩ := pk_prob r.I r.bl r.pl r.pk
  have o := r.o
  have lp := r.low
  have dp := o.hd
  have dr : (0 : Rat) < (s.d : Rat) := int_pos_rat dp
  have dne : (s.d : Rat) ≠ 0 := int_ne_rat (by omega)
  have lne : (lowOf ws (cap lam) s : Rat) ≠ 0 := int_ne_rat (by omega)
  have tp := sum_pos r.I.W.pos r.I.W.ne
  have up := unit_pos (lam := cap lam) r.I.W
  have une : (unitOf ws (cap lam) : Rat) ≠ 0 := int_ne_rat (by omega)
  have ls' : (sidesL k).length = k.texts.length + k.groups.length := by simp [sidesL]
  have pn : (probOf k).n = ws.length := hn
  have pm : (probOf k).m = ws.length + k.readers.length := by rw [← r.pk.len, ← hn]; exact ls'
  have idr : ∀ (c : Nat) (t : Str), k.readers[c]? = some t → k.readers.idxOf t = c := fun c t h => idx_of r.pk.nd h
  have nd : k.readable.Nodup := r.pk.rdb.nd
  have sub := reader_rdb r
  have yn : ∀ i, i < (probOf k).m → (0 : Rat) ≤ (s.T (probOf k).m ((probOf k).n + i) : Rat) / (s.d : Rat) := fun i hi => div_nn (int_le_rat (price_nn r.z hi)) dr
  have vr : ∀ (c : Nat) (t : Str), k.readers[c]? = some t → vOf k s t = (s.T (probOf k).m ((probOf k).n + ((probOf k).n + c)) : Rat) * (1 / (s.d : Rat)) := fun c t h => by
    unfold vOf
    rw [if_pos (List.mem_of_getElem? h), idr c t h]
    grind
  refine ⟨fun e he => ?_, fun t => ?_, fun e he => ?_, ?_⟩
  · obtain ⟨i, hi⟩ := List.getElem?_of_mem he
    have hil := (List.getElem?_eq_some_iff.mp hi).1
    unfold uOf
    rw [r.idx hi]
    exact yn i (by omega)
  · unfold vOf
    split
    · rename_i h
      have := List.idxOf_lt_length_of_mem h
      exact yn ((probOf k).n + k.readers.idxOf t) (by omega)
    · exact Rat.le_refl
  · obtain ⟨j, hj⟩ := List.getElem?_of_mem he
    have hjl := (List.getElem?_eq_some_iff.mp hj).1
    have h1 := price_row pok o r.z (j := j) (by omega)
    rw [pm, sm_append] at h1
    have h2 : sm ws.length (fun i => s.T (ws.length + k.readers.length) ((probOf k).n + i) * (probOf k).t i j) = s.T (probOf k).m ((probOf k).n + j) := by
      rw [pm, ← sm_side (n := ws.length) (j := j) hjl (fun i => s.T (ws.length + k.readers.length) ((probOf k).n + i))]
      refine sm_congr fun i hi => ?_
      show _ * pkT k i j = _
      rw [t_side r (by omega) (by omega)]
      by_cases e : i = j
      · rw [if_pos e, if_pos e.symm]
      · rw [if_neg e, if_neg fun z => e z.symm]
    have h3 : ls (fun t => if t ∈ ofR rows e.1 then vOf k s t else 0) k.readable = (sm k.readers.length (fun c => s.T (ws.length + k.readers.length) ((probOf k).n + (ws.length + c)) * (probOf k).t (ws.length + c) j) : Rat) * (1 / (s.d : Rat)) := by
      rw [ls_sub (r := k.readers) r.pk.nd nd sub fun t _ hn => by
        have : vOf k s t = 0 := if_neg hn
        split
        · exact this
        · rfl]
      refine ls_sm fun c t hc => ?_
      have e1 : (probOf k).t (ws.length + c) j = if t ∈ ofR rows e.1 then 1 else 0 := by
        rw [← hn]
        exact t_group r hc hj
      rw [e1]
      by_cases h : t ∈ ofR rows e.1
      · rw [if_pos h, if_pos h, vr c t hc, Int.mul_one, pm, pn]
      · rw [if_neg h, if_neg h, Int.mul_zero]
        show (0 : Rat) = ((0 : Int) : Rat) * _
        rw [Rat.intCast_zero]
        grind
    rw [h3]
    have h4 : uOf k s e.1 = (s.T (probOf k).m ((probOf k).n + j) : Rat) * (1 / (s.d : Rat)) := by
      unfold uOf
      rw [r.idx hj]
      grind
    rw [h4, ← h2]
    have h5 := int_le_rat h1
    rw [Rat.intCast_add] at h5
    have h6 := le_div_of (a := 1) dr (show (1 : Rat) * (s.d : Rat) ≤ _ by rw [Rat.one_mul]; exact h5)
    have : ∀ a b c : Rat, (a + b) / c = a * (1 / c) + b * (1 / c) := fun a b c => by grind
    rw [this] at h6
    exact h6
  · have h1 := price_ob pok o
    rw [pm, sm_append] at h1
    have h2 : ls (fun e : Wd => (e.2 : Rat) * uOf k s e.1) ws = (sm ws.length (fun i => s.T (ws.length + k.readers.length) ((probOf k).n + i) * (probOf k).t i (probOf k).N) : Rat) * ((total ws : Rat) * (1 / (lowOf ws (cap lam) s : Rat))) := ls_sm fun i e hi => by
      have e1 : (probOf k).t i (probOf k).N = e.2 * (unitOf ws (cap lam) / total ws) := t_end r hi
      rw [e1]
      unfold uOf
      rw [r.idx hi, pm]
      have e4 := div_unit (dvdW ws (cap lam)) tp
      have e5 : ((total ws : Int) : Rat) * ((unitOf ws (cap lam) / total ws : Int) : Rat) = (unitOf ws (cap lam) : Rat) := by rw [← Rat.intCast_mul, e4]
      unfold lowOf
      rw [Rat.intCast_mul, Rat.intCast_mul, Rat.intCast_mul]
      exact alg1 e5 dne une
    have h3 : ls (vOf k s) k.readable = (sm k.readers.length (fun c => s.T (ws.length + k.readers.length) ((probOf k).n + (ws.length + c))) : Rat) * (1 / (s.d : Rat)) := by
      rw [ls_sub (f := vOf k s) (r := k.readers) r.pk.nd nd sub fun t _ hn => if_neg hn]
      exact ls_sm fun c t hc => by rw [vr c t hc, pm, pn]
    have h4 : sm k.readers.length (fun c => s.T (ws.length + k.readers.length) ((probOf k).n + (ws.length + c)) * (probOf k).t (ws.length + c) (probOf k).N) = sm k.readers.length (fun c => s.T (ws.length + k.readers.length) ((probOf k).n + (ws.length + c))) * ((cap lam).num * (unitOf ws (cap lam) / ((cap lam).den : Int))) := by
      rw [← sm_mulr]
      refine sm_congr fun c hc => ?_
      have : (probOf k).t (ws.length + c) (probOf k).N = (cap lam).num * (unitOf ws (cap lam) / ((cap lam).den : Int)) := by
        rw [← hn]
        exact t_end' r (by rw [r.pk.len]; exact hc)
      rw [this]
    rw [h2, h3]
    rw [h4] at h1
    unfold worthOf
    have e0 : s.T (probOf k).m (probOf k).N = s.T (ws.length + k.readers.length) (probOf k).N := by rw [pm]
    rw [e0, h1, Rat.intCast_add, Rat.intCast_mul]
    have e4 := div_unit (dvdL ws (cap lam)) (den_pos (cap lam))
    have e5 : (((cap lam).den : Int) : Rat) * ((unitOf ws (cap lam) / ((cap lam).den : Int) : Int) : Rat) = (unitOf ws (cap lam) : Rat) := by rw [← Rat.intCast_mul, e4]
    have e6 : (((cap lam).num * (unitOf ws (cap lam) / ((cap lam).den : Int)) : Int) : Rat) = cap lam * (unitOf ws (cap lam) : Rat) := by
      rw [Rat.intCast_mul, num_eq (cap lam), ← e5]
      grind
    rw [e6]
    unfold lowOf
    rw [Rat.intCast_mul]
    exact alg2 dne une
end
end Mk

-- E1
set_option Elab.async false
set_option linter.all false
set_option maxRecDepth 100000
set_option maxHeartbeats 4000000
set_option exponentiation.threshold 20000
namespace Mk
open PySem PySem.Spec PyProof.Rows L2
open C8 (InsC call_isC)
section
variable {P : Program} {w : World} {K : PySem.W.Frag} {mg : Str → Option Value} {base : Heap}
theorem Paired.mono' {α β : Type} {F F' : α → β → Prop} : ∀ {xs : List α} {ys : List β}, Paired F xs ys → (∀ a b, F a b → F' a b) → Paired F' xs ys
  | _, _, .nil, _ => .nil
  | _, _, .cons a t, h => .cons (h _ _ a) (Paired.mono' t h)
/-! ### worth, best_row, prices -/
structure PreI (K : PySem.W.Frag) (G H : Hp) (sv cv lv : V) (ws : List Wd) (rows : List Row) (lam : Rat) : Prop where
  sm : Same G H
  s : rSrc K G sv ws
  c : rCh K G cv rows
  l : rSh K G lv lam
  I : Inst ws rows
  b : Bq 140 lam
  p : 0 < lam
theorem PreI.run {G H : Hp} {sv cv lv : V} {ws : List Wd} {rows : List Row} {lam : Rat} {k : Pk} {s : Tab} (p : PreI K G H sv cv lv ws rows lam) (h : PkOk ws rows (cap lam) k) (o : s.Ok (probOf k)) (z : s.Opt (probOf k)) : Run ws rows lam k s := ⟨p.I, cap_bq p.b, cap_pos p.p, h, o, z⟩
def spSolved (K : PySem.W.Frag) : Sp := fun vs H Q _ => ∃ G sv cv lv ws rows lam, vs = [sv, cv, lv] ∧ PreI K G H sv cv lv ws rows lam ∧ ∀ k s v G' H', Run ws rows lam k s → Nw nM G H G' H' → (∃ p va vb, v = .ref p ∧ G' p = some (.tup [va, vb]) ∧ rPk K G' va k ∧ rSol K (probOf k) G' vb s) → Q v H'
theorem sc__solved : FnScope ["source", "changes", "level", "packing"] ["source", "changes", "level"] (defScope s__solved) := ⟨rfl, rfl, rfl, by decide +kernel, rfl, by decide +kernel, by decide +kernel⟩
theorem ok__solved (T : Tx K mg) : Ok P w K mg base 7 (He.ga K "_solved") ["source", "changes", "level"] (spSolved K) := by
  refine ok_mk (f__solved T) (df_kp (f__solved T)) sc__solved (fun _ _ _ _ _ _ us hl => match us, hl with | [_, _, _], _ => rfl) (fun vs H Q E h => ?_) (fun cdv A outer s0 H vs Q E hr h => ?_)
  · obtain ⟨G, sv, cv, lv, ws, rows, lam, rfl, _⟩ := h
    rfl
  · obtain ⟨G, sv, cv, lv, ws, rows, lam, rfl, p, k⟩ := h
    refine ⟨_, (pss_cons (ps_set (i := 3) sc__solved.nd rfl (Or.inl rfl) (pe_k (k_Packing T) (ok_Packing_init T) (hr.mono (by decide)) rfl (g_Packing T) (pa_cons (pv 0) (pa_cons (pv 1) (pa_cons (pv 2) pa_nil)))))
      (pss_one (ps_ret (pe_tup (pa_cons (pv 3) (pa_cons (pe_k (k_Solver T) (ok_Solver_init T) (hr.mono (by decide)) rfl (g_Solver T) (pa_cons (pe_m0 (pv 3) (c_Packing T) (m_Packing_table T) (ok_Packing_table T) (hr.mono (by decide))) (pa_cons (pe_callB call_len_seq (by rfl) (b_len T) (by decide +kernel) (pa_cons (pe_f (c_Packing T) (n_Packing_texts T) (pv 3)) pa_nil)) pa_nil))) pa_nil)))))), ?_⟩
    have sm := p.sm
    refine ⟨_, rfl, _, rfl, _, rfl, fun x dx hx hd ne => ⟨x, dx, G, sv, cv, lv, ws, rows, lam, rfl, ((Nw.refl sm).obj (M := nM) hx hd ne).gh, upd_same, sm.free hx, p.s, p.c, p.l, p.I, p.b, p.p, fun pk hpk => ?_⟩⟩
    refine ini_done (M := nM) (Nw.refl sm) hx hd ne fun G1 H1 n1 r1 => ⟨rfl, ?_⟩
    obtain ⟨pok, hm, hN, hn, hg, hb⟩ := pk_prob p.I (cap_bq p.b) (cap_pos p.p) hpk
    obtain ⟨a, adx, v1, v3, v5, v6, v7, ea, ha, ⟨p1, e1, hp1⟩, q3, q5, q6, q7⟩ := id r1
    injection ea with ea
    subst ea
    subst e1
    refine ⟨_, rfl, _, rfl, x, adx, _, rfl, n1.gh _ _ ha, rfl, G1, _, pk, rfl, n1.gh, r1, by have := p.I.n8; omega, by omega, hb, fun pr G2 H2 n2 tv => ?_⟩
    have n12 := n1.trans n2
    refine ⟨_, rfl, x, adx, _, _, rfl, n2.gh _ _ (n2.gg _ _ ha), rfl, p1, _, rfl, .inr (SqT.of (n2.gh _ _ (n2.gg _ _ hp1))), ?_⟩
    rw [List.length_map]
    intro y dy hy hdy ney
    refine ⟨y, dy, pr, G2, probOf pk, rfl, (n12.obj hy hdy ney).gh, upd_same, n12.gfree hy, tv, pok, hm, by omega, fun s o z => ?_⟩
    refine ini_done (M := nM) (Nw.refl n12.gh) hy hdy ney fun G3 H3 n3 r3 => ⟨rfl, ?_⟩
    refine ⟨len_ok (show 2 ≤ 100000 by decide), fun t ht => ?_⟩
    exact k pk s _ _ _ (p.run hpk o z) ((n12.trans n3).alloc ht) ⟨t, _, _, rfl, upd_same, Mono.mono (n2.gg.trans (n3.gg.trans (same_new (n3.gfree ht)))) r1, Mono.mono (same_new (n3.gfree ht)) r3⟩
/-- V is the value of the instance -/
structure Val (ws : List Wd) (rows : List Row) (lam : Rat) (V : Rat) : Prop where
  pri : ∃ x, Pri ws rows (cap lam) x V
  dua : ∃ k s, Run ws rows lam k s ∧ Dua ws rows k.readable (cap lam) (uOf k s) (vOf k s) V
theorem Run.val {ws : List Wd} {rows : List Row} {lam : Rat} {k : Pk} {s : Tab} (r : Run ws rows lam k s) : Val ws rows lam (worthOf ws (cap lam) k s) := ⟨⟨_, run_pri r⟩, k, s, r, run_dua r⟩
theorem ls_total : ∀ ws : List Wd, ls (fun e : Wd => (e.2 : Rat)) ws = (total ws : Rat)
  | [] => rfl
  | e :: ws => by
    rw [ls, ls_total ws]
    show _ = ((e.2 + total ws : Int) : Rat)
    rw [Rat.intCast_add]
theorem bq_unit {q : Rat} {D n : Nat} (h0 : 0 ≤ q) (h1 : q ≤ 1) (hd : q.den ∣ D) (hD : 0 < D) (hn : D < 2 ^ n) : Bq n q := by
  have a := num_le_den h1
  have b : 0 ≤ q.num := by
    have := (Rat.le_iff 0 q).mp h0
    simpa using this
  have c := Nat.le_of_dvd hD hd
  exact ⟨by omega, by omega⟩
theorem den_dvd {o u : Int} (h : 0 < u) : ((o : Rat) / (u : Rat)).den ∣ u.natAbs := by
  obtain ⟨_, e⟩ := rat_parts (o := o) h
  have hg := gcd_pos' (a := o) h
  have hd : ((Int.gcd o u : Nat) : Int) ∣ u := Int.gcd_dvd_right ..
  have : (((o : Rat) / (u : Rat)).den : Int) ∣ u := by
    rw [e]
    exact ⟨(Int.gcd o u : Nat), by rw [Int.mul_comm, Int.mul_ediv_cancel' hd]⟩
  simpa using Int.natAbs_dvd_natAbs.mpr this
theorem Run.big {ws : List Wd} {rows : List Row} {lam : Rat} {k : Pk} {s : Tab} (r : Run ws rows lam k s) : (lowOf ws (cap lam) s).natAbs < 2 ^ 364 := by
  obtain ⟨pok, hm, _⟩ := pk_prob r.I r.bl r.pl r.pk
  exact mul_lt_pow (m := 84) (n := 280) (d_lt pok r.o hm) (unit_lt r.I.W r.bl)
theorem pri_nn {ws : List Wd} {rows : List Row} {lam : Rat} {x : Str → Rat} {V : Rat} (p : Pri ws rows lam x V) : 0 ≤ V := by
  rw [p.val]
  exact ls_nn p.nn
theorem pri_le {ws : List Wd} {rows : List Row} {lam : Rat} {x : Str → Rat} {V : Rat} (W : Wds ws) (p : Pri ws rows lam x V) : V ≤ 1 := by
  have tp := sum_pos W.pos W.ne
  have tr : (0 : Rat) < (total ws : Rat) := int_pos_rat tp
  have h1 : V * (total ws : Rat) ≤ 1 * (total ws : Rat) := by
    rw [p.val]
    have e1 : ls (fun e : Wd => x e.1) ws * (total ws : Rat) = ls (fun e : Wd => (total ws : Rat) * x e.1) ws := by rw [ls_mul]; grind
    have e2 := ls_total ws
    rw [e1]
    have := ls_le (f := fun e : Wd => (total ws : Rat) * x e.1) (g := fun e : Wd => (e.2 : Rat)) (l := ws) fun e he => by
      have := p.le e he
      grind
    grind
  exact Rat.le_of_mul_le_mul_right h1 tr
def spWorth (K : PySem.W.Frag) : Sp := fun vs H Q _ => ∃ G sv cv lv ws rows lam, vs = [sv, cv, lv] ∧ PreI K G H sv cv lv ws rows lam ∧ ∀ V, Val ws rows lam V → Bq 400 V → Ret nM G H (rSh K) V Q
theorem sc_worth : FnScope ["source", "changes", "level", "packing", "solver"] ["source", "changes", "level"] (defScope s_worth) := ⟨rfl, rfl, rfl, by decide +kernel, rfl, by decide +kernel, by decide +kernel⟩
theorem ok_worth (T : Tx K mg) : Ok P w K mg base 8 (He.ga K "worth") ["source", "changes", "level"] (spWorth K) := by
  refine ok_mk (f_worth T) (df_kp (f_worth T)) sc_worth (fun _ _ _ _ _ _ us hl => match us, hl with | [_, _, _], _ => rfl) (fun vs H Q E h => ?_) (fun cdv A outer s0 H vs Q E hr h => ?_)
  · obtain ⟨G, sv, cv, lv, ws, rows, lam, rfl, _⟩ := h
    rfl
  · obtain ⟨G, sv, cv, lv, ws, rows, lam, rfl, p, k⟩ := h
    refine ⟨_, (pss_cons (ps_asg (pe_c (ok__solved T) (hr.mono (by decide)) rfl (g__solved T) (pa_cons (pv 0) (pa_cons (pv 1) (pa_cons (pv 2) pa_nil)))) (pg_tup rfl (pgs_cons (pg_name (i := 3) sc_worth.nd rfl (Or.inl rfl)) (pgs_cons (pg_name (i := 4) sc_worth.nd rfl (Or.inl rfl)) pgs_nil))))
      (pss_one (ps_ret (pe_k (k_Share T) (ok_Share_init T) (hr.mono (by decide)) rfl (g_Share T) (pa_cons (pe_ix ix_list (pe_ix ix_list (pe_f (c_Solver T) (n_Solver_rows T) (pv 4)) (pe_un un_neg pe_int) (fun _ _ => rfl)) (pe_un un_neg pe_int) (fun _ _ => rfl)) (pa_cons (pe_op op_mulX (pe_f (c_Solver T) (n_Solver_divisor T) (pv 4)) (pe_f (c_Packing T) (n_Packing_unit T) (pv 3))) pa_nil)))))), ?_⟩
    refine ⟨_, rfl, _, rfl, _, rfl, G, sv, cv, lv, ws, rows, lam, rfl, p, fun pk s v G1 H1 r n1 ⟨q, va, vb, e, hq, ra, rb⟩ => ?_⟩
    subst e
    obtain ⟨pok, hm, hN, hn, hg, hb⟩ := pk_prob r.I r.bl r.pl r.pk
    obtain ⟨a, adx, v1, v3, v5, v6, v7, rfl, ha, _⟩ := id ra
    obtain ⟨b, pb, rfl, dx, pr, hs, ⟨rs, hrs, lrs, hrow⟩, _⟩ := id rb
    obtain ⟨qm, hq1, hq2⟩ := hrow _ (Nat.le_refl _)
    have hsH := n1.gh _ _ hs
    refine ⟨q, _, rfl, SqT.of (n1.gh _ _ hq), rfl, _, _, rfl, _, _, rfl, rfl, ?_⟩
    refine ⟨_, rfl, b, dx, _, _, rfl, hsH, rfl, _, rfl, pr, rs, _, _, rfl, rfl, SqL.of (n1.gh _ _ hrs), (at_last lrs).trans hq1, _, rfl, qm, _, _, _, rfl, rfl, SqL.of (n1.gh _ _ hq2), (at_last (rowV_len _ _)).trans (rowV_at _ (by omega)), ?_⟩
    refine ⟨_, rfl, b, dx, _, _, rfl, hsH, rfl, _, rfl, a, adx, _, _, rfl, n1.gh _ _ ha, rfl, _, _, rfl, rfl, ?_, ?_⟩
    · rw [r.pk.unit]
      exact mulx_ok (d_lt pok r.o hm) (unit_lt r.I.W r.bl) (by decide)
    · rw [r.pk.unit]
      have V1 := pri_le r.I.W (run_pri r)
      have V0 := pri_nn (run_pri r)
      exact sh_new (M := nM) r.low (pow_up r.big (by decide)) n1 (k _ r.val ((bq_unit V0 V1 (den_dvd r.low) (by have := r.low; omega) r.big).mono (by decide)))
def spRow (K : PySem.W.Frag) : Sp := fun vs H Q _ => ∃ G sv cv lv ws rows lam, vs = [sv, cv, lv] ∧ PreI K G H sv cv lv ws rows lam ∧ ∀ x V (D : Nat), Pri ws rows (cap lam) x V → Val ws rows lam V → 0 < D → D < 2 ^ 364 → (∀ e ∈ ws, (x e.1).den ∣ D) → (total ws).natAbs ∣ D → Ret nM G H (rTup (rPr rStr (rSh K))) (ws.map fun e => (e.1, x e.1)) Q
theorem sc_best_row : FnScope ["source", "changes", "level", "packing", "solver", "under", "place", "text"] ["source", "changes", "level"] (defScope s_best_row) := ⟨rfl, rfl, rfl, by decide +kernel, rfl, by decide +kernel, by decide +kernel⟩
theorem ok_best_row (T : Tx K mg) : Ok P w K mg base 8 (He.ga K "best_row") ["source", "changes", "level"] (spRow K) := by
  refine ok_mk (f_best_row T) (df_kp (f_best_row T)) sc_best_row (fun _ _ _ _ _ _ us hl => match us, hl with | [_, _, _], _ => rfl) (fun vs H Q E h => ?_) (fun cdv A outer s0 H vs Q E hr h => ?_)
  · obtain ⟨G, sv, cv, lv, ws, rows, lam, rfl, _⟩ := h
    rfl
  · obtain ⟨G, sv, cv, lv, ws, rows, lam, rfl, p, k⟩ := h
    refine ⟨_, (pss_cons (ps_asg (pe_c (ok__solved T) (hr.mono (by decide)) rfl (g__solved T) (pa_cons (pv 0) (pa_cons (pv 1) (pa_cons (pv 2) pa_nil)))) (pg_tup rfl (pgs_cons (pg_name (i := 3) sc_best_row.nd rfl (Or.inl rfl)) (pgs_cons (pg_name (i := 4) sc_best_row.nd rfl (Or.inr rfl)) pgs_nil))))
      (pss_cons (ps_set (i := 5) sc_best_row.nd rfl (Or.inr rfl) (pe_op op_mulX (pe_f (c_Solver T) (n_Solver_divisor T) (pv 4)) (pe_f (c_Packing T) (n_Packing_unit T) (pv 3))))
      (pss_one (ps_ret (pe_callTy call_tuple_of (by rfl) (b_tuple T) (by decide +kernel) (pa_cons (pe_lc (own := [("place", 6), ("text", 7)]) (g := (gTup K 2 (gCons (gName 6) (gCons (gName 7) gNil)))) (tt := tYes) rfl sc_best_row.nd (pi_enumX (by rfl) (b_enumerate T) (pa_cons (pe_f (c_Packing T) (n_Packing_texts T) (pv 3)) pa_nil)) (blkOk_by (N := ["source", "changes", "level", "packing", "solver", "under", "place", "text"]) (sc := defScope s_best_row) (by decide +kernel)) (fun _ _ _ _ _ => (pg_tup rfl (pgs_cons (pg_name (i := 6) sc_best_row.nd rfl (Or.inl rfl)) (pgs_cons (pg_name (i := 7) sc_best_row.nd rfl (Or.inl rfl)) pgs_nil)))) (fun _ _ _ _ _ => pts_nil) (fun _ _ _ _ _ => (pe_tup (pa_cons (pv 7) (pa_cons (pe_k (k_Share T) (ok_Share_init T) (hr.mono (by decide)) rfl (g_Share T) (pa_cons (pe_m (pv 4) (c_Solver T) (m_Solver_told T) (ok_Solver_told T) (hr.mono (by decide)) (pa_cons (pv 6) pa_nil)) (pa_cons (pv 5) pa_nil))) pa_nil))))) pa_nil)))))), ?_⟩
    refine ⟨_, rfl, _, rfl, _, rfl, G, sv, cv, lv, ws, rows, lam, rfl, p, fun pk s v G1 H1 r n1 ⟨q, va, vb, e, hq, ra, rb⟩ => ?_⟩
    subst e
    obtain ⟨pok, hm, hN, hn, hg, hb⟩ := pk_prob r.I r.bl r.pl r.pk
    obtain ⟨a, adx, v1, v3, v5, v6, v7, rfl, ha, ⟨p1, rfl, hp1⟩, _⟩ := id ra
    obtain ⟨b, pb, rfl, sv1⟩ := id rb
    obtain ⟨dx, pr, hs, _⟩ := id sv1
    have hsH := n1.gh _ _ hs
    refine ⟨q, _, rfl, SqT.of (n1.gh _ _ hq), rfl, _, _, rfl, _, _, rfl, rfl, ?_⟩
    refine ⟨_, rfl, b, dx, _, _, rfl, hsH, rfl, _, rfl, a, adx, _, _, rfl, n1.gh _ _ ha, rfl, _, _, rfl, rfl, by rw [r.pk.unit]; exact mulx_ok (d_lt pok r.o hm) (unit_lt r.I.W r.bl) (by decide), ?_⟩
    have hp1H := n1.gh _ _ hp1
    refine ⟨_, rfl, a, adx, _, _, rfl, n1.gh _ _ ha, rfl, .tup p1, _, rfl, Rd.of hp1H, fun D hD => ?_⟩
    rw [r.pk.unit]
    refine lc_I (walk_enumX (q := .tup p1) (xs := pk.texts.map V.str)) (M := nM) (G := G1) (rPr rStr (rSh K)) (fun i ys _ _ => ys = (ws.take i).map fun e => (e.1, xOf ws (cap lam) pk s e.1)) hD n1.gh (by rw [List.length_map]; have := p.I.n8; omega) (fun i ys Gc Hc o _ h => h) rfl (fun Gc Hc n => Rd.of (n.hh _ _ (fun z => z) hp1H)) (fun z => z) (fun i x ys Gc Hc H' Ky Kn hi n h y k1 k2 => ?_) ?_
    · obtain ⟨T1, y1, y2, rfl, hT1, rfl, e1, e2⟩ := y
      have e1 := (Option.some.inj e1).symm
      subst e1
      rw [List.length_map, hn] at hi
      have hw : ws[i]? = some ws[i] := List.getElem?_eq_getElem hi
      have e2 : (pk.texts.map V.str)[i]? = some y2 := e2
      rw [r.pk.texts, List.getElem?_map, List.getElem?_map, hw] at e2
      have e2 := (Option.some.inj e2).symm
      have e2 : y2 = .str ws[i].1 := e2
      subst e2
      have n2 := n.allocH (o := .tup [.int (i : Nat), .str ws[i].1]) hT1
      have n2' := (Nw.refl (M := nM) n.gh).allocH (o := .tup [.int (i : Nat), .str ws[i].1]) hT1
      have sv2 := (sv1.mono n1.gh n1.gh).mono n2.same n2.same
      obtain ⟨dx2, pr2, hs2, _⟩ := id sv2
      refine ⟨T1, _, rfl, SqT.of upd_same, rfl, _, _, rfl, _, _, rfl, rfl, rfl, yes_ok ?_⟩
      refine ⟨_, rfl, _, rfl, b, dx2, _, rfl, hs2, rfl, _, rfl, b, pb, probOf pk, s, toldF (probOf pk) s, i, rfl, sv2, toldF_ok r.o, _, rfl, ?_⟩
      intro x' dx' hx' hdx' ne'
      refine sh_new1 (M := nM) hx' hdx' ne' r.low (pow_up r.big (by decide)) n2' fun G3 H3 n3 r3 => ⟨rfl, ?_⟩
      refine ⟨len_ok (show 2 ≤ 100000 by decide), fun t ht => ?_⟩
      refine k1 _ _ _ (ws[i].1, xOf ws (cap lam) pk s ws[i].1) (n3.alloc ht) ⟨t, _, _, rfl, upd_same, rfl, ?_⟩ ?_
      · have := Mono.mono (R := rSh K) (same_new (o := .tup [.str ws[i].1, .ref x']) (n3.gfree ht)) r3
        show rSh K _ _ (xOf ws (cap lam) pk s ws[i].1)
        unfold xOf
        rw [r.idx hw]
        exact this
      · rw [h, List.take_add_one, hw, List.map_append]
        rfl
    · rintro ys vs Gc Hc n2 h hDc gD pr2
      rw [List.length_map, hn, List.take_length] at h
      subst h
      refine ⟨D, _, rfl, .inl ⟨SqL.of hDc, fun l hl => ?_⟩⟩
      have n3 := (n1.trans n2).alloc (o := .tup vs) hl
      refine k _ _ (lowOf ws (cap lam) s).natAbs (run_pri r) r.val (by have := r.low; omega) r.big (fun e he => den_dvd r.low) ?_ _ _ _ n3 ⟨l, vs, rfl, upd_same, paired_mono (same_new ((n1.trans n2).gfree hl)) pr2⟩
      exact Int.natAbs_dvd_natAbs.mpr (Int.dvd_trans (dvdW ws (cap lam)) (Int.dvd_mul_left _ _))
def spPrices (K : PySem.W.Frag) : Sp := fun vs H Q _ => ∃ G sv cv lv ws rows lam, vs = [sv, cv, lv] ∧ PreI K G H sv cv lv ws rows lam ∧ ∀ rdb u v V, Dua ws rows rdb (cap lam) u v V → Srt rdb → (∀ t, t ∈ rdb ↔ ∃ r ∈ rows, t ∈ r.2) → Val ws rows lam V → (∀ e ∈ ws, Bq 84 (u e.1)) → (∀ t, Bq 84 (v t)) →
  ∀ q G' H', Nw nM G H G' H' → (∃ p va vb, q = .ref p ∧ G' p = some (.tup [va, vb]) ∧ rTup (rPr rStr (rSh K)) G' va (ws.map fun e => (e.1, u e.1)) ∧ rTup (rPr rStr (rSh K)) G' vb (rdb.map fun t => (t, v t))) → Q q H'
theorem sc_prices : FnScope ["source", "changes", "level", "packing", "solver", "many", "own", "asked", "place", "read", "others", "text"] ["source", "changes", "level"] (defScope s_prices) := ⟨rfl, rfl, rfl, by decide +kernel, rfl, by decide +kernel, by decide +kernel⟩
theorem ok_prices (T : Tx K mg) : Ok P w K mg base 8 (He.ga K "prices") ["source", "changes", "level"] (spPrices K) := by
  refine ok_mk (f_prices T) (df_kp (f_prices T)) sc_prices (fun _ _ _ _ _ _ us hl => match us, hl with | [_, _, _], _ => rfl) (fun vs H Q E h => ?_) (fun cdv A outer s0 H vs Q E hr h => ?_)
  · obtain ⟨G, sv, cv, lv, ws, rows, lam, rfl, _⟩ := h
    rfl
  · obtain ⟨G, sv, cv, lv, ws, rows, lam, rfl, p, k⟩ := h
    refine ⟨_, (pss_cons (ps_asg (pe_c (ok__solved T) (hr.mono (by decide)) rfl (g__solved T) (pa_cons (pv 0) (pa_cons (pv 1) (pa_cons (pv 2) pa_nil)))) (pg_tup rfl (pgs_cons (pg_name (i := 3) sc_prices.nd rfl (Or.inl rfl)) (pgs_cons (pg_name (i := 4) sc_prices.nd rfl (Or.inr rfl)) pgs_nil))))
      (pss_cons (ps_set (i := 5) sc_prices.nd rfl (Or.inr rfl) (pe_callB call_len_seq (by rfl) (b_len T) (by decide +kernel) (pa_cons (pe_f (c_Packing T) (n_Packing_texts T) (pv 3)) pa_nil)))
      (pss_cons (ps_setLc (i := 6) (own := [("place", 8), ("text", 11)]) (g := (gTup K 2 (gCons (gName 8) (gCons (gName 11) gNil)))) (tt := tYes) rfl sc_prices.nd rfl rfl (sw_true rfl rfl rfl (by decide +kernel)) (pi_enumX (by rfl) (b_enumerate T) (pa_cons (pe_f (c_Packing T) (n_Packing_texts T) (pv 3)) pa_nil)) (blkOk_by (N := ["source", "changes", "level", "packing", "solver", "many", "own", "asked", "place", "read", "others", "text"]) (sc := defScope s_prices) (by decide +kernel)) (fun _ _ _ _ _ => (pg_tup rfl (pgs_cons (pg_name (i := 8) sc_prices.nd rfl (Or.inl rfl)) (pgs_cons (pg_name (i := 11) sc_prices.nd rfl (Or.inl rfl)) pgs_nil)))) (fun _ _ _ _ _ => pts_nil) (fun _ _ _ _ _ => (pe_tup (pa_cons (pv 11) (pa_cons (pe_k (k_Share T) (ok_Share_init T) (hr.mono (by decide)) rfl (g_Share T) (pa_cons (pe_m (pv 4) (c_Solver T) (m_Solver_price T) (ok_Solver_price T) (hr.mono (by decide)) (pa_cons (pe_op op_add (pv 5) (pv 8)) pa_nil)) (pa_cons (pe_f (c_Solver T) (n_Solver_divisor T) (pv 4)) pa_nil))) pa_nil)))))
      (pss_cons (ps_set (i := 7) sc_prices.nd rfl (Or.inr rfl) pe_dnewK)
      (pss_cons (ps_for PassesOwn.never rfl (pi_enumX (by rfl) (b_enumerate T) (pa_cons (pe_f (c_Packing T) (n_Packing_readers T) (pv 3)) pa_nil)) (pg_tup rfl (pgs_cons (pg_name (i := 8) sc_prices.nd rfl (Or.inl rfl)) (pgs_cons (pg_name (i := 9) sc_prices.nd rfl (Or.inl rfl)) pgs_nil)))
      (pss_one (ps_dput (hu_of hr) (pv 7) (pv 9) (pe_k (k_Share T) (ok_Share_init T) (hr.mono (by decide)) rfl (g_Share T) (pa_cons (pe_m (pv 4) (c_Solver T) (m_Solver_price T) (ok_Solver_price T) (hr.mono (by decide)) (pa_cons (pe_op op_add (pe_op op_mulX pe_int (pv 5)) (pv 8)) pa_nil)) (pa_cons (pe_f (c_Solver T) (n_Solver_divisor T) (pv 4)) pa_nil))) rfl)))
      (pss_cons (ps_setLc (i := 10) (own := [("read", 9)]) (g := (gName 9)) (tt := tYes) rfl sc_prices.nd rfl rfl (sw_true rfl rfl rfl (by decide +kernel)) (pi_tup (pe_f (c_Packing T) (n_Packing_readable T) (pv 3))) (blkOk_by (N := ["source", "changes", "level", "packing", "solver", "many", "own", "asked", "place", "read", "others", "text"]) (sc := defScope s_prices) (by decide +kernel)) (fun _ _ _ _ _ => (pg_name (i := 9) sc_prices.nd rfl (Or.inl rfl))) (fun _ _ _ _ _ => pts_nil) (fun _ _ _ _ _ => (pe_tup (pa_cons (pv 9) (pa_cons (pe_dget2 (hu_of hr) (pv 7) (pv 9) (pe_k (k_Share T) (ok_Share_init T) (hr.mono (by decide)) rfl (g_Share T) (pa_cons pe_int (pa_cons pe_int pa_nil))) ⟨by rfl, by rfl, by rfl, by rfl⟩) pa_nil)))))
      (pss_one (ps_ret (pe_tup (pa_cons (pe_callTy call_tuple_of (by rfl) (b_tuple T) (by decide +kernel) (pa_cons (pv 6) pa_nil)) (pa_cons (pe_callTy call_tuple_of (by rfl) (b_tuple T) (by decide +kernel) (pa_cons (pv 10) pa_nil)) pa_nil))))))))))), ?_⟩
    refine ⟨_, rfl, _, rfl, _, rfl, G, sv, cv, lv, ws, rows, lam, rfl, p, fun pk s v G1 H1 r n1 ⟨q, va, vb, e, hq, ra, rb⟩ => ?_⟩
    subst e
    obtain ⟨pok, hm, hN, hn, hg, hb⟩ := pk_prob r.I r.bl r.pl r.pk
    obtain ⟨a, adx, v1, v3, v5, v6, v7, rfl, ha, ⟨p1, rfl, hp1⟩, q3, ⟨p5, rfl, hp5⟩, q6, ⟨p7, rfl, hp7⟩⟩ := id ra
    obtain ⟨b, pb, rfl, sv1⟩ := id rb
    have ls' : (sidesL pk).length = pk.texts.length + pk.groups.length := by simp [sidesL]
    have pn : (probOf pk).n = ws.length := hn
    have pm : (probOf pk).m = ws.length + pk.readers.length := by rw [← r.pk.len, ← hn]; exact ls'
    have pN : (probOf pk).N = ws.length + (ws.length + pk.readers.length) := by unfold Prob.N; rw [pn, pm]
    have n8 := p.I.n8
    have hg' : pk.readers.length ≤ 16 := by rw [← r.pk.len]; exact hg
    have dlt : s.d.natAbs < 2 ^ 84 := d_lt pok r.o hm
    have dp := r.o.hd
    have bq : ∀ i, i < (probOf pk).m → Bq 84 ((s.T (probOf pk).m ((probOf pk).n + i) : Rat) / (s.d : Rat)) := fun i hi => bq_of dp (tc_lt pok r.o hm (Nat.le_refl _) (by unfold Prob.N; omega)) dlt
    have hp1H := n1.gh _ _ hp1
    have hp5H := n1.gh _ _ hp5
    have hp7H := n1.gh _ _ hp7
    have haH := n1.gh _ _ ha
    refine ⟨q, _, rfl, SqT.of (n1.gh _ _ hq), rfl, _, _, rfl, _, _, rfl, rfl, ?_⟩
    refine ⟨_, rfl, a, adx, _, _, rfl, haH, rfl, p1, _, rfl, .inr (SqT.of hp1H), ?_⟩
    rw [List.length_map, hn]
    refine ⟨_, rfl, a, adx, _, _, rfl, haH, rfl, .tup p1, _, rfl, Rd.of hp1H, fun D hD => ?_⟩
    refine lc_I (walk_enumX (q := .tup p1) (xs := pk.texts.map V.str)) (M := nM) (G := G1) (rPr rStr (rSh K)) (fun i ys _ _ => ys = (ws.take i).map fun e => (e.1, uOf pk s e.1)) hD n1.gh (by rw [List.length_map]; omega) (fun i ys Gc Hc o _ h => h) rfl (fun Gc Hc n => Rd.of (n.hh _ _ (fun z => z) hp1H)) (fun z => z) (fun i x ys Gc Hc H' Ky Kn hi n h y k1 k2 => ?_) ?_
    · obtain ⟨T1, y1, y2, rfl, hT1, rfl, e1, e2⟩ := y
      have e1 := (Option.some.inj e1).symm
      subst e1
      rw [List.length_map, hn] at hi
      have hw : ws[i]? = some ws[i] := List.getElem?_eq_getElem hi
      have e2 : (pk.texts.map V.str)[i]? = some y2 := e2
      rw [r.pk.texts, List.getElem?_map, List.getElem?_map, hw] at e2
      have e2 := (Option.some.inj e2).symm
      have e2 : y2 = .str ws[i].1 := e2
      subst e2
      have n2' := (Nw.refl (M := nM) n.gh).allocH (o := .tup [.int (i : Nat), .str ws[i].1]) hT1
      have n2 := n.allocH (o := .tup [.int (i : Nat), .str ws[i].1]) hT1
      have sv2 := (sv1.mono n1.gh n1.gh).mono n2.same n2.same
      obtain ⟨dx2, pr2, hs2, _⟩ := id sv2
      refine ⟨T1, _, rfl, SqT.of upd_same, rfl, _, _, rfl, _, _, rfl, rfl, rfl, yes_ok ?_⟩
      refine ⟨_, rfl, _, rfl, b, dx2, _, rfl, hs2, rfl, _, rfl, _, rfl, _, _, rfl, rfl, b, pb, probOf pk, s, ws.length + i, by rw [Int.natCast_add], sv2, by omega, _, rfl, b, dx2, _, _, rfl, hs2, rfl, ?_⟩
      intro x' dx' hx' hdx' ne'
      refine sh_new1 (M := nM) hx' hdx' ne' dp (pow_up dlt (by decide)) n2' fun G3 H3 n3 r3 => ⟨rfl, ?_⟩
      refine ⟨len_ok (show 2 ≤ 100000 by decide), fun t ht => ?_⟩
      refine k1 _ _ _ (ws[i].1, uOf pk s ws[i].1) (n3.alloc ht) ⟨t, _, _, rfl, upd_same, rfl, ?_⟩ ?_
      · have := Mono.mono (R := rSh K) (same_new (o := .tup [.str ws[i].1, .ref x']) (n3.gfree ht)) r3
        show rSh K _ _ (uOf pk s ws[i].1)
        unfold uOf
        rw [r.idx hw, pn]
        exact this
      · rw [h, List.take_add_one, hw, List.map_append]
        rfl
    · rintro ys vs Gc Hc n2 h hDc gD pr2
      rw [List.length_map, hn, List.take_length] at h
      subst h
      have sv2 := (sv1.mono n1.gh n1.gh).mono n2.same n2.same
      have m2 := (n1.trans n2).frz ((n1).dom _ hD) hDc
      have pr3 := paired_mono (R := rPr rStr (rSh K)) (same_new (o := .lst vs) gD) pr2
      have gD2 : upd Gc D (.lst vs) D = some (.lst vs) := upd_same
      have hp5g : upd Gc D (.lst vs) p5 = _ := (same_new gD) _ _ (n2.gg _ _ hp5)
      have hp5c := n2.hh _ _ (fun z => z) hp5H
      have hp7c := n2.hh _ _ (fun z => z) hp7H
      have hac := n2.hh _ _ (fun z => z) haH
      generalize upd Gc D (.lst vs) = G2 at m2 pr3 gD2
      intro ad had
      have gad := m2.gfree had
      have sv3 : SolV K (probOf pk) Hc Hc b pb s := sv2
      refine ⟨_, rfl, a, adx, _, _, rfl, get_new hac had, rfl, .lst p7, _, rfl, Rd.of (get_new hp7c had), ?_⟩
      refine for_it (walk_enumX (q := .lst p7) (xs := pk.readers.map V.str)) (fun i σ H' => ∃ (z1 z2 : Option V) (Gc' : Hp) (kvs : List (Key × V)), σ = [some sv, some cv, some lv, some (.ref a), some (.ref b), some (.int ws.length), some (.ref D), some (.ref ad), z1, z2, none, none] ∧ Nw nM G2 Hc Gc' H' ∧ H' ad = some (.dK kvs) ∧ Gc' ad = none ∧
          Paired (fun (kv : Key × V) (t : Str) => kv.1 = .inr t ∧ rSh K Gc' kv.2 (vOf pk s t)) kvs (pk.readers.take i))
        ⟨none, none, G2, [], rfl, (Nw.refl m2.gh).allocH had, upd_same, gad, .nil⟩ (fun i σ H' _ h => by obtain ⟨z1, z2, Gc', kvs, rfl, n, _⟩ := h; exact Rd.of (n.hh _ _ (fun z => z) hp7c)) ?_ ?_
      · rintro i y σ H5 H6 hi ⟨z1, z2, Gc', kvs, rfl, n5, hk5, gk5, pr5⟩ ⟨T1, y1, y2, rfl, hT1, rfl, e1, e2⟩
        have e1 := (Option.some.inj e1).symm
        subst e1
        rw [List.length_map] at hi
        have hri : pk.readers[i]? = some pk.readers[i] := List.getElem?_eq_getElem hi
        have e2 : (pk.readers.map V.str)[i]? = some y2 := e2
        rw [List.getElem?_map, hri] at e2
        have e2 := (Option.some.inj e2).symm
        have e2 : y2 = .str pk.readers[i] := e2
        subst e2
        have n6 := n5.allocH (o := .tup [.int (i : Nat), .str pk.readers[i]]) hT1
        have hk6 := get_new (o := .tup [.int (i : Nat), .str pk.readers[i]]) hk5 hT1
        have n6' := (Nw.refl (M := nM) n5.gh).allocH (o := .tup [.int (i : Nat), .str pk.readers[i]]) hT1
        have sv6 := sv3.mono n6.same n6.same
        obtain ⟨dx2, pr2', hs2, _⟩ := id sv6
        refine ⟨T1, _, rfl, SqT.of upd_same, rfl, _, _, rfl, _, _, rfl, rfl, ?_⟩
        refine ⟨_, rfl, b, dx2, _, rfl, hs2, rfl, _, rfl, _, _, rfl, rfl, mulx_ok (a := 2) (b := 60) (by decide) (by simp; omega) (by decide), _, rfl, _, _, rfl, rfl, b, pb, probOf pk, s, ws.length + (ws.length + i), ?_, sv6, by omega, _, rfl, b, dx2, _, _, rfl, hs2, rfl, ?_⟩
        · have : (2 : Int) * (ws.length : Int) + (i : Int) = ((ws.length + (ws.length + i) : Nat) : Int) := by omega
          show [V.ref b, V.int ((2 : Int) * (ws.length : Int) + (i : Int))] = _
          rw [this]
        · intro x' dx' hx' hdx' ne'
          refine sh_new1 (M := nM) hx' hdx' ne' dp (pow_up dlt (by decide)) n6' fun G7 H7 n7 r7 => ⟨rfl, ?_⟩
          have n8' := n5.trans n7
          have hk7 := n7.hh _ _ (fun z => z) hk5
          have gk7 := n7.loc hk5 gk5
          have lk := paired_len pr5
          have hno : valV kvs (.inr pk.readers[i]) = none := look_no (key := fun t : Str => t) (fun _ _ h => h.1) pr5 fun hm => by
            rw [List.map_id'] at hm
            have nd2 := r.pk.nd
            rw [← List.take_append_drop (i + 1) pk.readers, List.take_add_one, hri] at nd2
            exact (List.nodup_append.mp (List.nodup_append.mp nd2).1).2.2 _ hm _ (List.mem_singleton.mpr rfl) rfl
          refine ⟨_, rfl, _, rfl, ad, _, rfl, DPut.k (k := .inr pk.readers[i]) hk7 (by rw [lk, List.length_take, sizeLine_eq]; omega), _, _, G7, _, rfl, n8'.putH had gk7, upd_same, gk7, ?_⟩
          rw [putK_new _ hno, List.take_add_one, hri]
          refine paired_snoc ⟨rfl, ?_⟩ (Mk.Paired.mono' pr5 fun kv t h => ⟨h.1, Mono.mono n7.gg h.2⟩)
          show rSh K G7 (.ref x') (vOf pk s pk.readers[i])
          unfold vOf
          rw [if_pos (List.getElem_mem hi), idx_of r.pk.nd hri, pn]
          exact r7
      · rintro σ H5 ⟨z1, z2, Gc', kvs, rfl, n5, hk5, gk5, pr5⟩
        rw [List.length_map, List.take_length] at pr5
        have hp5' := n5.hh _ _ (fun z => z) hp5c
        have ha5 := n5.hh _ _ (fun z => z) hac
        refine ⟨_, rfl, a, adx, _, _, rfl, ha5, rfl, p5, rfl, ⟨_, SqT.of hp5'⟩, fun D2 hD2 => ?_⟩
        refine lc_I (walk_tup (xs := pk.readable.map V.str)) (M := nM) (G := Gc') (rPr rStr (rSh K)) (fun i ys _ _ => ys = (pk.readable.take i).map fun t => (t, vOf pk s t)) hD2 n5.gh ?_ (fun i ys Gc Hc o _ h => h) rfl (fun Gc Hc n => SqT.of (n.hh _ _ (fun z => z) hp5')) (fun z => z) (fun i x ys Gd Hd H' Ky Kn hi n h y k1 k2 => ?_) ?_
        · rw [List.length_map]
          have := p.I.few pk.readable r.pk.rdb.nd fun t ht => (r.pk.rdbm t).mp ht
          omega
        · obtain ⟨rfl, hx⟩ := y
          rw [List.length_map] at hi
          have hri : pk.readable[i]? = some pk.readable[i] := List.getElem?_eq_getElem hi
          rw [List.getElem?_map, hri] at hx
          have hx := (Option.some.inj hx).symm
          have hx : x = .str pk.readable[i] := hx
          subst hx
          have hkd := n.hh _ _ (fun z => z) hk5
          refine ⟨rfl, yes_ok ?_⟩
          refine ⟨_, rfl, _, rfl, ad, rfl, .inl ⟨_, Rd.of hkd⟩, _, rfl, ?_⟩
          intro x' dx' hx' hdx' ne'
          refine sh_new1 (M := nM) hx' hdx' ne' (by decide) (by decide) (Nw.refl n.gh) fun G7 H7 n7 r7 => ⟨rfl, ?_⟩
          have hk7 := n7.hh _ _ (fun z => z) hkd
          have e0 : ((0 : Int) : Rat) / ((1 : Int) : Rat) = 0 := by decide +kernel
          rw [e0] at r7
          refine ⟨_, DGet.k (k := .inr pk.readable[i]) hk7, len_ok (show 2 ≤ 100000 by decide), fun t ht => ?_⟩
          have rv : rSh K G7 ((valV kvs (.inr pk.readable[i])).getD (.ref x')) (vOf pk s pk.readable[i]) := by
            by_cases hin : pk.readable[i] ∈ pk.readers
            · obtain ⟨kv, e1, _, e3⟩ := look_in (key := fun t : Str => t) (fun _ _ h => h.1) pr5 (by rw [List.map_id']; exact r.pk.nd) hin
              rw [e1]
              exact Mono.mono (n.gg.trans n7.gg) e3
            · rw [look_no (key := fun t : Str => t) (fun _ _ h => h.1) pr5 (by rw [List.map_id']; exact hin)]
              unfold vOf
              rw [if_neg hin]
              exact r7
          refine k1 _ _ _ (pk.readable[i], vOf pk s pk.readable[i]) (n7.alloc ht) ⟨t, _, _, rfl, upd_same, rfl, Mono.mono (same_new (n7.gfree ht)) rv⟩ ?_
          rw [h, List.take_add_one, hri, List.map_append]
          rfl
        · rintro ys ws2 Gd Hd n6 h hDd gDd pr6
          rw [List.length_map, List.take_length] at h
          subst h
          have hDl := n6.hh _ _ (fun z => z) (n5.hh _ _ (fun z => z) hDc)
          refine ⟨_, rfl, D, _, rfl, .inl ⟨SqL.of hDl, fun l1 hl1 => ?_⟩⟩
          have n7 := ((n5.trans n6).alloc (o := .tup vs) hl1)
          refine ⟨_, rfl, D2, _, rfl, .inl ⟨SqL.of (get_new hDd hl1), fun l2 hl2 => ?_⟩⟩
          have n8' := n7.alloc (o := .tup ws2) hl2
          refine ⟨len_ok (show 2 ≤ 100000 by decide), fun t ht => ?_⟩
          have n9 := n8'.alloc (o := .tup [.ref l1, .ref l2]) ht
          have s1 := n7.gg
          have s2 : Same (upd Gd l1 (.tup vs)) (upd (upd Gd l1 (.tup vs)) l2 (.tup ws2)) := same_new (n7.gfree hl2)
          have s3 : Same (upd (upd Gd l1 (.tup vs)) l2 (.tup ws2)) (upd (upd (upd Gd l1 (.tup vs)) l2 (.tup ws2)) t (.tup [.ref l1, .ref l2])) := same_new (n8'.gfree ht)
          have s0 : Same Gd (upd Gd l1 (.tup vs)) := same_new (n5.trans n6 |>.gfree hl1)
          exact k pk.readable (uOf pk s) (vOf pk s) _ (run_dua r) r.pk.rdb r.pk.rdbm r.val (fun e he => by
              obtain ⟨i, hi⟩ := List.getElem?_of_mem he
              have := (List.getElem?_eq_some_iff.mp hi).1
              unfold uOf
              rw [r.idx hi]
              exact bq i (by omega)) (fun t => by
              unfold vOf
              split
              · rename_i h
                have := List.idxOf_lt_length_of_mem h
                exact bq ((probOf pk).n + pk.readers.idxOf t) (by omega)
              · exact ⟨by decide, by decide⟩) _ _ _ (m2.trans n9)
            ⟨t, _, _, rfl, upd_same, ⟨l1, vs, rfl, s3 _ _ (s2 _ _ upd_same), paired_mono (R := rPr rStr (rSh K)) n9.gg pr3⟩, ⟨l2, ws2, rfl, s3 _ _ upd_same, paired_mono (R := rPr rStr (rSh K)) (s0.trans (s2.trans s3)) pr6⟩⟩
end
end Mk

-- F1
set_option Elab.async false
set_option linter.all false
set_option maxRecDepth 100000
set_option maxHeartbeats 4000000
set_option exponentiation.threshold 20000
namespace Mk
open PySem PySem.Spec PyProof.Rows L2
open C8 (InsC call_isC)
theorem kit_ii {K : PySem.W.Frag} : PySem.W.kitOne K (.type "int") (.type "int") = some true := by rfl
theorem kit_ib {K : PySem.W.Frag} : PySem.W.kitOne K (.type "int") (.type "bool") = some false := by
  first | rfl | (unfold PySem.W.kitOne; rw [if_neg (by decide)]; rfl) | decide +kernel
theorem kit_ss {K : PySem.W.Frag} : PySem.W.kitOne K (.type "str") (.type "str") = some true := by rfl
theorem kit_tt {K : PySem.W.Frag} : PySem.W.kitOne K (.type "tuple") (.type "tuple") = some true := by rfl
/-! ### markings -/
abbrev Ent : Type := Int × Str × List Str
abbrev rEn : Rep Ent := rTr rInt rStr (rTf V.str)
def wholeOf (es : List Ent) : Int := (es.map (·.1)).sum
def wrOf (es : List Ent) (t : Str) : Int := ((es.filter fun e => decide (e.2.1 = t)).map (·.1)).sum
structure Ents (es : List Ent) : Prop where
  pos : ∀ e ∈ es, 1 ≤ e.1
  acc : ∀ e ∈ es, Srt e.2.2 ∧ e.2.2.length ≤ 60
  few : es.length ≤ 60
section
variable {P : Program} {w : World} {K : PySem.W.Frag} {mg : Str → Option Value} {base : Heap}
theorem whole_snoc (l : List Ent) (e : Ent) : wholeOf (l ++ [e]) = wholeOf l + e.1 := by
  unfold wholeOf
  rw [List.map_append, List.sum_append]
  simp
theorem sortedS_of_srt {l : List Str} (h : Srt l) : sortedS l = true := by
  refine sortedS_of_pairwise l (h.imp fun {a b} q => ?_)
  rw [ltCps_eq]
  exact decide_eq_false fun z => sLt_irr (sLt_trans q z)
def rMk (K : PySem.W.Frag) : Rep (List Ent) := fun G v es => ∃ (a dx p : Addr) (vs : List V), v = .ref a ∧ G a = some (.ins (He.ga K "Marking") dx [("entries", .ref p), ("whole", .int (wholeOf es))]) ∧ G p = some (.tup vs) ∧ Paired (rEn G) vs es
instance : Mono (rMk K) := ⟨fun s ⟨a, dx, p, vs, e, h1, h2, h3⟩ => ⟨a, dx, p, vs, e, s _ _ h1, s _ _ h2, paired_mono s h3⟩⟩
def spMkI (K : PySem.W.Frag) : Sp := fun vs H Q _ => ∃ (x dx : Addr) (G : Hp) (v : V) (es : List Ent), vs = [.ref x, v] ∧ Same G H ∧ H x = some (.ins (He.ga K "Marking") dx []) ∧ G x = none ∧ rLst rEn G v es ∧ Ents es ∧ Ini (rMk K) x G H es Q
theorem sc_Marking_init : FnScope ["self", "entries", "kept", "whole", "at", "weight", "text", "accused"] ["self", "entries"] (defScope s_Marking_init) := ⟨rfl, rfl, rfl, by decide +kernel, rfl, by decide +kernel, by decide +kernel⟩
theorem ok_Marking_init (T : Tx K mg) : Ok P w K mg base 1 (He.ma K (He.ga K "Marking") "__init__") ["self", "entries"] (spMkI K) := by
  refine ok_mk (f_Marking_init T) (df_kp (f_Marking_init T)) sc_Marking_init (fun _ _ _ _ _ _ us hl => match us, hl with | [_, _], _ => rfl) (fun vs H Q E h => ?_) (fun cdv A outer s H vs Q E hr h => ?_)
  · obtain ⟨x, dx, G, v, es, rfl, _⟩ := h
    rfl
  · obtain ⟨x, dx, G, v, es, rfl, sm, hx, gx, ⟨p, vs, rfl, hp, pr⟩, En, k⟩ := h
    refine ⟨_, (pss_cons (ps_set (i := 2) sc_Marking_init.nd rfl (Or.inl rfl) (pe_lst pa_nil))
      (pss_cons (ps_set (i := 3) sc_Marking_init.nd rfl (Or.inl rfl) pe_int)
      (pss_cons (ps_for PassesOwn.never rfl (pi_enumX (by rfl) (b_enumerate T) (pa_cons (pv 1) pa_nil)) (pg_tup rfl (pgs_cons (pg_name (i := 4) sc_Marking_init.nd rfl (Or.inl rfl)) (pgs_cons (pg_tup rfl (pgs_cons (pg_name (i := 5) sc_Marking_init.nd rfl (Or.inl rfl)) (pgs_cons (pg_name (i := 6) sc_Marking_init.nd rfl (Or.inl rfl)) (pgs_cons (pg_name (i := 7) sc_Marking_init.nd rfl (Or.inl rfl)) pgs_nil)))) pgs_nil)))
      (pss_cons (ps_if (PW.pt (pw_or (pt_not (pt_val (pe_callB call_isi (by rfl) (b_isinstance T) (by decide +kernel) (pa_cons (pv 5) (pa_cons (pe_bltn (v := .ty "int") (by rfl) (b_int T) (by decide +kernel) rfl) pa_nil))))) (pw_or (pt_val (pe_callB call_isi (by rfl) (b_isinstance T) (by decide +kernel) (pa_cons (pv 5) (pa_cons (pe_bltn (v := .ty "bool") (by rfl) (b_bool T) (by decide +kernel) rfl) pa_nil)))) (pw_or1 (pt_cmpR op_lt (pv 5) pe_int (nomark _))))))
        (pss_one ps_never)
        pss_nil)
      (pss_cons (ps_expr (pe_bm PySem.F.plainAttrs_list PySem.F.slot_list_append PySem.F.type_list_append mt_append (pv 2) (pa_cons (pe_tup (pa_cons (pv 5) (pa_cons (pv 6) (pa_cons (pe_callTy call_tuple_of (by rfl) (b_tuple T) (by decide +kernel) (pa_cons (pe_callB cr_sortST (by rfl) (b_sorted T) (by decide +kernel) (pa_cons (pv 7) pa_nil)) pa_nil)) pa_nil)))) pa_nil)))
      (pss_one (ps_aug (i := 3) sc_Marking_init.nd rfl (Or.inl rfl) (pv 5) ip_add)))))
      (pss_cons (ps_f (c_Marking T) (n_Marking_entries T) (pv 0) (pe_callTy call_tuple_of (by rfl) (b_tuple T) (by decide +kernel) (pa_cons (pv 2) pa_nil)))
      (pss_one (ps_f (c_Marking T) (n_Marking_whole T) (pv 0) (pv 3))))))), ?_⟩
    refine ⟨Nat.zero_le _, fun D hD => ?_⟩
    have lv := paired_len pr
    have gD := sm.free hD
    have hpH := sm _ _ hp
    refine ⟨_, rfl, .lst p, vs, rfl, Rd.of (get_new hpH hD), ?_⟩
    refine for_it (walk_enumX (q := .lst p) (xs := vs)) (fun i σ H' => ∃ (z1 z2 z3 z4 : Option V) (Gc : Hp) (ks : List V), σ = [some (.ref x), some (.ref p), some (.ref D), some (.int (wholeOf (es.take i))), z1, z2, z3, z4] ∧ Nw nM G H Gc H' ∧ H' D = some (.lst ks) ∧ Gc D = none ∧ Paired (rEn Gc) ks (es.take i))
      ⟨none, none, none, none, G, [], rfl, (Nw.refl sm).allocH hD, upd_same, gD, .nil⟩ (fun i σ H' _ h => by obtain ⟨z1, z2, z3, z4, Gc, ks, rfl, n, _⟩ := h; exact Rd.of (n.gh _ _ (n.gg _ _ hp))) ?_ ?_
    · rintro i y σ H1 H2 hi ⟨z1, z2, z3, z4, Gc, ks, rfl, n1, hD1, gD1, pr1⟩ ⟨T1, y1, y2, rfl, hT1, rfl, e1, e2⟩
      have e1 := (Option.some.inj e1).symm
      subst e1
      obtain ⟨e, hei, t0, ta, tb, tc, rfl, ht0, rta, rtb, pa, rfl, hpa⟩ := paired_get pr e2
      have rta : ta = .int e.1 := rta
      have rtb : tb = .str e.2.1 := rtb
      subst rta rtb
      have hem := List.mem_of_getElem? hei
      have n2 := n1.allocH (o := .tup [.int (i : Nat), .ref t0]) hT1
      have hD2 := get_new (o := .tup [.int (i : Nat), .ref t0]) hD1 hT1
      have hT2 : upd H1 T1 (.tup [.int (i : Nat), .ref t0]) T1 = some (.tup [.int (i : Nat), .ref t0]) := upd_same
      generalize upd H1 T1 (.tup [.int (i : Nat), .ref t0]) = H2 at n2 hD2 hT2
      have sG := n2.gg.trans n2.gh
      refine ⟨T1, _, rfl, SqT.of hT2, rfl, _, _, rfl, _, _, rfl, t0, _, rfl, SqT.of (sG _ _ ht0), rfl, _, _, rfl, _, _, rfl, _, _, rfl, rfl, rfl, ?_⟩
      have hp1 := En.pos e hem
      obtain ⟨ha1, ha2⟩ := En.acc e hem
      refine ⟨_, rfl, _, _, .type "int", _, true, rfl, .ty "int", .base (.int _), kit_ii, _, rfl, itF (by simp) ?_⟩
      refine ⟨_, rfl, _, _, .type "int", _, false, rfl, .ty "bool", .base (.int _), kit_ib, _, rfl, itF (by simp) ?_⟩
      refine ⟨_, rfl, _, _, rfl, rfl, _, rfl, itF (by simp; omega) ?_⟩
      refine ⟨_, rfl, tyL hD2, _, rfl, _, rfl, _, rfl, pa, e.2.2, rfl, sG _ _ hpa, by omega, fun ys q pm so hq => ?_⟩
      have ey : ys = e.2.2 := srt_uniq (srt_perm so pm ha1.nd) ha1 fun t => pm.mem_iff
      subst ey
      have n3 := n2.allocH (o := .lst (e.2.2.map V.str)) hq
      have hD3 := get_new (o := .lst (e.2.2.map V.str)) hD2 hq
      refine ⟨q, _, rfl, .inl ⟨SqL.of upd_same, fun l hl => ?_⟩⟩
      have n4 := n3.alloc (o := .tup (e.2.2.map V.str)) hl
      have hD4 := get_new (o := .tup (e.2.2.map V.str)) hD3 hl
      refine ⟨len_ok (show 3 ≤ 100000 by decide), fun t ht => ?_⟩
      have n5 := n4.alloc (o := .tup [.int e.1, .str e.2.1, .ref l]) ht
      have hD5 := get_new (o := .tup [.int e.1, .str e.2.1, .ref l]) hD4 ht
      have lk := paired_len pr1
      have sg1 : Same Gc (upd Gc l (.tup (e.2.2.map V.str))) := same_new (n3.gfree hl)
      have sg2 : Same (upd Gc l (.tup (e.2.2.map V.str))) (upd (upd Gc l (.tup (e.2.2.map V.str))) t (.tup [.int e.1, .str e.2.1, .ref l])) := same_new (n4.gfree ht)
      have gD5 : upd (upd Gc l (.tup (e.2.2.map V.str))) t (.tup [.int e.1, .str e.2.1, .ref l]) D = none := by
        rw [upd_ne (ne_of_none hD4 ht), upd_ne (ne_of_none hD3 hl)]
        exact gD1
      refine ⟨D, ks, _, rfl, rfl, hD5, by rw [lk, List.length_take, sizeLine_eq]; have := En.few; omega, ?_⟩
      have tk : es.take (i + 1) = es.take i ++ [e] := by rw [List.take_add_one, hei]; rfl
      refine ⟨_, rfl, _, rfl, _, _, rfl, rfl, some (.int (i : Nat)), some (.int e.1), some (.str e.2.1), some (.ref pa), _, _, ?_, n5.putH hD gD5, upd_same, gD5, ?_⟩
      · rw [tk, whole_snoc]
        rfl
      · rw [tk]
        exact paired_snoc ⟨t, _, _, _, rfl, upd_same, rfl, rfl, l, rfl, sg2 _ _ upd_same⟩ (paired_mono (R := rEn) (sg1.trans sg2) pr1)
    · rintro σ H1 ⟨z1, z2, z3, z4, Gc, ks, rfl, n1, hD1, gD1, pr1⟩
      rw [lv, List.take_length] at pr1
      rw [lv, List.take_length]
      have hx1 := n1.hh _ _ (fun z => z) hx
      refine ⟨_, rfl, D, ks, rfl, .inl ⟨SqL.of hD1, fun l hl => ?_⟩⟩
      have n2 := n1.alloc (o := .tup ks) hl
      have hx2 := get_new (o := .tup ks) hx1 hl
      have nxl : x ≠ l := ne_of_none hx1 hl
      have gx2 : upd Gc l (.tup ks) x = none := by rw [upd_ne nxl]; exact n1.loc hx gx
      refine ⟨_, rfl, x, dx, _, rfl, hx2, by decide, ?_⟩
      refine ⟨_, rfl, _, rfl, x, dx, _, rfl, upd_same, show (1 : Nat) < 1000 by decide, ?_⟩
      rw [upd_upd']
      have n3 := (n2.sub (M := fun c => c = x)).putM (o := .ins (He.ga K "Marking") dx [("entries", .ref l), ("whole", .int (wholeOf es))]) rfl gx2
      have sg : Same Gc (upd (upd Gc l (.tup ks)) x (.ins (He.ga K "Marking") dx [("entries", .ref l), ("whole", .int (wholeOf es))])) := (same_new (n1.gfree hl)).trans (same_new gx2)
      refine k _ _ _ n3 gx2 upd_same ⟨x, dx, l, ks, rfl, upd_same, ?_, paired_mono (R := rEn) sg pr1⟩
      rw [upd_ne (Ne.symm nxl)]
      exact upd_same
def spMkT (K : PySem.W.Frag) : Sp := fun vs H Q _ => ∃ G v es, vs = [v] ∧ Same G H ∧ rMk K G v es ∧ Ents es ∧ ∀ ys, Srt ys → (∀ t, t ∈ ys ↔ ∃ e ∈ es, e.2.1 = t) → Ret nM G H (rTf V.str) ys Q
theorem sc_Marking_texts : FnScope ["self", "weight", "text", "accused"] ["self"] (defScope s_Marking_texts) := ⟨rfl, rfl, rfl, by decide +kernel, rfl, by decide +kernel, by decide +kernel⟩
theorem ok_Marking_texts (T : Tx K mg) : Ok P w K mg base 1 (He.ma K (He.ga K "Marking") "texts") ["self"] (spMkT K) := by
  refine ok_mk (f_Marking_texts T) (df_kp (f_Marking_texts T)) sc_Marking_texts (fun _ _ _ _ _ _ us hl => match us, hl with | [_], _ => rfl) (fun vs H Q E h => ?_) (fun cdv A outer s H vs Q E hr h => ?_)
  · obtain ⟨G, v, es, rfl, _⟩ := h
    rfl
  · obtain ⟨G, v, es, rfl, sm, ⟨a, dx, p, vs, rfl, ha, hp, pr⟩, En, k⟩ := h
    refine ⟨_, (pss_one (ps_ret (pe_callTy call_tuple_of (by rfl) (b_tuple T) (by decide +kernel) (pa_cons (pe_callB (cr_sortedTb rfl) (by rfl) (b_sorted T) (by decide +kernel) (pa_cons (pe_callTy (cr_setL rfl) (by rfl) (b_set T) (by decide +kernel) (pa_cons (pe_lc (own := [("weight", 1), ("text", 2), ("accused", 3)]) (g := (gTup K 3 (gCons (gName 1) (gCons (gName 2) (gCons (gName 3) gNil))))) (tt := tYes) rfl sc_Marking_texts.nd (pi_tup (pe_f (c_Marking T) (n_Marking_entries T) (pv 0))) (blkOk_by (N := ["self", "weight", "text", "accused"]) (sc := defScope s_Marking_texts) (by decide +kernel)) (fun _ _ _ _ _ => (pg_tup rfl (pgs_cons (pg_name (i := 1) sc_Marking_texts.nd rfl (Or.inl rfl)) (pgs_cons (pg_name (i := 2) sc_Marking_texts.nd rfl (Or.inl rfl)) (pgs_cons (pg_name (i := 3) sc_Marking_texts.nd rfl (Or.inl rfl)) pgs_nil))))) (fun _ _ _ _ _ => pts_nil) (fun _ _ _ _ _ => (pv 2))) pa_nil)) pa_nil)) pa_nil)))), ?_⟩
    have hpH := sm _ _ hp
    have lv := paired_len pr
    have fw := En.few
    refine ⟨_, rfl, a, dx, _, _, rfl, sm _ _ ha, rfl, p, rfl, ⟨vs, SqT.of hpH⟩, fun D hD => ?_⟩
    refine lcM (ys := (es.map fun e => e.2.1).map V.str) (walk_tup (xs := vs)) (by simp [lv]) (by omega) (fun l => SqT.of (get_new hpH hD)) (fun i x y l Ky hx hy hk => ?_) ?_
    · obtain ⟨e, hei, t0, ta, tb, tc, rfl, ht0, rta, rtb, pa, rfl, hpa⟩ := paired_get pr hx
      rw [List.getElem?_map, List.getElem?_map, hei] at hy
      have hy := (Option.some.inj hy).symm
      have hy : y = .str e.2.1 := hy
      subst hy
      have rtb : tb = .str e.2.1 := rtb
      subst rtb
      exact ⟨t0, _, rfl, SqT.of (get_new (sm _ _ ht0) hD), rfl, _, _, rfl, _, _, rfl, _, _, rfl, rfl, rfl, _, rfl, hk⟩
    · have n1 := (Nw.refl (M := nM) sm).allocH (o := .lst ((es.map fun e => e.2.1).map V.str)) hD
      refine ⟨D, es.map (fun e => e.2.1), rfl, upd_same, by rw [List.length_map]; omega, fun p2 ks nd mem hp2 => ?_⟩
      have n2 := n1.allocH (o := TbO P w p2 ks) hp2
      refine ⟨p2, ks, rfl, upd_same, Nat.lt_of_le_of_lt (nodup_le nd fun t ht => (mem t).mp ht) (by rw [List.length_map]; omega), fun ys q pm so hq => ?_⟩
      refine ⟨q, _, rfl, .inl ⟨SqL.of upd_same, fun l hl => ?_⟩⟩
      refine k ys (srt_perm so pm nd) (fun t => ?_) _ _ _ ((n2.allocH hq).alloc hl) ⟨l, rfl, upd_same⟩
      rw [pm.mem_iff, mem, List.mem_map]
theorem wr_snoc (es : List Ent) (e : Ent) (t : Str) : (((es ++ [e]).filter fun e => decide (e.2.1 = t)).map fun e => e.1) = ((es.filter fun e => decide (e.2.1 = t)).map fun e => e.1) ++ if e.2.1 = t then [e.1] else [] := by
  rw [List.filter_append, List.map_append]
  congr 1
  by_cases h : e.2.1 = t
  · simp [h]
  · simp [h]
def spMkW (K : PySem.W.Frag) : Sp := fun vs H Q _ => ∃ G v es t, vs = [v, .str t] ∧ Same G H ∧ rMk K G v es ∧ Ents es ∧ 0 < wholeOf es ∧ (wholeOf es).natAbs < 2 ^ 9000 ∧ Ret nM G H (rSh K) ((wrOf es t : Rat) / (wholeOf es : Rat)) Q
theorem sc_Marking_written_share : FnScope ["self", "text", "weight", "own", "accused"] ["self", "text"] (defScope s_Marking_written_share) := ⟨rfl, rfl, rfl, by decide +kernel, rfl, by decide +kernel, by decide +kernel⟩
theorem ok_Marking_written_share (T : Tx K mg) : Ok P w K mg base 4 (He.ma K (He.ga K "Marking") "written_share") ["self", "text"] (spMkW K) := by
  refine ok_mk (f_Marking_written_share T) (df_kp (f_Marking_written_share T)) sc_Marking_written_share (fun _ _ _ _ _ _ us hl => match us, hl with | [_, _], _ => rfl) (fun vs H Q E h => ?_) (fun cdv A outer s H vs Q E hr h => ?_)
  · obtain ⟨G, v, es, t, rfl, _⟩ := h
    rfl
  · obtain ⟨G, v, es, t, rfl, sm, ⟨a, dx, p, vs, rfl, ha, hp, pr⟩, En, wp, wb, k⟩ := h
    refine ⟨_, (pss_one (ps_ret (pe_k (k_Share T) (ok_Share_init T) (hr.mono (by decide)) rfl (g_Share T) (pa_cons (pe_callB (cr_sum rfl) (by rfl) (b_sum T) (by decide +kernel) (pa_cons (pe_lc (own := [("weight", 2), ("own", 3), ("accused", 4)]) (g := (gTup K 3 (gCons (gName 2) (gCons (gName 3) (gCons (gName 4) gNil))))) rfl sc_Marking_written_share.nd (pi_tup (pe_f (c_Marking T) (n_Marking_entries T) (pv 0))) (blkOk_by (N := ["self", "text", "weight", "own", "accused"]) (sc := defScope s_Marking_written_share) (by decide +kernel)) (fun _ _ _ _ _ => (pg_tup rfl (pgs_cons (pg_name (i := 2) sc_Marking_written_share.nd rfl (Or.inl rfl)) (pgs_cons (pg_name (i := 3) sc_Marking_written_share.nd rfl (Or.inl rfl)) (pgs_cons (pg_name (i := 4) sc_Marking_written_share.nd rfl (Or.inl rfl)) pgs_nil))))) (fun _ _ _ _ _ => (pts_one (pt_cmpR op_eq (pv 3) (pv 1) (nomark _)))) (fun _ _ _ _ _ => (pv 2))) pa_nil)) (pa_cons (pe_f (c_Marking T) (n_Marking_whole T) (pv 0)) pa_nil))))), ?_⟩
    have hpH := sm _ _ hp
    have haH := sm _ _ ha
    have lv := paired_len pr
    have fw := En.few
    refine ⟨_, rfl, a, dx, _, _, rfl, haH, rfl, p, rfl, ⟨vs, SqT.of hpH⟩, fun D hD => ?_⟩
    refine lcA (walk_tup (xs := vs)) (fun i => (((es.take i).filter fun e => decide (e.2.1 = t)).map fun e => e.1).map V.int) rfl (by omega) (fun i _ => by
      rw [List.length_map, List.length_map]
      exact Nat.le_trans (List.length_filter_le _ _) (List.length_take_le _ _)) (fun l => SqT.of (get_new hpH hD)) (fun i x H' Ky Kn hi y k1 k2 => ?_) ?_
    · obtain ⟨rfl, hx⟩ := y
      obtain ⟨e, hei, t0, ta, tb, tc, rfl, ht0, rta, rtb, pa, rfl, hpa⟩ := paired_get pr hx
      have rtb : tb = .str e.2.1 := rtb
      have rta : ta = .int e.1 := rta
      subst rtb rta
      have tk : es.take (i + 1) = es.take i ++ [e] := by rw [List.take_add_one, hei]; rfl
      refine ⟨t0, _, rfl, SqT.of (get_new (sm _ _ ht0) hD), rfl, _, _, rfl, _, _, rfl, _, _, rfl, rfl, rfl, ?_⟩
      refine ⟨_, rfl, _, rfl, rfl, _, rfl, ite2 (fun c => ?_) fun c => ?_⟩
      · have c : e.2.1 = t := by
          have c := of_decide_eq_true c
          injection c
        refine ⟨_, rfl, k1 (.int e.1) ?_⟩
        rw [tk, wr_snoc, if_pos c, List.map_append]
        rfl
      · have c : ¬ e.2.1 = t := fun z => c (decide_eq_true (by rw [z]))
        refine k2 ?_
        rw [tk, wr_snoc, if_neg c, List.append_nil]
    · rw [lv, List.take_length]
      have n1 := (Nw.refl (M := nM) sm).allocH (o := .lst ((((es.filter fun e => decide (e.2.1 = t)).map fun e => e.1)).map V.int)) hD
      refine ⟨D, (es.filter fun e => decide (e.2.1 = t)).map (fun e => e.1), rfl, SqL.of upd_same, _, rfl, a, dx, _, _, rfl, get_new haH hD, rfl, ?_⟩
      exact sh_new (M := nM) wp wb n1 k
/-! ### accused_by -/
def spAcB : Sp := fun vs H Q _ => ∃ (G : Hp) (va vb : V) (ac rd : List Str), vs = [va, vb] ∧ Same G H ∧ rTf V.str G va ac ∧ rTf V.str G vb rd ∧ rd.length ≤ 1000 ∧ ∀ H', Nw nM G H G H' → Q (.bl (rd.all fun t => decide (t ∈ ac))) H'
theorem inV_str {c : Str} {g : List Str} : inV (.str c) (g.map V.str) = decide (c ∈ g) := by
  induction g with
  | nil => rfl
  | cons x g ih =>
    have ih : ((g.map V.str).any fun y => eqV y (.str c)) = decide (c ∈ g) := ih
    unfold inV
    rw [List.map_cons, List.any_cons, ih]
    by_cases e : x = c
    · simp [eqV, e]
    · have e' : ¬ c = x := fun z => e z.symm
      simp [eqV, e, e']
theorem flat_strs (g : List Str) : (g.map V.str).all flatV = true := by
  rw [List.all_eq_true]
  intro x hx
  obtain ⟨j, _, rfl⟩ := List.mem_map.mp hx
  rfl
theorem sc_accused_by : FnScope ["accused", "readable", "text"] ["accused", "readable"] (defScope s_accused_by) := ⟨rfl, rfl, rfl, by decide +kernel, rfl, by decide +kernel, by decide +kernel⟩
theorem ok_accused_by (T : Tx K mg) : Ok P w K mg base 1 (He.ga K "accused_by") ["accused", "readable"] spAcB := by
  refine ok_mk (f_accused_by T) (df_kp (f_accused_by T)) sc_accused_by (fun _ _ _ _ _ _ us hl => match us, hl with | [_, _], _ => rfl) (fun vs H Q E h => ?_) (fun cdv A outer s H vs Q E hr h => ?_)
  · obtain ⟨G, va, vb, ac, rd, rfl, _⟩ := h
    rfl
  · obtain ⟨G, va, vb, ac, rd, rfl, sm, ⟨p, rfl, hp⟩, ⟨q, rfl, hq⟩, hl, k⟩ := h
    refine ⟨_, (pss_one (ps_ret (pe_callB (cr_all rfl) (by rfl) (b_all T) (by decide +kernel) (pa_cons (pe_lc (own := [("text", 2)]) (g := (gName 2)) (tt := tYes) rfl sc_accused_by.nd (pi_tup (pv 1)) (blkOk_by (N := ["accused", "readable", "text"]) (sc := defScope s_accused_by) (by decide +kernel)) (fun _ _ _ _ _ => (pg_name (i := 2) sc_accused_by.nd rfl (Or.inl rfl))) (fun _ _ _ _ _ => pts_nil) (fun _ _ _ _ _ => (pe_cmpR (show OpR _ _ (rIn K false) from op_in_seq) (pv 2) (pv 0) (by rfl)))) pa_nil)))), ?_⟩
    have hpH := sm _ _ hp
    have hqH := sm _ _ hq
    refine ⟨_, rfl, q, rfl, ⟨_, SqT.of hqH⟩, fun D hD => ?_⟩
    refine lcM (ys := (rd.map fun t => decide (t ∈ ac)).map V.bl) (walk_tup (xs := rd.map V.str)) (by simp) (by simp; omega) (fun l => SqT.of (get_new hqH hD)) (fun i x y l Ky hx hy hk => ?_) ?_
    · cases hr2 : rd[i]? with
      | none => rw [List.getElem?_map, hr2] at hx; cases hx
      | some t =>
        rw [List.getElem?_map, hr2] at hx
        rw [List.getElem?_map, List.getElem?_map, hr2] at hy
        obtain rfl := (Option.some.inj hx).symm
        obtain rfl := (Option.some.inj hy).symm
        refine ⟨rfl, _, rfl, _, rfl, p, _, rfl, .inr (SqT.of (get_new hpH hD)), rfl, flat_strs ac, ?_⟩
        show Ky (.bl (inV (.str t) (ac.map V.str))) _
        rw [inV_str]
        exact hk
    · refine ⟨D, rd.map (fun t => decide (t ∈ ac)), rfl, SqL.of upd_same, ?_⟩
      have := k _ ((Nw.refl (M := nM) sm).allocH (o := .lst ((rd.map fun t => decide (t ∈ ac)).map V.bl)) hD)
      rw [List.all_map]
      exact this
end
end Mk

-- F2
set_option Elab.async false
set_option linter.all false
set_option maxRecDepth 100000
set_option maxHeartbeats 4000000
set_option exponentiation.threshold 20000
namespace Mk
open PySem PySem.Spec PyProof.Rows L2
open C8 (InsC call_isC)
/-! ### the marking of a row -/
abbrev Kx : Type := Str × List Str × Rat
def restOf (ws : List Wd) (x : Str → Rat) (e : Wd) : Rat := (e.2 : Rat) / (total ws : Rat) - x e.1
def firsts (rows : List Row) (x : Str → Rat) (l : List Wd) : List Kx := (l.filter fun e => decide (0 < x e.1)).map fun e => (e.1, ofR rows e.1, x e.1)
def rests (ws : List Wd) (x : Str → Rat) (l : List Wd) : List Kx := (l.filter fun e => decide (0 < restOf ws x e)).map fun e => (e.1, [], restOf ws x e)
def kxOf (ws : List Wd) (rows : List Row) (x : Str → Rat) : List Kx := firsts rows x ws ++ rests ws x ws
theorem firsts_snoc (rows : List Row) (x : Str → Rat) (l : List Wd) (e : Wd) : firsts rows x (l ++ [e]) = firsts rows x l ++ if 0 < x e.1 then [(e.1, ofR rows e.1, x e.1)] else [] := by
  unfold firsts
  rw [List.filter_append, List.map_append]
  congr 1
  by_cases h : 0 < x e.1
  · simp [h]
  · simp [h]
theorem rests_snoc (ws : List Wd) (x : Str → Rat) (l : List Wd) (e : Wd) : rests ws x (l ++ [e]) = rests ws x l ++ if 0 < restOf ws x e then [(e.1, [], restOf ws x e)] else [] := by
  unfold rests
  rw [List.filter_append, List.map_append]
  congr 1
  by_cases h : 0 < restOf ws x e
  · simp [h]
  · simp [h]
theorem num_pos_iff {q : Rat} : 0 < q ↔ 0 < q.num := by
  constructor
  · exact num_pos'
  · intro h
    rw [Rat.lt_iff]
    simpa using h
/-- the marking in proportion to the row's shares and the rests -/
structure MkOk (ws : List Wd) (rows : List Row) (x : Str → Rat) (es : List Ent) (c : Rat) : Prop where
  c0 : 0 < c
  key : es.map (fun e => (e.2.1, e.2.2)) = (kxOf ws rows x).map fun z => (z.1, z.2.1)
  wt : es.map (fun e => ((e.1 : Int) : Rat)) = (kxOf ws rows x).map fun z => z.2.2 * c
  pos : ∀ e ∈ es, 0 < e.1 ∧ e.1.natAbs < 2 ^ 3900
theorem den_of_mul {q : Rat} {D : Nat} {n : Int} (hD : 0 < D) (h : q * ((D : Int) : Rat) = (n : Rat)) : q.den ∣ D := by
  have d0 : ((D : Int) : Rat) ≠ 0 := int_ne_rat (by omega)
  have e : q = (n : Rat) / ((D : Int) : Rat) := by grind
  have := den_dvd (o := n) (u := (D : Int)) (by omega)
  rw [← e] at this
  simpa using this
theorem mul_of_den {q : Rat} {D : Nat} (h : q.den ∣ D) : ∃ n : Int, q * ((D : Int) : Rat) = (n : Rat) := by
  obtain ⟨m, rfl⟩ := h
  refine ⟨q.num * m, ?_⟩
  rw [Rat.intCast_mul, num_eq q, Int.natCast_mul, Rat.intCast_mul]
  grind
theorem rest_den {ws : List Wd} {x : Str → Rat} {e : Wd} {D : Nat} (W : Wds ws) (hD : 0 < D) (h : (x e.1).den ∣ D) (hW : (total ws).natAbs ∣ D) : (restOf ws x e).den ∣ D := by
  have tp := sum_pos W.pos W.ne
  have tne : (total ws : Rat) ≠ 0 := int_ne_rat (by omega)
  obtain ⟨n, hn⟩ := mul_of_den h
  obtain ⟨m, hm⟩ := hW
  refine den_of_mul (n := e.2 * m - n) hD ?_
  have eD : (D : Int) = total ws * m := by rw [hm, Int.natCast_mul, Int.natAbs_of_nonneg (Int.le_of_lt tp)]
  unfold restOf
  rw [Rat.intCast_sub, Rat.intCast_mul, ← hn, eD, Rat.intCast_mul]
  grind
theorem kx_len {ws : List Wd} {rows : List Row} {x : Str → Rat} (h : ws.length ≤ 8) : (kxOf ws rows x).length ≤ 16 := by
  unfold kxOf
  rw [List.length_append]
  have a1 : (firsts rows x ws).length ≤ 8 := by
    unfold firsts
    rw [List.length_map]
    exact Nat.le_trans (List.length_filter_le _ _) h
  have a2 : (rests ws x ws).length ≤ 8 := by
    unfold rests
    rw [List.length_map]
    exact Nat.le_trans (List.length_filter_le _ _) h
  omega
theorem kx_mem {ws : List Wd} {rows : List Row} {x : Str → Rat} {z : Kx} (h : z ∈ kxOf ws rows x) : ∃ e ∈ ws, 0 < z.2.2 ∧ z.1 = e.1 ∧ ((z.2.1 = ofR rows e.1 ∧ z.2.2 = x e.1) ∨ (z.2.1 = [] ∧ z.2.2 = restOf ws x e)) := by
  rcases List.mem_append.mp h with h | h
  · obtain ⟨e, he, rfl⟩ := List.mem_map.mp h
    obtain ⟨h1, h2⟩ := List.mem_filter.mp he
    exact ⟨e, h1, of_decide_eq_true h2, rfl, .inl ⟨rfl, rfl⟩⟩
  · obtain ⟨e, he, rfl⟩ := List.mem_map.mp h
    obtain ⟨h1, h2⟩ := List.mem_filter.mp he
    exact ⟨e, h1, of_decide_eq_true h2, rfl, .inr ⟨rfl, rfl⟩⟩
def zipE : List Int → List Kx → List Ent
  | w :: ws, z :: zs => (w, z.1, z.2.1) :: zipE ws zs
  | _, _ => []
theorem zipE_key : ∀ {ws : List Int} {zs : List Kx}, ws.length = zs.length → (zipE ws zs).map (fun e => (e.2.1, e.2.2)) = zs.map fun z => (z.1, z.2.1)
  | [], [], _ => rfl
  | w :: ws, z :: zs, h => by
    rw [zipE, List.map_cons, List.map_cons, zipE_key (by simpa using h)]
theorem zipE_wt : ∀ {ws : List Int} {zs : List Kx}, ws.length = zs.length → (zipE ws zs).map (fun e => e.1) = ws
  | [], [], _ => rfl
  | w :: ws, z :: zs, h => by rw [zipE, List.map_cons, zipE_wt (by simpa using h)]
theorem zipE_get : ∀ {ws : List Int} {zs : List Kx} {i : Nat} {w : Int} {z : Kx}, ws[i]? = some w → zs[i]? = some z → (zipE ws zs)[i]? = some (w, z.1, z.2.1)
  | [], _, i, w, z, h, _ => by simp at h
  | _ :: _, [], i, w, z, _, h => by simp at h
  | a :: ws, b :: zs, 0, w, z, h, h' => by
    have h := Option.some.inj h
    have h' := Option.some.inj h'
    subst h h'
    rfl
  | a :: ws, b :: zs, i + 1, w, z, h, h' => by
    rw [zipE]
    simpa using zipE_get (ws := ws) (zs := zs) (i := i) (by simpa using h) (by simpa using h')
section
variable {P : Program} {w : World} {K : PySem.W.Frag} {mg : Str → Option Value} {base : Heap}
theorem sh_fns (T : Tx K mg) : PySem.W.isFn K (.ref (He.ma K (He.ga K "Share") "__sub__")) = true := (m_Share___sub__ T).fn
theorem sh_fn (T : Tx K mg) : PySem.W.isFn K (.ref (He.ma K (He.ga K "Share") "__eq__")) = true := (m_Share___eq__ T).fn
theorem sh_ob (T : Tx K mg) : PySem.W.mroIn K (He.ga K "Share") (.type "object") = some true := (in_Share T).hm
def spMoR (K : PySem.W.Frag) : Sp := fun vs H Q _ => ∃ (G : Hp) (sv cv rv : V) (ws : List Wd) (rows : List Row) (x : Str → Rat) (D : Nat), vs = [sv, cv, rv] ∧ Same G H ∧ rSrc K G sv ws ∧ rCh K G cv rows ∧ Inst ws rows ∧ rTup (rPr rStr (rSh K)) G rv (ws.map fun e => (e.1, x e.1)) ∧
  0 < D ∧ D < 2 ^ 364 ∧ (∀ e ∈ ws, (x e.1).den ∣ D) ∧ (total ws).natAbs ∣ D ∧ (∀ e ∈ ws, 0 ≤ x e.1 ∧ 0 ≤ restOf ws x e) ∧ ∀ es c, MkOk ws rows x es c → Ret nM G H (rMk K) es Q
theorem sc_marking_of_row : FnScope ["source", "changes", "row", "keys", "parts", "text", "share", "rest", "weights", "at"] ["source", "changes", "row"] (defScope s_marking_of_row) := ⟨rfl, rfl, rfl, by decide +kernel, rfl, by decide +kernel, by decide +kernel⟩
theorem ok_marking_of_row (T : Tx K mg) : Ok P w K mg base 6 (He.ga K "marking_of_row") ["source", "changes", "row"] (spMoR K) := by
  refine ok_mk (f_marking_of_row T) (df_kp (f_marking_of_row T)) sc_marking_of_row (fun _ _ _ _ _ _ us hl => match us, hl with | [_, _, _], _ => rfl) (fun vs H Q E h => ?_) (fun cdv A outer s H vs Q E hr h => ?_)
  · obtain ⟨G, sv, cv, rv, ws, rows, x, D, rfl, _⟩ := h
    rfl
  · obtain ⟨G, sv, cv, rv, ws, rows, x, D, rfl, sm, rs, rc, I, ⟨pr, rvs, rfl, hpr, prr⟩, hD, sD, hx, hWD, hnn, k⟩ := h
    refine ⟨_, (pss_cons (ps_expr (pe_c (ok_known T) (hr.mono (by decide)) rfl (g_known T) (pa_cons (pv 0) (pa_cons (pv 1) pa_nil))))
      (pss_cons (ps_set (i := 3) sc_marking_of_row.nd rfl (Or.inr rfl) (pe_lst pa_nil))
      (pss_cons (ps_set (i := 4) sc_marking_of_row.nd rfl (Or.inl rfl) (pe_lst pa_nil))
      (pss_cons (ps_for PassesOwn.never rfl (pi_tup (pv 2)) (pg_tup rfl (pgs_cons (pg_name (i := 5) sc_marking_of_row.nd rfl (Or.inl rfl)) (pgs_cons (pg_name (i := 6) sc_marking_of_row.nd rfl (Or.inl rfl)) pgs_nil)))
      (pss_one (ps_if (pt_cmpR op_gt (pe_f (c_Share T) (n_Share_over T) (pv 6)) pe_int (nomark _))
        (pss_cons (ps_expr (pe_bm PySem.F.plainAttrs_list PySem.F.slot_list_append PySem.F.type_list_append mt_append (pv 3) (pa_cons (pe_tup (pa_cons (pv 5) (pa_cons (pe_m (pv 1) (c_Changes T) (m_Changes_of T) (ok_Changes_of T) (hr.mono (by decide)) (pa_cons (pv 5) pa_nil)) pa_nil))) pa_nil)))
      (pss_one (ps_expr (pe_bm PySem.F.plainAttrs_list PySem.F.slot_list_append PySem.F.type_list_append mt_append (pv 4) (pa_cons (pv 6) pa_nil)))))
        pss_nil)))
      (pss_cons (ps_for PassesOwn.never rfl (pi_tup (pv 2)) (pg_tup rfl (pgs_cons (pg_name (i := 5) sc_marking_of_row.nd rfl (Or.inl rfl)) (pgs_cons (pg_name (i := 6) sc_marking_of_row.nd rfl (Or.inl rfl)) pgs_nil)))
      (pss_cons (ps_set (i := 7) sc_marking_of_row.nd rfl (Or.inl rfl) (pe_op (op_subOwn (ok_Share_sub T) (hr.mono (by decide)) (sh_sub T) (sh_fns T) (sh_first T)) (pe_src_share_of (K := K) rfl (pe_m (pv 0) (c_Table T) (m_Table_share_of T) (ok_Table_share_of T) (hr.mono (by decide)) (pa_cons (pv 5) pa_nil)) (pe_m (pv 0) (c_Machine T) (m_Machine_share_of T) (ok_Machine_share_of T) (hr.mono (by decide)) (pa_cons (pv 5) pa_nil))) (pv 6)))
      (pss_one (ps_if (pt_cmpR op_gt (pe_f (c_Share T) (n_Share_over T) (pv 7)) pe_int (nomark _))
        (pss_cons (ps_expr (pe_bm PySem.F.plainAttrs_list PySem.F.slot_list_append PySem.F.type_list_append mt_append (pv 3) (pa_cons (pe_tup (pa_cons (pv 5) (pa_cons (pe_tup pa_nil) pa_nil))) pa_nil)))
      (pss_one (ps_expr (pe_bm PySem.F.plainAttrs_list PySem.F.slot_list_append PySem.F.type_list_append mt_append (pv 4) (pa_cons (pv 7) pa_nil)))))
        pss_nil))))
      (pss_cons (ps_set (i := 8) sc_marking_of_row.nd rfl (Or.inr rfl) (pe_c (ok_whole_parts T) (hr.mono (by decide)) rfl (g_whole_parts T) (pa_cons (pv 4) pa_nil)))
      (pss_one (ps_ret (pe_k (k_Marking T) (ok_Marking_init T) (hr.mono (by decide)) rfl (g_Marking T) (pa_cons (pe_lc (own := [("at", 9)]) (g := (gName 9)) (tt := tYes) rfl sc_marking_of_row.nd (pi_range1 (by rfl) (b_range T) (pa_cons (pe_callB call_len_seq (by rfl) (b_len T) (by decide +kernel) (pa_cons (pv 3) pa_nil)) pa_nil)) (blkOk_by (N := ["source", "changes", "row", "keys", "parts", "text", "share", "rest", "weights", "at"]) (sc := defScope s_marking_of_row) (by decide +kernel)) (fun _ _ _ _ _ => (pg_name (i := 9) sc_marking_of_row.nd rfl (Or.inl rfl))) (fun _ _ _ _ _ => pts_nil) (fun _ _ _ _ _ => (pe_tup (pa_cons (pe_ix (show IxR _ (rIxT K) from ix_tup) (pv 8) (pv 9) (fun _ _ => rfl)) (pa_cons (pe_ix (show IxR _ (rIxT K) from ix_tup) (pe_ix (show IxR _ (rIxL K) from ix_list) (pv 3) (pv 9) (fun _ _ => rfl)) pe_int (fun _ _ => rfl)) (pa_cons (pe_ix (show IxR _ (rIxT K) from ix_tup) (pe_ix (show IxR _ (rIxL K) from ix_list) (pv 3) (pv 9) (fun _ _ => rfl)) pe_int (fun _ _ => rfl)) pa_nil)))))) pa_nil)))))))))), ?_⟩
    have W := I.W
    have n8 := I.n8
    have lr := paired_len prr
    rw [List.length_map] at lr
    have x1 : ∀ e ∈ ws, x e.1 ≤ 1 ∧ restOf ws x e ≤ 1 := fun e he => by
      have h1 := hnn e he
      have tp := sum_pos W.pos W.ne
      have hle : (e.2 : Rat) / (total ws : Rat) ≤ 1 := div_le_of (int_pos_rat tp) (by rw [Rat.one_mul]; exact int_le_rat (mem_le W.pos e he))
      unfold restOf at h1 ⊢
      constructor <;> grind
    refine ⟨_, rfl, _, rfl, G, sv, cv, ws, rows, rfl, sm, rs, W, rc, I.R.nd, I.has, fun G1 H1 n1 => ?_⟩
    obtain ⟨ca, cdx, cd, kvs, rfl, hca, hcd, pkc⟩ := id rc
    have hpr1 := n1.gh _ _ (n1.gg _ _ hpr)
    refine ⟨Nat.zero_le _, fun pK hK => ?_⟩
    have m1 := (Nw.refl (M := nM) n1.gh).allocH (o := .lst []) hK
    refine ⟨Nat.zero_le _, fun pP hP => ?_⟩
    have m2 := m1.allocH (o := .lst []) hP
    have nKP : pK ≠ pP := ne_of_none (show upd H1 pK (.lst []) pK = some (.lst []) from upd_same) hP
    have hP1 := m1.dom _ hP
    have gK := n1.gh.free hK
    have gP := n1.gh.free hP1
    have prr1 := paired_mono (R := rPr rStr (rSh K)) n1.gg prr
    have el : ∀ (Gc Hc : Hp), Same Gc Hc → ∀ {i : Nat} {v : V}, rvs[i]? = some v → Same G1 Gc → ∃ e t a dx, ws[i]? = some e ∧ v = .ref t ∧ Hc t = some (.tup [.str e.1, .ref a]) ∧ Gc a = some (shO K dx (x e.1)) ∧ e ∈ ws := fun Gc Hc s2 i v hv s1 => by
      obtain ⟨z, hz, t, va, vb, rfl, ht, hva, a, dx, rfl, ha⟩ := paired_get prr1 hv
      rw [List.getElem?_map] at hz
      cases hw : ws[i]? with
      | none => rw [hw] at hz; cases hz
      | some e =>
        rw [hw] at hz
        obtain rfl := (Option.some.inj hz).symm
        have hva : va = .str e.1 := hva
        subst hva
        exact ⟨e, t, a, dx, rfl, rfl, s2 _ _ (s1 _ _ ht), s1 _ _ ha, List.mem_of_getElem? hw⟩
    refine ⟨_, rfl, pr, rfl, ⟨rvs, SqT.of (m2.hh _ _ (fun z => z) hpr1)⟩, ?_⟩
    refine for_it (walk_tup (xs := rvs)) (fun i σ H' => ∃ (z1 z2 : Option V) (Gc : Hp) (ks ps : List V), σ = [some sv, some (.ref ca), some (.ref pr), some (.ref pK), some (.ref pP), z1, z2, none, none, none] ∧ Nw nM G1 H1 Gc H' ∧ H' pK = some (.lst ks) ∧ H' pP = some (.lst ps) ∧ Gc pK = none ∧ Gc pP = none ∧
        Paired (rPr rStr (rTf V.str) Gc) ks ((firsts rows x (ws.take i)).map fun z => (z.1, z.2.1)) ∧ Paired (rSh K Gc) ps ((firsts rows x (ws.take i)).map fun z => z.2.2))
      ⟨none, none, G1, [], [], rfl, m2, get_new upd_same hP, upd_same, gK, gP, .nil, .nil⟩ (fun i σ H' _ h => by obtain ⟨z1, z2, Gc, ks, ps, rfl, n, _⟩ := h; exact SqT.of (n.hh _ _ (fun z => z) hpr1)) ?_ ?_
    · rintro i v σ H2 H3 hi ⟨z1, z2, Gc, ks, ps, rfl, n2, hK2, hP2, gK2, gP2, pK2, pP2⟩ ⟨rfl, hv⟩
      obtain ⟨e, t, a, dx, hw, rfl, ht, ha, hem⟩ := el Gc _ n2.gh hv n2.gg
      have tk : ws.take (i + 1) = ws.take i ++ [e] := by rw [List.take_add_one, hw]; rfl
      refine ⟨t, _, rfl, SqT.of ht, rfl, _, _, rfl, _, _, rfl, rfl, ?_⟩
      refine ⟨_, rfl, a, dx, _, _, rfl, n2.gh _ _ ha, rfl, _, _, rfl, rfl, _, rfl, ite2 (fun c => ?_) fun c => ?_⟩
      · have c : 0 < x e.1 := num_pos_iff.mpr (of_decide_eq_true c)
        obtain ⟨r, hrm, er⟩ := List.mem_map.mp (I.has e hem)
        refine ⟨_, rfl, tyL hK2, _, rfl, _, rfl, ca, cdx, _, rfl, n2.gh _ _ (n2.gg _ _ (n1.gg _ _ hca)), rfl, _, rfl, Gc, _, rows, r, by rw [er], n2.gh, Mono.mono (n1.gg.trans n2.gg) rc, I.R.nd, hrm, fun u ru => ?_⟩
        obtain ⟨pu, rfl, hpu⟩ := ru
        refine ⟨len_ok (show 2 ≤ 100000 by decide), fun l hl => ?_⟩
        have n3 := n2.alloc (o := .tup [.str e.1, .ref pu]) hl
        have sg : Same Gc (upd Gc l (.tup [.str e.1, .ref pu])) := same_new (n2.gfree hl)
        have gK3 : upd Gc l (.tup [.str e.1, .ref pu]) pK = none := by rw [upd_ne (ne_of_none hK2 hl)]; exact gK2
        have gP3 : upd Gc l (.tup [.str e.1, .ref pu]) pP = none := by rw [upd_ne (ne_of_none hP2 hl)]; exact gP2
        have lK := paired_len pK2
        have lP := paired_len pP2
        have fl : (firsts rows x (ws.take i)).length ≤ 8 := by
          unfold firsts
          rw [List.length_map]
          exact Nat.le_trans (List.length_filter_le _ _) (by rw [List.length_take]; omega)
        rw [List.length_map] at lK lP
        have hK3 := get_new (o := .tup [.str e.1, .ref pu]) hK2 hl
        have hP3 := get_new (o := .tup [.str e.1, .ref pu]) hP2 hl
        refine ⟨pK, ks, _, rfl, rfl, hK3, by rw [sizeLine_eq]; omega, ?_⟩
        have hP4 : upd (upd H3 l (.tup [.str e.1, .ref pu])) pK (.lst (ks ++ [.ref l])) pP = some (.lst ps) := by rw [upd_ne (Ne.symm nKP)]; exact hP3
        refine ⟨_, rfl, tyL hP4, _, rfl, pP, ps, _, rfl, rfl, hP4, by rw [sizeLine_eq]; omega, ?_⟩
        refine ⟨some (.str e.1), some (.ref a), _, ks ++ [.ref l], ps ++ [.ref a], rfl, (n3.putH hK gK3).putH hP1 gP3, ?_, upd_same, gK3, gP3, ?_, ?_⟩
        · rw [upd_ne nKP]; exact upd_same
        · rw [tk, firsts_snoc, if_pos c, List.map_append]
          refine paired_snoc ⟨l, _, _, rfl, upd_same, rfl, pu, rfl, ?_⟩ (paired_mono (R := rPr rStr (rTf V.str)) sg pK2)
          have eo : ofR rows e.1 = r.2 := by rw [← er]; exact ofR_eq I.R.nd hrm
          show upd Gc l (.tup [.str e.1, .ref pu]) pu = some (.tup ((ofR rows e.1).map V.str))
          rw [eo]
          exact sg _ _ hpu
        · rw [tk, firsts_snoc, if_pos c, List.map_append]
          exact paired_snoc ⟨a, dx, rfl, sg _ _ ha⟩ (paired_mono (R := rSh K) sg pP2)
      · have c : ¬ 0 < x e.1 := fun z => c (decide_eq_true (num_pos_iff.mp z))
        refine ⟨some (.str e.1), some (.ref a), Gc, ks, ps, rfl, n2, hK2, hP2, gK2, gP2, ?_, ?_⟩
        · rw [tk, firsts_snoc, if_neg c, List.append_nil]; exact pK2
        · rw [tk, firsts_snoc, if_neg c, List.append_nil]; exact pP2
    · rintro σ H2 ⟨z1, z2, Gc, ks, ps, rfl, n2, hK2, hP2, gK2, gP2, pK2, pP2⟩
      rw [lr, List.take_length] at pK2 pP2
      refine ⟨_, rfl, pr, rfl, ⟨rvs, SqT.of (n2.hh _ _ (fun z => z) hpr1)⟩, ?_⟩
      refine for_it (walk_tup (xs := rvs)) (fun i σ H' => ∃ (z1 z2 z3 : Option V) (Gc : Hp) (ks ps : List V), σ = [some sv, some (.ref ca), some (.ref pr), some (.ref pK), some (.ref pP), z1, z2, z3, none, none] ∧ Nw nM G1 H1 Gc H' ∧ H' pK = some (.lst ks) ∧ H' pP = some (.lst ps) ∧ Gc pK = none ∧ Gc pP = none ∧
          Paired (rPr rStr (rTf V.str) Gc) ks ((firsts rows x ws ++ rests ws x (ws.take i)).map fun z => (z.1, z.2.1)) ∧ Paired (rSh K Gc) ps ((firsts rows x ws ++ rests ws x (ws.take i)).map fun z => z.2.2))
        ⟨z1, z2, none, Gc, ks, ps, rfl, n2, hK2, hP2, gK2, gP2, by simpa [rests] using pK2, by simpa [rests] using pP2⟩ (fun i σ H' _ h => by obtain ⟨z1, z2, z3, Gc, ks, ps, rfl, n, _⟩ := h; exact SqT.of (n.hh _ _ (fun z => z) hpr1)) ?_ ?_
      · rintro i v σ H3 H4 hi ⟨z1, z2, z3, Gc, ks, ps, rfl, n3, hK3, hP3, gK3, gP3, pK3, pP3⟩ ⟨rfl, hv⟩
        obtain ⟨e, t, a, dx, hw, rfl, ht, ha, hem⟩ := el Gc _ n3.gh hv n3.gg
        have tk : ws.take (i + 1) = ws.take i ++ [e] := by rw [List.take_add_one, hw]; rfl
        have s13 := n1.gg.trans n3.gg
        refine ⟨t, _, rfl, SqT.of ht, rfl, _, _, rfl, _, _, rfl, rfl, ?_⟩
        refine ⟨sv, rfl, Gc, ws, e, rfl, n3.gh, Mono.mono s13 rs, W, hem, fun vq G4 H4' n4 rq => ?_⟩
        obtain ⟨b, dy, rfl, hb⟩ := id rq
        have ha4 := n4.gg _ _ ha
        have tp := sum_pos W.pos W.ne
        refine ⟨_, rfl, b, a, dy, dx, _, _, rfl, rfl, n4.gh _ _ hb, n4.gh _ _ ha4, G4, _, _, _, _, rfl, n4.gh, rq, ⟨a, dx, rfl, ha4⟩, bq_of tp (pow_up (wd_big W hem) (by decide)) (pow_up W.big (by decide)), (bq_unit (hnn e hem).1 (x1 e hem).1 (hx e hem) hD sD).mono (by decide), fun vr G5 H5 n5 rr => ?_⟩
        have n35 := (n3.trans n4).trans n5
        have hK5 := n5.hh _ _ (fun z => z) (n4.hh _ _ (fun z => z) hK3)
        have hP5 := n5.hh _ _ (fun z => z) (n4.hh _ _ (fun z => z) hP3)
        have gK5 := n5.loc (n4.hh _ _ (fun z => z) hK3) (n4.loc hK3 gK3)
        have gP5 := n5.loc (n4.hh _ _ (fun z => z) hP3) (n4.loc hP3 gP3)
        have sg5 := n4.gg.trans n5.gg
        obtain ⟨rb, rdx, rfl, hrb⟩ := id rr
        refine ⟨_, rfl, rb, rdx, _, _, rfl, n5.gh _ _ hrb, rfl, _, _, rfl, rfl, _, rfl, ite2 (fun c => ?_) fun c => ?_⟩
        · have c : 0 < restOf ws x e := num_pos_iff.mpr (of_decide_eq_true c)
          refine ⟨_, rfl, tyL hK5, _, rfl, Nat.zero_le _, fun l0 hl0 => ?_⟩
          have n6 := n35.alloc (o := .tup []) hl0
          refine ⟨len_ok (show 2 ≤ 100000 by decide), fun l hl => ?_⟩
          have n7 := n6.alloc (o := .tup [.str e.1, .ref l0]) hl
          have sa : Same G5 (upd G5 l0 (.tup [])) := same_new (n35.gfree hl0)
          have sb : Same (upd G5 l0 (.tup [])) (upd (upd G5 l0 (.tup [])) l (.tup [.str e.1, .ref l0])) := same_new (n6.gfree hl)
          have hK6 := get_new (o := .tup [.str e.1, .ref l0]) (get_new (o := .tup []) hK5 hl0) hl
          have hP6 := get_new (o := .tup [.str e.1, .ref l0]) (get_new (o := .tup []) hP5 hl0) hl
          have gK6 : upd (upd G5 l0 (.tup [])) l (.tup [.str e.1, .ref l0]) pK = none := by
            rw [upd_ne (ne_of_none (get_new (o := .tup []) hK5 hl0) hl), upd_ne (ne_of_none hK5 hl0)]; exact gK5
          have gP6 : upd (upd G5 l0 (.tup [])) l (.tup [.str e.1, .ref l0]) pP = none := by
            rw [upd_ne (ne_of_none (get_new (o := .tup []) hP5 hl0) hl), upd_ne (ne_of_none hP5 hl0)]; exact gP5
          have lK := paired_len pK3
          have lP := paired_len pP3
          have fl : (firsts rows x ws ++ rests ws x (ws.take i)).length ≤ 16 := by
            rw [List.length_append]
            have a1 : (firsts rows x ws).length ≤ 8 := by
              unfold firsts
              rw [List.length_map]
              exact Nat.le_trans (List.length_filter_le _ _) n8
            have a2 : (rests ws x (ws.take i)).length ≤ 8 := by
              unfold rests
              rw [List.length_map]
              exact Nat.le_trans (List.length_filter_le _ _) (by rw [List.length_take]; omega)
            omega
          rw [List.length_map] at lK lP
          refine ⟨pK, ks, _, rfl, rfl, hK6, by rw [sizeLine_eq]; omega, ?_⟩
          have hP7 : upd (upd (upd H5 l0 (.tup [])) l (.tup [.str e.1, .ref l0])) pK (.lst (ks ++ [.ref l])) pP = some (.lst ps) := by rw [upd_ne (Ne.symm nKP)]; exact hP6
          refine ⟨_, rfl, tyL hP7, _, rfl, pP, ps, _, rfl, rfl, hP7, by rw [sizeLine_eq]; omega, ?_⟩
          have sg := sg5.trans (sa.trans sb)
          refine ⟨some (.str e.1), some (.ref a), some (.ref rb), _, ks ++ [.ref l], ps ++ [.ref rb], rfl, (n7.putH hK gK6).putH hP1 gP6, ?_, upd_same, gK6, gP6, ?_, ?_⟩
          · rw [upd_ne nKP]; exact upd_same
          · rw [tk, rests_snoc, if_pos c, ← List.append_assoc, List.map_append]
            exact paired_snoc ⟨l, _, _, rfl, upd_same, rfl, l0, rfl, sb _ _ upd_same⟩ (paired_mono (R := rPr rStr (rTf V.str)) sg pK3)
          · rw [tk, rests_snoc, if_pos c, ← List.append_assoc, List.map_append]
            exact paired_snoc (Mono.mono (R := rSh K) (sa.trans sb) rr) (paired_mono (R := rSh K) sg pP3)
        · have c : ¬ 0 < restOf ws x e := fun z => c (decide_eq_true (num_pos_iff.mp z))
          refine ⟨some (.str e.1), some (.ref a), some (.ref rb), G5, ks, ps, rfl, n35, hK5, hP5, gK5, gP5, ?_, ?_⟩
          · rw [tk, rests_snoc, if_neg c, List.append_nil]; exact paired_mono (R := rPr rStr (rTf V.str)) sg5 pK3
          · rw [tk, rests_snoc, if_neg c, List.append_nil]; exact paired_mono (R := rSh K) sg5 pP3
      · rintro σ H3 ⟨z1, z2, z3, Gc, ks, ps, rfl, n3, hK3, hP3, gK3, gP3, pK3, pP3⟩
        rw [lr, List.take_length] at pK3 pP3
        have pK3 : Paired (rPr rStr (rTf V.str) Gc) ks ((kxOf ws rows x).map fun z => (z.1, z.2.1)) := pK3
        have pP3 : Paired (rSh K Gc) ps ((kxOf ws rows x).map fun z => z.2.2) := pP3
        have n4 := (n3.frz hK hK3).frz hP1 hP3
        have gP4 : upd Gc pK (.lst ks) pP = none := by rw [upd_ne (Ne.symm nKP)]; exact gP3
        have s4 : Same Gc (upd (upd Gc pK (.lst ks)) pP (.lst ps)) := (same_new gK3).trans (same_new gP4)
        have hK4 : upd (upd Gc pK (.lst ks)) pP (.lst ps) pK = some (.lst ks) := by rw [upd_ne nKP]; exact upd_same
        have hP4 : upd (upd Gc pK (.lst ks)) pP (.lst ps) pP = some (.lst ps) := upd_same
        have pK4 := paired_mono (R := rPr rStr (rTf V.str)) s4 pK3
        have pP4 := paired_mono (R := rSh K) s4 pP3
        generalize upd (upd Gc pK (.lst ks)) pP (.lst ps) = G4 at n4 hK4 hP4 pK4 pP4
        have kl := kx_len (rows := rows) (x := x) n8
        have lK := paired_len pK4
        rw [List.length_map] at lK
        refine ⟨_, rfl, G4, .ref pP, (kxOf ws rows x).map fun z : Kx => z.2.2, D, rfl, n4.gh, ⟨pP, ps, rfl, hP4, pP4⟩, by rw [List.length_map]; omega, hD, Nat.lt_of_lt_of_le sD (Nat.pow_le_pow_right (by decide) (by decide)), fun q hq => ?_, fun wts c c0 hmap hpos vw G5 H5 n5 rw5 => ?_⟩
        · obtain ⟨z, hz, rfl⟩ := List.mem_map.mp hq
          obtain ⟨e, he, z0, _, h⟩ := kx_mem hz
          rcases h with ⟨_, h⟩ | ⟨_, h⟩
          · exact ⟨z0, by rw [h]; exact (x1 e he).1, by rw [h]; exact hx e he⟩
          · exact ⟨z0, by rw [h]; exact (x1 e he).2, by rw [h]; exact rest_den W hD (hx e he) hWD⟩
        · obtain ⟨pw, rfl, hpw⟩ := rw5
          have lw : wts.length = (kxOf ws rows x).length := by
            have := congrArg List.length hmap
            simpa using this
          have n45 := n4.trans n5
          have hK5 := n5.hh _ _ (fun z => z) (n4.gh _ _ hK4)
          refine ⟨_, rfl, pK, ks, rfl, .inl (SqL.of hK5), _, rfl, by omega, by omega, fun D2 hD2 => ?_⟩
          rw [Int.toNat_natCast]
          have pK5 := paired_mono (R := rPr rStr (rTf V.str)) n5.gg pK4
          have hw5 := n5.gh _ _ hpw
          refine lc_I walk_range (M := nM) (G := G5) rEn (fun i ys _ _ => ys = (zipE wts (kxOf ws rows x)).take i) hD2 n5.gh (by omega) (fun i ys Gc Hc o _ h => h) rfl (fun _ _ _ => trivial) (fun z => z) (fun i y ys Gd Hd H' Ky Kn hi n6 h yy k1 k2 => ?_) ?_
          · obtain ⟨rfl, rfl⟩ := yy
            have hki : ks[i]? = some ks[i] := List.getElem?_eq_getElem hi
            obtain ⟨z, hz, t, va, vb, et, ht, hva, pa, rfl, hpa⟩ := paired_get pK5 hki
            rw [List.getElem?_map] at hz
            cases hkx : (kxOf ws rows x)[i]? with
            | none => rw [hkx] at hz; cases hz
            | some zz =>
              rw [hkx] at hz
              obtain rfl := (Option.some.inj hz).symm
              have hva : va = .str zz.1 := hva
              subst hva
              have hwi : wts[i]? = some wts[i] := List.getElem?_eq_getElem (by omega)
              have hwd := n6.hh _ _ (fun z => z) hw5
              have hKd := n6.hh _ _ (fun z => z) hK5
              have htd := n6.hh _ _ (fun z => z) (n5.gh _ _ ht)
              have eK : atI ks (0 + (i : Int)) = some (.ref t) := by rw [Int.zero_add, at_nat hi, hki, et]
              have eW : atI (wts.map V.int) (0 + (i : Int)) = some (.int wts[i]) := by rw [Int.zero_add, at_nat (by rw [List.length_map]; omega), List.getElem?_map, hwi]; rfl
              refine ⟨rfl, yes_ok ?_⟩
              refine ⟨_, rfl, _, rfl, pw, _, _, _, rfl, rfl, SqT.of hwd, eW, _, rfl, _, rfl, pK, _, _, _, rfl, rfl, SqL.of hKd, eK, t, _, _, _, rfl, rfl, SqT.of htd, rfl, _, rfl, _, rfl, pK, _, _, _, rfl, rfl, SqL.of hKd, eK, t, _, _, _, rfl, rfl, SqT.of htd, rfl, len_ok (show 3 ≤ 100000 by decide), fun u hu => ?_⟩
              refine k1 _ _ _ (wts[i], zz.1, zz.2.1) ((Nw.refl n6.gh).alloc hu) ⟨u, _, _, _, rfl, upd_same, rfl, rfl, pa, rfl, ?_⟩ ?_
              · exact (same_new (n6.gfree hu)) _ _ (n6.gg _ _ hpa)
              · rw [h, List.take_add_one, zipE_get hwi hkx]
                rfl
          · rintro ys vs Gd Hd n6 h hDd gDd pr6
            have el : (zipE wts (kxOf ws rows x)).length = (kxOf ws rows x).length := by
              have := congrArg List.length (zipE_key lw)
              simpa using this
            rw [List.take_of_length_le (by rw [el]; omega)] at h
            subst h
            have ep : ∀ e ∈ zipE wts (kxOf ws rows x), e.1 ∈ wts ∧ ∃ z ∈ kxOf ws rows x, z.1 = e.2.1 ∧ z.2.1 = e.2.2 := fun e he => by
              refine ⟨?_, ?_⟩
              · have : e.1 ∈ (zipE wts (kxOf ws rows x)).map (fun e => e.1) := List.mem_map.mpr ⟨e, he, rfl⟩
                rw [zipE_wt lw] at this
                exact this
              · have : (e.2.1, e.2.2) ∈ (zipE wts (kxOf ws rows x)).map (fun e => (e.2.1, e.2.2)) := List.mem_map.mpr ⟨e, he, rfl⟩
                rw [zipE_key lw] at this
                obtain ⟨z, hz, ez⟩ := List.mem_map.mp this
                injection ez with e1 e2
                exact ⟨z, hz, e1, e2⟩
            have mk : MkOk ws rows x (zipE wts (kxOf ws rows x)) c := ⟨c0, zipE_key lw, by
              have a : (zipE wts (kxOf ws rows x)).map (fun e => ((e.1 : Int) : Rat)) = ((zipE wts (kxOf ws rows x)).map (fun e => e.1)).map fun z : Int => (z : Rat) := by rw [List.map_map]; rfl
              rw [a, zipE_wt lw, hmap, List.map_map]
              rfl, fun e he => hpos _ (ep e he).1⟩
            have En : Ents (zipE wts (kxOf ws rows x)) := ⟨fun e he => by have := (hpos _ (ep e he).1).1; omega, fun e he => by
              obtain ⟨z, hz, e1, e2⟩ := (ep e he).2
              obtain ⟨ee, hee, _, _, h⟩ := kx_mem hz
              rw [← e2]
              rcases h with ⟨h, _⟩ | ⟨h, _⟩
              · rw [h]
                obtain ⟨r', hr', er'⟩ := List.mem_map.mp (I.has ee hee)
                rw [← er', ofR_eq I.R.nd hr']
                exact ⟨(I.R.row r' hr').1, (I.R.row r' hr').2.2⟩
              · rw [h]
                exact ⟨List.Pairwise.nil, Nat.zero_le _⟩, by rw [el]; omega⟩
            have n7 := n6.frz hD2 hDd
            have pr7 := paired_mono (R := rEn) (same_new (o := .lst vs) gDd) pr6
            have hD7 : upd Gd D2 (.lst vs) D2 = some (.lst vs) := upd_same
            have nT := (n1.trans n45).trans n7
            intro x0 dx0 hx0 hdx0 ne0
            refine ⟨x0, dx0, _, .ref D2, _, rfl, (nT.obj hx0 hdx0 ne0).gh, upd_same, nT.gfree hx0, ⟨D2, vs, rfl, hD7, pr7⟩, En, ?_⟩
            exact ini_done (M := nM) nT hx0 hdx0 ne0 fun G8 H8 n8' r8 => ⟨rfl, k _ c mk _ _ _ n8' r8⟩
def spBM (K : PySem.W.Frag) : Sp := fun vs H Q _ => ∃ G sv cv lv ws rows lam, vs = [sv, cv, lv] ∧ PreI K G H sv cv lv ws rows lam ∧ ∀ x V es c, Pri ws rows (cap lam) x V → Val ws rows lam V → MkOk ws rows x es c → Ret nM G H (rMk K) es Q
theorem sc_best_marking : FnScope ["source", "changes", "level"] ["source", "changes", "level"] (defScope s_best_marking) := ⟨rfl, rfl, rfl, by decide +kernel, rfl, by decide +kernel, by decide +kernel⟩
theorem ok_best_marking (T : Tx K mg) : Ok P w K mg base 9 (He.ga K "best_marking") ["source", "changes", "level"] (spBM K) := by
  refine ok_mk (f_best_marking T) (df_kp (f_best_marking T)) sc_best_marking (fun _ _ _ _ _ _ us hl => match us, hl with | [_, _, _], _ => rfl) (fun vs H Q E h => ?_) (fun cdv A outer s H vs Q E hr h => ?_)
  · obtain ⟨G, sv, cv, lv, ws, rows, lam, rfl, _⟩ := h
    rfl
  · obtain ⟨G, sv, cv, lv, ws, rows, lam, rfl, p, k⟩ := h
    refine ⟨_, (pss_cons (ps_expr (pe_c (ok_known T) (hr.mono (by decide)) rfl (g_known T) (pa_cons (pv 0) (pa_cons (pv 1) pa_nil))))
      (pss_one (ps_ret (pe_c (ok_marking_of_row T) (hr.mono (by decide)) rfl (g_marking_of_row T) (pa_cons (pv 0) (pa_cons (pv 1) (pa_cons (pe_c (ok_best_row T) (hr.mono (by decide)) rfl (g_best_row T) (pa_cons (pv 0) (pa_cons (pv 1) (pa_cons (pv 2) pa_nil)))) pa_nil))))))), ?_⟩
    refine ⟨_, rfl, _, rfl, G, sv, cv, ws, rows, rfl, p.sm, p.s, p.I.W, p.c, p.I.R.nd, p.I.has, fun G1 H1 n1 => ?_⟩
    have p1 : PreI K G1 H1 sv cv lv ws rows lam := ⟨n1.gh, Mono.mono n1.gg p.s, Mono.mono n1.gg p.c, Mono.mono n1.gg p.l, p.I, p.b, p.p⟩
    refine ⟨_, rfl, _, rfl, _, rfl, _, rfl, _, rfl, G1, sv, cv, lv, ws, rows, lam, rfl, p1, fun x V D pri val hD sD hx hWD v G2 H2 n2 rv => ?_⟩
    have n12 := n1.trans n2
    have tp := sum_pos p.I.W.pos p.I.W.ne
    refine ⟨G2, sv, cv, v, ws, rows, x, D, rfl, n2.gh, Mono.mono n12.gg p.s, Mono.mono n12.gg p.c, p.I, rv, hD, sD, hx, hWD, fun e he => ⟨pri.nn e he, ?_⟩, fun es c mk u G3 H3 n3 r3 => ?_⟩
    · have := le_div_of (int_pos_rat tp) (pri.le e he)
      unfold restOf
      grind
    · exact k x V es c pri val mk u G3 H3 (n12.trans n3) r3
end
end Mk

-- J0
set_option Elab.async false
set_option linter.all false
set_option maxRecDepth 100000
set_option maxHeartbeats 4000000
set_option exponentiation.threshold 20000
namespace Mk
open PySem PySem.Spec PyProof.Rows L2
/-! ### what a marking of a row says -/
/-- the weight of the entries that p tells -/
def wIf (p : Str → List Str → Bool) (es : List Ent) : Int := ((es.filter fun e => p e.2.1 e.2.2).map fun e => e.1).sum
theorem wIf_nil (p : Str → List Str → Bool) : wIf p [] = 0 := rfl
theorem wIf_cons (p : Str → List Str → Bool) (e : Ent) (es : List Ent) : wIf p (e :: es) = (if p e.2.1 e.2.2 = true then e.1 else 0) + wIf p es := by
  unfold wIf
  by_cases h : p e.2.1 e.2.2 = true
  · rw [List.filter_cons_of_pos (p := fun e : Ent => p e.2.1 e.2.2) (a := e) h, List.map_cons, List.sum_cons, if_pos h]
  · rw [List.filter_cons_of_neg (p := fun e : Ent => p e.2.1 e.2.2) (a := e) h, if_neg h, Int.zero_add]
theorem wIf_append (p : Str → List Str → Bool) : ∀ l m : List Ent, wIf p (l ++ m) = wIf p l + wIf p m
  | [], m => by rw [List.nil_append, wIf_nil, Int.zero_add]
  | e :: l, m => by rw [List.cons_append, wIf_cons, wIf_cons, wIf_append p l m, Int.add_assoc]
theorem wIf_whole (es : List Ent) : wIf (fun _ _ => true) es = wholeOf es := by
  unfold wIf wholeOf
  rw [List.filter_eq_self.mpr fun _ _ => rfl]
theorem wIf_nn {p : Str → List Str → Bool} : ∀ {es : List Ent}, (∀ e ∈ es, 1 ≤ e.1) → 0 ≤ wIf p es ∧ wIf p es ≤ wholeOf es
  | [], _ => ⟨Int.le_refl _, Int.le_refl _⟩
  | e :: es, h => by
    obtain ⟨a, b⟩ := wIf_nn (p := p) (es := es) fun x hx => h x (List.mem_cons_of_mem _ hx)
    have c := h e List.mem_cons_self
    have d : wholeOf (e :: es) = e.1 + wholeOf es := rfl
    rw [wIf_cons]
    split <;> omega
section
variable {ws : List Wd} {rows : List Row} {x : Str → Rat} {es : List Ent} {c : Rat}
theorem wIf_kx (p : Str → List Str → Bool) : ∀ {es : List Ent} {zs : List Kx}, es.map (fun e => (e.2.1, e.2.2)) = zs.map (fun z => (z.1, z.2.1)) → es.map (fun e => ((e.1 : Int) : Rat)) = zs.map (fun z => z.2.2 * c) →
    (wIf p es : Rat) = c * ls (fun z : Kx => if p z.1 z.2.1 = true then z.2.2 else 0) zs
  | [], [], _, _ => by
    rw [wIf_nil, ls, Rat.intCast_zero]
    grind
  | [], _ :: _, h, _ => by simp at h
  | _ :: _, [], h, _ => by simp at h
  | e :: es, z :: zs, h, h' => by
    rw [List.map_cons, List.map_cons, List.cons.injEq] at h h'
    have e1 : e.2.1 = z.1 := congrArg Prod.fst h.1
    have e2 : e.2.2 = z.2.1 := congrArg Prod.snd h.1
    rw [wIf_cons, Rat.intCast_add, wIf_kx p h.2 h'.2, ls, e1, e2]
    by_cases q : p z.1 z.2.1 = true
    · rw [if_pos q, if_pos q, h'.1]
      grind
    · rw [if_neg q, if_neg q, Rat.intCast_zero]
      grind
theorem ls_filter {α : Type} (f : α → Rat) (q : α → Bool) : ∀ l : List α, ls f (l.filter q) = ls (fun a => if q a = true then f a else 0) l
  | [] => rfl
  | a :: l => by
    by_cases h : q a = true
    · rw [List.filter_cons_of_pos h, ls, ls, if_pos h, ls_filter f q l]
    · rw [List.filter_cons_of_neg h, ls, if_neg h, ls_filter f q l]
      grind
theorem ls_kx (p : Str → List Str → Bool) (h : ∀ e ∈ ws, 0 ≤ x e.1 ∧ 0 ≤ restOf ws x e) : ls (fun z : Kx => if p z.1 z.2.1 = true then z.2.2 else 0) (kxOf ws rows x) =
    ls (fun e : Wd => (if p e.1 (ofR rows e.1) = true then x e.1 else 0) + (if p e.1 [] = true then restOf ws x e else 0)) ws := by
  unfold kxOf firsts rests
  rw [ls_append, ls_map, ls_map, ls_filter, ls_filter, ← ls_add]
  refine ls_congr fun e he => ?_
  obtain ⟨h1, h2⟩ := h e he
  congr 1
  · by_cases q : 0 < x e.1
    · rw [if_pos (decide_eq_true q)]
    · rw [if_neg (by simpa using q)]
      have : x e.1 = 0 := Rat.le_antisymm (Rat.not_lt.mp q) h1
      split
      · exact this.symm
      · rfl
  · by_cases q : 0 < restOf ws x e
    · rw [if_pos (decide_eq_true q)]
    · rw [if_neg (by simpa using q)]
      have : restOf ws x e = 0 := Rat.le_antisymm (Rat.not_lt.mp q) h2
      split
      · exact this.symm
      · rfl
theorem MkOk.sum (m : MkOk ws rows x es c) (h : ∀ e ∈ ws, 0 ≤ x e.1 ∧ 0 ≤ restOf ws x e) (p : Str → List Str → Bool) :
    (wIf p es : Rat) = c * ls (fun e : Wd => (if p e.1 (ofR rows e.1) = true then x e.1 else 0) + (if p e.1 [] = true then restOf ws x e else 0)) ws := by
  rw [wIf_kx p m.key m.wt, ls_kx p h]
theorem MkOk.whole (m : MkOk ws rows x es c) (h : ∀ e ∈ ws, 0 ≤ x e.1 ∧ 0 ≤ restOf ws x e) (W : Wds ws) : (wholeOf es : Rat) = c := by
  have tp := sum_pos W.pos W.ne
  have tne : (total ws : Rat) ≠ 0 := int_ne_rat (by omega)
  rw [← wIf_whole, m.sum h]
  have : ls (fun e : Wd => (if (true : Bool) = true then x e.1 else 0) + (if (true : Bool) = true then restOf ws x e else 0)) ws = 1 := by
    have e1 : ∀ e : Wd, (if (true : Bool) = true then x e.1 else 0) + (if (true : Bool) = true then restOf ws x e else 0) = (1 / (total ws : Rat)) * (e.2 : Rat) := fun e => by
      rw [if_pos rfl, if_pos rfl]
      unfold restOf
      grind
    rw [ls_congr fun e _ => e1 e, ls_mul, ls_total]
    grind
  rw [this]
  grind
/-- t's own weight, where the words' texts are distinct -/
theorem ls_one {t : Wd} (g : Wd → Rat) : ∀ {ws : List Wd}, (ws.map (·.1)).Nodup → t ∈ ws → ls (fun e : Wd => if decide (e.1 = t.1) = true then g e else 0) ws = g t
  | [], _, h => by cases h
  | e :: ws, nd, h => by
    rw [List.map_cons, List.nodup_cons] at nd
    rw [ls]
    by_cases q : e.1 = t.1
    · have et : t = e := by
        rcases List.mem_cons.mp h with z | z
        · exact z
        · exact absurd (List.mem_map.mpr ⟨t, z, q.symm⟩) nd.1
      subst et
      rw [if_pos (decide_eq_true rfl), ls_congr (g := fun _ => 0) fun a ha => if_neg (by
        simp only [decide_eq_true_eq]
        exact fun z => nd.1 (List.mem_map.mpr ⟨a, ha, z⟩)), ls_zero]
      grind
    · have hm : t ∈ ws := (List.mem_cons.mp h).resolve_left fun z => q (by rw [z])
      rw [if_neg (by simpa using q), ls_one g nd.2 hm]
      grind
theorem MkOk.written (m : MkOk ws rows x es c) (h : ∀ e ∈ ws, 0 ≤ x e.1 ∧ 0 ≤ restOf ws x e) (W : Wds ws) {t : Wd} (ht : t ∈ ws) : (wrOf es t.1 : Rat) * (total ws : Rat) = (t.2 : Rat) * (wholeOf es : Rat) := by
  have tp := sum_pos W.pos W.ne
  have tne : (total ws : Rat) ≠ 0 := int_ne_rat (by omega)
  have e0 : wrOf es t.1 = wIf (fun a _ => decide (a = t.1)) es := rfl
  rw [e0, m.sum h, m.whole h W]
  have e1 : ls (fun e : Wd => (if decide (e.1 = t.1) = true then x e.1 else 0) + (if decide (e.1 = t.1) = true then restOf ws x e else 0)) ws = (t.2 : Rat) / (total ws : Rat) := by
    have e2 : ∀ e : Wd, (if decide (e.1 = t.1) = true then x e.1 else 0) + (if decide (e.1 = t.1) = true then restOf ws x e else 0) = if decide (e.1 = t.1) = true then (e.2 : Rat) / (total ws : Rat) else 0 := fun e => by
      by_cases q : decide (e.1 = t.1) = true
      · rw [if_pos q, if_pos q, if_pos q]
        unfold restOf
        grind
      · rw [if_neg q, if_neg q, if_neg q]
        grind
    rw [ls_congr fun e _ => e2 e, ls_one (fun e : Wd => (e.2 : Rat) / (total ws : Rat)) W.srt.nd ht]
  rw [e1]
  grind
/-- the weight that accuses t -/
def accOf (es : List Ent) (t : Str) : Int := wIf (fun _ l => decide (t ∈ l)) es
theorem MkOk.accused (m : MkOk ws rows x es c) (h : ∀ e ∈ ws, 0 ≤ x e.1 ∧ 0 ≤ restOf ws x e) (t : Str) : (accOf es t : Rat) = c * ls (fun e : Wd => if t ∈ ofR rows e.1 then x e.1 else 0) ws := by
  unfold accOf
  rw [m.sum h]
  congr 1
  refine ls_congr fun e _ => ?_
  rw [if_neg (show ¬ decide (t ∈ ([] : List Str)) = true by simp)]
  by_cases q : t ∈ ofR rows e.1
  · rw [if_pos (decide_eq_true q), if_pos q]; grind
  · rw [if_neg (by simpa using q), if_neg q]; grind
/-- the weight whose reader all is accused -/
def fndOf (rows : List Row) (es : List Ent) : Int := wIf (fun a l => (ofR rows a).all fun t => decide (t ∈ l)) es
theorem MkOk.found (m : MkOk ws rows x es c) (h : ∀ e ∈ ws, 0 ≤ x e.1 ∧ 0 ≤ restOf ws x e) (hown : ∀ e ∈ ws, e.1 ∈ ofR rows e.1) : (fndOf rows es : Rat) = c * ls (fun e : Wd => x e.1) ws := by
  unfold fndOf
  rw [m.sum h]
  congr 1
  refine ls_congr fun e he => ?_
  rw [if_pos (List.all_eq_true.mpr fun t ht => decide_eq_true ht), if_neg fun z => ?_]
  · grind
  · have := of_decide_eq_true (List.all_eq_true.mp z _ (hown e he))
    cases this
end
end Mk

-- J1
set_option Elab.async false
set_option linter.all false
set_option maxRecDepth 100000
set_option maxHeartbeats 4000000
set_option exponentiation.threshold 20000
namespace Mk
open PySem PySem.Spec PyProof.Rows L2
open C8 (InsC call_isC)
/-! ### dicts of whole numbers by text -/
def tabK (ks : List Str) (f : Str → Int) : List (Key × V) := ks.map fun t => (.inr t, .int (f t))
theorem tab_keys (ks : List Str) (f : Str → Int) : KeysAre (tabK ks f) ks := by
  unfold KeysAre tabK
  rw [List.map_map]
  rfl
theorem tab_val {f : Str → Int} {t : Str} : ∀ {ks : List Str}, valV (tabK ks f) (.inr t) = if t ∈ ks then some (.int (f t)) else none
  | [] => rfl
  | a :: ks => by
    by_cases e : a = t
    · subst e
      rw [if_pos List.mem_cons_self]
      exact valV_pos rfl
    · rw [show tabK (a :: ks) f = (.inr a, .int (f a)) :: tabK ks f from rfl, valV_neg (fun z => e (by injection z)), tab_val]
      by_cases h : t ∈ ks
      · rw [if_pos h, if_pos (List.mem_cons_of_mem _ h)]
      · rw [if_neg h, if_neg fun z => (List.mem_cons.mp z).elim (fun q => e q.symm) h]
theorem tab_put {ks : List Str} {f : Str → Int} {t : Str} {v : Int} : putK (tabK ks f) (.inr t) (.int v) = tabK (if t ∈ ks then ks else ks ++ [t]) fun u => if u = t then v else f u := by
  by_cases h : t ∈ ks
  · rw [if_pos h]
    unfold putK
    rw [valV_any, tab_val, if_pos h]
    show (tabK ks f).map _ = _
    unfold tabK
    rw [List.map_map]
    refine List.map_congr_left fun u _ => ?_
    show (if (Sum.inr u : Key) = .inr t then ((Sum.inr u : Key), V.int v) else (.inr u, .int (f u))) = (.inr u, .int (if u = t then v else f u))
    by_cases e : u = t
    · rw [if_pos (by rw [e]), if_pos e]
    · rw [if_neg (fun z => e (by injection z)), if_neg e]
  · rw [if_neg h, putK_new _ (by rw [tab_val, if_neg h])]
    unfold tabK
    rw [List.map_append]
    congr 1
    · refine List.map_congr_left fun u hu => ?_
      have ne : u ≠ t := fun e => h (by rw [← e]; exact hu)
      simp [ne]
    · simp
theorem tab_len (ks : List Str) (f : Str → Int) : (tabK ks f).length = ks.length := by simp [tabK]
theorem acc_snoc (es : List Ent) (e : Ent) (t : Str) : accOf (es ++ [e]) t = accOf es t + if t ∈ e.2.2 then e.1 else 0 := by
  unfold accOf
  rw [wIf_append, wIf_cons, wIf_nil, Int.add_zero]
  by_cases h : t ∈ e.2.2
  · rw [if_pos (decide_eq_true h), if_pos h]
  · rw [if_neg (by simpa using h), if_neg h]
theorem acc_none {es : List Ent} {t : Str} (h : ¬ ∃ e ∈ es, t ∈ e.2.2) : accOf es t = 0 := by
  unfold accOf wIf
  rw [List.filter_eq_nil_iff.mpr fun e he z => h ⟨e, he, of_decide_eq_true z⟩]
  rfl
section
variable {P : Program} {w : World} {K : PySem.W.Frag} {mg : Str → Option Value} {base : Heap}
def spAcW (K : PySem.W.Frag) : Sp := fun vs H Q _ => ∃ G v es, vs = [v] ∧ Same G H ∧ rMk K G v es ∧ Ents es ∧ (∀ l : List Str, l.Nodup → (∀ t ∈ l, ∃ e ∈ es, t ∈ e.2.2) → l.length ≤ 60) ∧
  ∀ p ks H', Nw nM G H G H' → H' p = some (.dK (tabK ks (accOf es))) → G p = none → H p = none → ks.Nodup → (∀ t, t ∈ ks ↔ ∃ e ∈ es, t ∈ e.2.2) → ks.length ≤ 60 → Q (.ref p) H'
theorem sc__accused_weights : FnScope ["marking", "found", "weight", "_", "accused", "text"] ["marking"] (defScope s__accused_weights) := ⟨rfl, rfl, rfl, by decide +kernel, rfl, by decide +kernel, by decide +kernel⟩
theorem ok__accused_weights (T : Tx K mg) : Ok P w K mg base 1 (He.ga K "_accused_weights") ["marking"] (spAcW K) := by
  refine ok_mk (f__accused_weights T) (df_kp (f__accused_weights T)) sc__accused_weights (fun _ _ _ _ _ _ us hl => match us, hl with | [_], _ => rfl) (fun vs H Q E h => ?_) (fun cdv A outer s H vs Q E hr h => ?_)
  · obtain ⟨G, v, es, rfl, _⟩ := h
    rfl
  · obtain ⟨G, v, es, rfl, sm, ⟨a, dx, p, vs, rfl, ha, hp, pr⟩, En, few, k⟩ := h
    refine ⟨_, (pss_cons (ps_set (i := 1) sc__accused_weights.nd rfl (Or.inl rfl) pe_dnewK)
      (pss_cons (ps_for PassesOwn.never rfl (pi_tup (pe_f (c_Marking T) (n_Marking_entries T) (pv 0))) (pg_tup rfl (pgs_cons (pg_name (i := 2) sc__accused_weights.nd rfl (Or.inl rfl)) (pgs_cons (pg_name (i := 3) sc__accused_weights.nd rfl (Or.inl rfl)) (pgs_cons (pg_name (i := 4) sc__accused_weights.nd rfl (Or.inl rfl)) pgs_nil))))
      (pss_one (ps_for PassesOwn.never rfl (pi_tup (pv 4)) (pg_name (i := 5) sc__accused_weights.nd rfl (Or.inl rfl))
      (pss_one (ps_dput (hu_of hr) (pv 1) (pv 5) (pe_op op_add (pe_dget2 (hu_of hr) (pv 1) (pv 5) pe_int ⟨by rfl, by rfl, by rfl, by rfl⟩) (pv 2)) rfl)))))
      (pss_one (ps_ret (pv 1))))), ?_⟩
    intro d hd
    have haH := sm _ _ ha
    have hpH := sm _ _ hp
    have gd := sm.free hd
    have lv := paired_len pr
    have n0 := (Nw.refl (M := nM) sm).allocH (o := .dK []) hd
    refine ⟨_, rfl, a, dx, _, _, rfl, get_new haH hd, rfl, p, rfl, ⟨vs, SqT.of (get_new hpH hd)⟩, ?_⟩
    refine for_it (walk_tup (xs := vs)) (fun i σ H' => ∃ (z1 z2 z3 z4 : Option V) (ks : List Str), σ = [some (.ref a), some (.ref d), z1, z2, z3, z4] ∧ Nw nM G H G H' ∧ H' d = some (.dK (tabK ks (accOf (es.take i)))) ∧ ks.Nodup ∧ ∀ t, t ∈ ks ↔ ∃ e ∈ es.take i, t ∈ e.2.2)
      ⟨none, none, none, none, [], rfl, n0, upd_same, List.nodup_nil, fun t => ⟨fun h => (by cases h), fun ⟨e, h, _⟩ => (by simp at h)⟩⟩ (fun i σ H' _ h => by obtain ⟨z1, z2, z3, z4, ks, rfl, n, _⟩ := h; exact SqT.of (n.gh _ _ hp)) ?_ ?_
    · rintro i y σ H1 H2 hi ⟨z1, z2, z3, z4, ks, rfl, n1, hd1, nd1, mem1⟩ ⟨rfl, hv⟩
      obtain ⟨e, hei, t0, ta, tb, tc, rfl, ht0, rta, rtb, pa, rfl, hpa⟩ := paired_get pr hv
      have rta : ta = .int e.1 := rta
      have rtb : tb = .str e.2.1 := rtb
      subst rta rtb
      have tk : es.take (i + 1) = es.take i ++ [e] := by rw [List.take_add_one, hei]; rfl
      have hem := List.mem_of_getElem? hei
      refine ⟨t0, _, rfl, SqT.of (n1.gh _ _ ht0), rfl, _, _, rfl, _, _, rfl, _, _, rfl, rfl, ?_⟩
      refine ⟨_, rfl, pa, rfl, ⟨_, SqT.of (n1.gh _ _ hpa)⟩, ?_⟩
      refine for_it (walk_tup (xs := e.2.2.map V.str)) (fun j σ H' => ∃ (z4 : Option V) (ks : List Str) (f : Str → Int), σ = [some (.ref a), some (.ref d), some (.int e.1), some (.str e.2.1), some (.ref pa), z4] ∧ Nw nM G H G H' ∧ H' d = some (.dK (tabK ks f)) ∧ ks.Nodup ∧ (∀ t, t ∈ ks ↔ (∃ e ∈ es.take i, t ∈ e.2.2) ∨ t ∈ e.2.2.take j) ∧
          ∀ t, f t = accOf (es.take i) t + if t ∈ e.2.2.take j then e.1 else 0)
        ⟨z4, ks, accOf (es.take i), rfl, n1, hd1, nd1, fun t => by rw [mem1]; simp, fun t => by simp⟩ (fun j σ H' _ h => by obtain ⟨z4, ks, f, rfl, n, _⟩ := h; exact SqT.of (n.gh _ _ hpa)) ?_ ?_
      · rintro j y σ H2 H3 hj ⟨z4', ks2, f, rfl, n2, hd2, nd2, mem2, hf⟩ ⟨rfl, hy⟩
        have hj' : j < e.2.2.length := by simpa using hj
        have hrj : e.2.2[j]? = some e.2.2[j] := List.getElem?_eq_getElem hj'
        rw [List.getElem?_map, hrj] at hy
        have hy := (Option.some.inj hy).symm
        have hy : y = .str e.2.2[j] := hy
        subst hy
        have ndj : e.2.2[j] ∉ e.2.2.take j := fun hm => by
          have nd3 := (En.acc e hem).1.nd
          rw [← List.take_append_drop (j + 1) e.2.2, List.take_add_one, hrj] at nd3
          exact (List.nodup_append.mp (List.nodup_append.mp nd3).1).2.2 _ hm _ (List.mem_singleton.mpr rfl) rfl
        have hl : ks2.length ≤ 60 := few ks2 nd2 fun t ht => by
          rcases (mem2 t).mp ht with ⟨e', h1, h2⟩ | h
          · exact ⟨e', List.mem_of_mem_take h1, h2⟩
          · exact ⟨e, hem, List.mem_of_mem_take h⟩
        have gv : (valV (tabK ks2 f) (.inr e.2.2[j])).getD (.int 0) = .int (accOf (es.take i) e.2.2[j]) := by
          rw [tab_val]
          by_cases h : e.2.2[j] ∈ ks2
          · rw [if_pos h]
            show V.int (f e.2.2[j]) = _
            rw [hf, if_neg ndj, Int.add_zero]
          · rw [if_neg h]
            show V.int 0 = _
            rw [acc_none fun z => h ((mem2 _).mpr (.inl z))]
        refine ⟨_, rfl, d, rfl, .inl ⟨_, Rd.of hd2⟩, _, rfl, _, DGet.k (k := .inr e.2.2[j]) hd2, ?_⟩
        rw [gv]
        refine ⟨_, rfl, _, _, rfl, rfl, _, rfl, _, rfl, d, _, rfl, DPut.k (k := .inr e.2.2[j]) hd2 (by rw [tab_len, sizeLine_eq]; omega), ?_⟩
        refine ⟨some (.str e.2.2[j]), (if e.2.2[j] ∈ ks2 then ks2 else ks2 ++ [e.2.2[j]]), (fun u => if u = e.2.2[j] then accOf (es.take i) e.2.2[j] + e.1 else f u), rfl, n2.putH hd gd, ?_, put_nd _ nd2, fun t => ?_, fun t => ?_⟩
        · rw [upd_same, tab_put]
        · rw [put_mem, mem2, List.take_add_one, hrj, List.mem_append]
          simp
          constructor
          · rintro (h | h | h)
            · exact .inr (.inr h)
            · exact .inl h
            · exact .inr (.inl h)
          · rintro (h | h | h)
            · exact .inr (.inl h)
            · exact .inr (.inr h)
            · exact .inl h
        · dsimp only
          have tj : e.2.2.take (j + 1) = e.2.2.take j ++ [e.2.2[j]] := by rw [List.take_add_one, hrj]; rfl
          rw [tj]
          by_cases h : t = e.2.2[j]
          · subst h
            rw [if_pos rfl, if_pos (List.mem_append_right _ (List.mem_singleton.mpr rfl))]
          · rw [if_neg h, hf]
            congr 1
            by_cases q : t ∈ e.2.2.take j
            · rw [if_pos q, if_pos (List.mem_append_left _ q)]
            · rw [if_neg q, if_neg fun z => (List.mem_append.mp z).elim q fun z => h (List.mem_singleton.mp z)]
      · rintro σ H2 ⟨z4', ks2, f, rfl, n2, hd2, nd2, mem2, hf⟩
        have ef : f = accOf (es.take (i + 1)) := by
          funext t
          rw [hf, tk, acc_snoc, List.length_map, List.take_length]
        rw [ef] at hd2
        refine ⟨_, _, _, z4', ks2, rfl, n2, hd2, nd2, fun t => ?_⟩
        rw [mem2, tk, List.length_map, List.take_length]
        constructor
        · rintro (⟨e', h1, h2⟩ | h)
          · exact ⟨e', List.mem_append_left _ h1, h2⟩
          · exact ⟨e, List.mem_append_right _ (List.mem_singleton.mpr rfl), h⟩
        · rintro ⟨e', h1, h2⟩
          rcases List.mem_append.mp h1 with h | h
          · exact .inl ⟨e', h, h2⟩
          · rw [List.mem_singleton.mp h] at h2
            exact .inr h2
    · rintro σ H1 ⟨z1, z2, z3, z4, ks, rfl, n1, hd1, nd1, mem1⟩
      rw [lv, List.take_length] at hd1 mem1
      exact ⟨_, rfl, k d ks H1 n1 hd1 gd hd nd1 mem1 (few ks nd1 fun t ht => (mem1 t).mp ht)⟩
end
end Mk

-- J2
set_option Elab.async false
set_option linter.all false
set_option maxRecDepth 100000
set_option maxHeartbeats 4000000
set_option exponentiation.threshold 20000
namespace Mk
open PySem PySem.Spec PyProof.Rows L2
open C8 (InsC call_isC)
section
variable {P : Program} {w : World} {K : PySem.W.Frag} {mg : Str → Option Value} {base : Heap}
theorem div_mul_same {a b : Rat} (h : b ≠ 0) : a / b * b = a := by grind
/-- what the judges need of a marking -/
structure Mok (es : List Ent) : Prop where
  E : Ents es
  p : 0 < wholeOf es
  b : (wholeOf es).natAbs < 2 ^ 3950
  few : ∀ l : List Str, l.Nodup → (∀ t ∈ l, ∃ e ∈ es, t ∈ e.2.2) → l.length ≤ 60
theorem Mok.acc {es : List Ent} (m : Mok es) (t : Str) : 0 ≤ accOf es t ∧ (accOf es t).natAbs < 2 ^ 3950 := by
  obtain ⟨a, b⟩ := wIf_nn (p := fun _ l => decide (t ∈ l)) m.E.pos
  have c := m.b
  refine ⟨a, nat_lt_two (b := (wholeOf es).natAbs) ?_ c⟩
  have : accOf es t ≤ wholeOf es := b
  have : 0 ≤ accOf es t := a
  omega
def spMost (K : PySem.W.Frag) : Sp := fun vs H Q _ => ∃ G v es, vs = [v] ∧ Same G H ∧ rMk K G v es ∧ Mok es ∧ ∀ q : Rat, (∀ t, (accOf es t : Rat) / (wholeOf es : Rat) ≤ q) → Bq 3950 q → Ret nM G H (rSh K) q Q
theorem sc_accused_most : FnScope ["marking"] ["marking"] (defScope s_accused_most) := ⟨rfl, rfl, rfl, by decide +kernel, rfl, by decide +kernel, by decide +kernel⟩
theorem ok_accused_most (T : Tx K mg) : Ok P w K mg base 4 (He.ga K "accused_most") ["marking"] (spMost K) := by
  refine ok_mk (f_accused_most T) (df_kp (f_accused_most T)) sc_accused_most (fun _ _ _ _ _ _ us hl => match us, hl with | [_], _ => rfl) (fun vs H Q E h => ?_) (fun cdv A outer s H vs Q E hr h => ?_)
  · obtain ⟨G, v, es, rfl, _⟩ := h
    rfl
  · obtain ⟨G, v, es, rfl, sm, rm, M, k⟩ := h
    refine ⟨_, (pss_one (ps_ret (pe_k (k_Share T) (ok_Share_init T) (hr.mono (by decide)) rfl (g_Share T) (pa_cons (pe_callB (cr_max rfl) (by rfl) (b_max T) (by decide +kernel) (pa_cons (pe_op op_cat (pe_lst (pa_cons pe_int pa_nil)) (pe_callTy (cr_listV rfl) (by rfl) (b_list T) (by decide +kernel) (pa_cons (pe_bm0 PySem.F.plainAttrs_dict PySem.F.slot_dict_values PySem.F.type_dict_values mt_vals (pe_c (ok__accused_weights T) (hr.mono (by decide)) rfl (g__accused_weights T) (pa_cons (pv 0) pa_nil))) pa_nil))) pa_nil)) (pa_cons (pe_f (c_Marking T) (n_Marking_whole T) (pv 0)) pa_nil))))), ?_⟩
    obtain ⟨a, dx, p, vs, rfl, ha, hp, pr⟩ := id rm
    refine ⟨len_ok (show 1 ≤ 100000 by decide), fun p1 hp1 => ?_⟩
    have n1 := (Nw.refl (M := nM) sm).allocH (o := .lst [.int 0]) hp1
    refine ⟨_, rfl, G, _, es, rfl, n1.gh, rm, M.E, M.few, fun d ks H2 n2 hd gd hdf nd mem few => ?_⟩
    have n12 := n1.trans n2
    have hl2 := n2.hh _ _ (fun z => z) (show upd H p1 (.lst [.int 0]) p1 = some (.lst [.int 0]) from upd_same)
    refine ⟨tyD hd, d, _, rfl, rfl, hd, fun pv hpv => ?_⟩
    have n3 := n12.allocH (o := valsO pv d) hpv
    have hd3 := get_new (o := valsO pv d) hd hpv
    have hv3 : upd H2 pv (valsO pv d) pv = some (valsO pv d) := upd_same
    have hl3 := get_new (o := valsO pv d) hl2 hpv
    refine ⟨pv, d, _, rfl, hv3, hd3, fun p4 hp4 => ?_⟩
    have ev : (tabK ks (accOf es)).map (·.2) = (ks.map (accOf es)).map V.int := by
      unfold tabK
      rw [List.map_map, List.map_map]
      rfl
    rw [ev]
    have n4 := n3.allocH (o := .lst ((ks.map (accOf es)).map V.int)) hp4
    have hl4 := get_new (o := .lst ((ks.map (accOf es)).map V.int)) hl3 hp4
    refine ⟨p1, p4, _, _, rfl, rfl, hl4, upd_same, by rw [sizeLine_eq]; simp; omega, fun p5 hp5 => ?_⟩
    have n5 := n4.allocH (o := .lst ((0 :: ks.map (accOf es)).map V.int)) hp5
    refine ⟨p5, 0 :: ks.map (accOf es), rfl, SqL.of upd_same, by simp, fun m hm hmax => ?_⟩
    have haH := n5.hh _ _ (fun z => z) (sm _ _ ha)
    refine ⟨_, rfl, a, dx, _, _, rfl, haH, rfl, ?_⟩
    refine sh_new (M := nM) M.p (pow_up M.b (by decide)) n5 (k _ (fun t => ?_) (bq_of M.p ?_ M.b))
    · have h1 : accOf es t ≤ m := by
        by_cases h : ∃ e ∈ es, t ∈ e.2.2
        · exact hmax _ (List.mem_cons_of_mem _ (List.mem_map.mpr ⟨t, (mem t).mpr h, rfl⟩))
        · rw [acc_none h]
          exact hmax 0 List.mem_cons_self
      have wp := int_pos_rat M.p
      have wne : (wholeOf es : Rat) ≠ 0 := int_ne_rat (by have := M.p; omega)
      refine div_le_of wp ?_
      rw [div_mul_same wne]
      exact int_le_rat h1
    · rcases List.mem_cons.mp hm with rfl | h
      · exact Nat.pow_pos (by decide)
      · obtain ⟨t, _, rfl⟩ := List.mem_map.mp h
        exact (M.acc t).2
def spAccAt (K : PySem.W.Frag) : Sp := fun vs H Q _ => ∃ G v lv es lam, vs = [v, lv] ∧ Same G H ∧ rMk K G v es ∧ rSh K G lv lam ∧ Mok es ∧ Bq 9000 lam ∧ (∀ t, (accOf es t : Rat) / (wholeOf es : Rat) ≤ lam) ∧ ∀ G' H', Nw nM G H G' H' → Q .non H'
theorem sc_accused_at : FnScope ["marking", "level", "weights", "text"] ["marking", "level"] (defScope s_accused_at) := ⟨rfl, rfl, rfl, by decide +kernel, rfl, by decide +kernel, by decide +kernel⟩
theorem ok_accused_at (T : Tx K mg) : Ok P w K mg base 4 (He.ga K "accused_at") ["marking", "level"] (spAccAt K) := by
  refine ok_mk (f_accused_at T) (df_kp (f_accused_at T)) sc_accused_at (fun _ _ _ _ _ _ us hl => match us, hl with | [_, _], _ => rfl) (fun vs H Q E h => ?_) (fun cdv A outer s H vs Q E hr h => ?_)
  · obtain ⟨G, v, lv, es, lam, rfl, _⟩ := h
    rfl
  · obtain ⟨G, v, lv, es, lam, rfl, sm, rm, rl, M, bl, hle, k⟩ := h
    refine ⟨_, (pss_cons (ps_set (i := 2) sc_accused_at.nd rfl (Or.inl rfl) (pe_c (ok__accused_weights T) (hr.mono (by decide)) rfl (g__accused_weights T) (pa_cons (pv 0) pa_nil)))
      (pss_cons (ps_for PassesOwn.never rfl (pi_list (pe_callB (call_sortedD rfl) (by rfl) (b_sorted T) (by decide +kernel) (pa_cons (pv 2) pa_nil))) (pg_name (i := 3) sc_accused_at.nd rfl (Or.inl rfl))
      (pss_one (ps_if (pt_val (pe_m (pv 1) (c_Share T) (m_Share_is_below T) (ok_Share_is_below T) (hr.mono (by decide)) (pa_cons (pe_k (k_Share T) (ok_Share_init T) (hr.mono (by decide)) rfl (g_Share T) (pa_cons (pe_dget (hu_of hr) (pv 2) (pv 3) (fun _ _ => rfl)) (pa_cons (pe_f (c_Marking T) (n_Marking_whole T) (pv 0)) pa_nil))) pa_nil)))
        (pss_one (ps_ret (pv 3)))
        pss_nil)))
      (pss_one (ps_ret pe_non)))), ?_⟩
    obtain ⟨a, dx, p, vs, rfl, ha, hp, pr⟩ := id rm
    obtain ⟨l, ldx, rfl, hl⟩ := id rl
    refine ⟨_, rfl, G, _, es, rfl, sm, rm, M.E, M.few, fun d ks H2 n2 hd gd hdf nd mem few => ?_⟩
    refine ⟨_, rfl, d, _, ks, rfl, Rd.of hd, tab_keys _ _, by omega, fun ys q pm so hq => ?_⟩
    have n3 := n2.allocH (o := .lst (ys.map V.str)) hq
    have hd3 := get_new (o := .lst (ys.map V.str)) hd hq
    have hq3 : upd H2 q (.lst (ys.map V.str)) q = some (.lst (ys.map V.str)) := upd_same
    generalize upd H2 q (.lst (ys.map V.str)) = H3 at n3 hd3 hq3
    refine ⟨q, rfl, ⟨_, SqL.of hq3⟩, ?_⟩
    refine for_it (walk_list (xs := ys.map V.str)) (fun i σ H' => ∃ (z : Option V) (Gc : Hp), σ = [some (.ref a), some (.ref l), some (.ref d), z] ∧ Nw nM G H3 Gc H') ⟨none, G, rfl, Nw.refl n3.gh⟩ (fun i σ H' _ h => by obtain ⟨z, Gc, rfl, n⟩ := h; exact SqL.of (n.hh _ _ (fun z => z) hq3)) ?_ ?_
    · rintro i y σ H4 H5 hi ⟨z, Gc, rfl, n4⟩ ⟨rfl, hy⟩
      have hi' : i < ys.length := by simpa using hi
      have hyi : ys[i]? = some ys[i] := List.getElem?_eq_getElem hi'
      rw [List.getElem?_map, hyi] at hy
      have hy := (Option.some.inj hy).symm
      have hy : y = .str ys[i] := hy
      subst hy
      have hd4 := n4.hh _ _ (fun z => z) hd3
      have dg := DGet.k (k := .inr ys[i]) hd4
      rw [tab_val, if_pos (pm.mem_iff.mp (List.getElem_mem hi'))] at dg
      have ha4 := n4.gh _ _ (n4.gg _ _ ha)
      refine ⟨_, rfl, l, ldx, _, rfl, n4.gh _ _ (n4.gg _ _ hl), rfl, ?_⟩
      refine ⟨_, rfl, _, rfl, d, _, rfl, dg, _, rfl, a, dx, _, _, rfl, ha4, rfl, ?_⟩
      intro x' dx' hx' hdx' ne'
      refine sh_new1 (M := nM) hx' hdx' ne' M.p (pow_up M.b (by decide)) (Nw.refl n4.gh) fun G6 H6 n6 r6 => ⟨rfl, ?_⟩
      refine ⟨G6, _, _, lam, _, rfl, n6.gh, Mono.mono (n4.gg.trans n6.gg) rl, r6, bl, (bq_of M.p (M.acc _).2 M.b).mono (by decide), _, rfl, itF ?_ ⟨_, G6, rfl, n4.trans n6⟩⟩
      intro z
      exact absurd (of_decide_eq_true z) (Rat.not_lt.mpr (hle _))
    · rintro σ H4 ⟨z, Gc, rfl, n4⟩
      exact k Gc _ (n3.trans n4)
def spChk (K : PySem.W.Frag) : Sp := fun vs H Q _ => ∃ G cv v es rows, vs = [cv, v] ∧ Same G H ∧ rCh K G cv rows ∧ rMk K G v es ∧ Ents es ∧ Rows rows ∧ (∀ e ∈ es, e.2.1 ∈ rows.map (·.1)) ∧ ∀ G' H', Nw nM G H G' H' → Q .non H'
theorem sc__check_written : FnScope ["changes", "marking", "texts", "text"] ["changes", "marking"] (defScope s__check_written) := ⟨rfl, rfl, rfl, by decide +kernel, rfl, by decide +kernel, by decide +kernel⟩
theorem ok__check_written (T : Tx K mg) : Ok P w K mg base 2 (He.ga K "_check_written") ["changes", "marking"] (spChk K) := by
  refine ok_mk (f__check_written T) (df_kp (f__check_written T)) sc__check_written (fun _ _ _ _ _ _ us hl => match us, hl with | [_, _], _ => rfl) (fun vs H Q E h => ?_) (fun cdv A outer s H vs Q E hr h => ?_)
  · obtain ⟨G, cv, v, es, rows, rfl, _⟩ := h
    rfl
  · obtain ⟨G, cv, v, es, rows, rfl, sm, rc, rm, En, R, hin, k⟩ := h
    refine ⟨_, (pss_cons (ps_set (i := 2) sc__check_written.nd rfl (Or.inl rfl) (pe_m0 (pv 0) (c_Changes T) (m_Changes_texts T) (ok_Changes_texts T) (hr.mono (by decide))))
      (pss_one (ps_for PassesOwn.never rfl (pi_tup (pe_m0 (pv 1) (c_Marking T) (m_Marking_texts T) (ok_Marking_texts T) (hr.mono (by decide)))) (pg_name (i := 3) sc__check_written.nd rfl (Or.inl rfl))
      (pss_one (ps_if (pt_cmpR op_notIn_seq (pv 3) (pv 2) (by rfl))
        (pss_one ps_never)
        pss_nil))))), ?_⟩
    obtain ⟨a, dx, p, vs, rfl, ha, hp, pr⟩ := id rm
    obtain ⟨ca, cdx, cd, kvs, rfl, hca, _⟩ := id rc
    refine ⟨_, rfl, ca, cdx, _, rfl, sm _ _ hca, rfl, G, _, rows, rfl, sm, rc, R, fun ys sy my v1 G1 H1 n1 r1 => ?_⟩
    obtain ⟨p1, rfl, hp1⟩ := id r1
    refine ⟨_, rfl, a, dx, _, rfl, n1.gh _ _ (n1.gg _ _ ha), rfl, G1, _, es, rfl, n1.gh, Mono.mono n1.gg rm, En, fun zs sz mz v2 G2 H2 n2 r2 => ?_⟩
    obtain ⟨p2, rfl, hp2⟩ := id r2
    have hp2H := n2.gh _ _ hp2
    have hp1H := n2.gh _ _ (n2.gg _ _ hp1)
    refine ⟨p2, rfl, ⟨_, SqT.of hp2H⟩, ?_⟩
    refine for_it (walk_tup (xs := zs.map V.str)) (fun i σ H' => ∃ (z : Option V), σ = [some (.ref ca), some (.ref a), some (.ref p1), z] ∧ H' = H2) ⟨none, rfl, rfl⟩ (fun i σ H' _ h => by obtain ⟨z, rfl, rfl⟩ := h; exact SqT.of hp2H) ?_ ?_
    · rintro i y σ H4 H5 hi ⟨z, rfl, rfl⟩ ⟨rfl, hy⟩
      have hi' : i < zs.length := by simpa using hi
      have hyi : zs[i]? = some zs[i] := List.getElem?_eq_getElem hi'
      rw [List.getElem?_map, hyi] at hy
      have hy := (Option.some.inj hy).symm
      have hy : y = .str zs[i] := hy
      subst hy
      have hm : zs[i] ∈ ys := by
        obtain ⟨e, he, e1⟩ := (mz _).mp (List.getElem_mem hi')
        rw [← e1]
        exact (my _).mpr (hin e he)
      refine ⟨_, rfl, _, rfl, p1, _, rfl, .inr (SqT.of hp1H), rfl, flat_strs ys, _, rfl, itF ?_ ⟨_, rfl, rfl⟩⟩
      rw [inV_str, decide_eq_true hm]
      simp
    · rintro σ H4 ⟨z, rfl, rfl⟩
      exact k G2 _ (n1.trans n2)
def spFnd (K : PySem.W.Frag) : Sp := fun vs H Q _ => ∃ G cv v es rows, vs = [cv, v] ∧ Same G H ∧ rCh K G cv rows ∧ rMk K G v es ∧ Mok es ∧ Rows rows ∧ (∀ e ∈ es, e.2.1 ∈ rows.map (·.1)) ∧ Ret nM G H (rSh K) ((fndOf rows es : Rat) / (wholeOf es : Rat)) Q
theorem sc_found_share : FnScope ["changes", "marking", "weights", "weight", "text", "accused"] ["changes", "marking"] (defScope s_found_share) := ⟨rfl, rfl, rfl, by decide +kernel, rfl, by decide +kernel, by decide +kernel⟩
theorem fnd_snoc (rows : List Row) (es : List Ent) (e : Ent) : (((es ++ [e]).filter fun e => (ofR rows e.2.1).all fun t => decide (t ∈ e.2.2)).map fun e => e.1) = ((es.filter fun e => (ofR rows e.2.1).all fun t => decide (t ∈ e.2.2)).map fun e => e.1) ++ if ((ofR rows e.2.1).all fun t => decide (t ∈ e.2.2)) = true then [e.1] else [] := by
  rw [List.filter_append, List.map_append]
  congr 1
  cases h : (ofR rows e.2.1).all fun t => decide (t ∈ e.2.2) with
  | true => rw [List.filter_cons_of_pos (by exact h)]; rfl
  | false => rw [List.filter_cons_of_neg (by rw [h]; simp)]; rfl
theorem ok_found_share (T : Tx K mg) : Ok P w K mg base 4 (He.ga K "found_share") ["changes", "marking"] (spFnd K) := by
  refine ok_mk (f_found_share T) (df_kp (f_found_share T)) sc_found_share (fun _ _ _ _ _ _ us hl => match us, hl with | [_, _], _ => rfl) (fun vs H Q E h => ?_) (fun cdv A outer s H vs Q E hr h => ?_)
  · obtain ⟨G, cv, v, es, rows, rfl, _⟩ := h
    rfl
  · obtain ⟨G, cv, v, es, rows, rfl, sm, rc, rm, M, R, hin, k⟩ := h
    refine ⟨_, (pss_cons (ps_expr (pe_c (ok__check_written T) (hr.mono (by decide)) rfl (g__check_written T) (pa_cons (pv 0) (pa_cons (pv 1) pa_nil))))
      (pss_cons (ps_setLc (i := 2) (own := [("weight", 3), ("text", 4), ("accused", 5)]) (g := (gTup K 3 (gCons (gName 3) (gCons (gName 4) (gCons (gName 5) gNil))))) rfl sc_found_share.nd rfl rfl (sw_true rfl rfl rfl (by decide +kernel)) (pi_tup (pe_f (c_Marking T) (n_Marking_entries T) (pv 1))) (blkOk_by (N := ["changes", "marking", "weights", "weight", "text", "accused"]) (sc := defScope s_found_share) (by decide +kernel)) (fun _ _ _ _ _ => (pg_tup rfl (pgs_cons (pg_name (i := 3) sc_found_share.nd rfl (Or.inl rfl)) (pgs_cons (pg_name (i := 4) sc_found_share.nd rfl (Or.inl rfl)) (pgs_cons (pg_name (i := 5) sc_found_share.nd rfl (Or.inl rfl)) pgs_nil))))) (fun _ _ _ _ _ => (pts_one (pt_val (pe_c (ok_accused_by T) (hr.mono (by decide)) rfl (g_accused_by T) (pa_cons (pv 5) (pa_cons (pe_m (pv 0) (c_Changes T) (m_Changes_of T) (ok_Changes_of T) (hr.mono (by decide)) (pa_cons (pv 4) pa_nil)) pa_nil)))))) (fun _ _ _ _ _ => (pv 3)))
      (pss_one (ps_ret (pe_k (k_Share T) (ok_Share_init T) (hr.mono (by decide)) rfl (g_Share T) (pa_cons (pe_callB (cr_sum rfl) (by rfl) (b_sum T) (by decide +kernel) (pa_cons (pv 2) pa_nil)) (pa_cons (pe_f (c_Marking T) (n_Marking_whole T) (pv 1)) pa_nil))))))), ?_⟩
    obtain ⟨a, dx, p, vs, rfl, ha, hp, pr⟩ := id rm
    obtain ⟨ca, cdx, cd, kvs, rfl, hca, _⟩ := id rc
    refine ⟨_, rfl, _, rfl, G, _, _, es, rows, rfl, sm, rc, rm, M.E, R, hin, fun G1 H1 n1 => ?_⟩
    have hpH := n1.gh _ _ (n1.gg _ _ hp)
    have lv := paired_len pr
    have pr1 := paired_mono (R := rEn) n1.gg pr
    refine ⟨_, rfl, a, dx, _, _, rfl, n1.gh _ _ (n1.gg _ _ ha), rfl, p, rfl, ⟨vs, SqT.of hpH⟩, fun D hD => ?_⟩
    refine lc_I (walk_tup (xs := vs)) (M := nM) (G := G1) rInt (fun i ys _ _ => ys = ((es.take i).filter fun e => (ofR rows e.2.1).all fun t => decide (t ∈ e.2.2)).map fun e => e.1) hD n1.gh (by have := M.E.few; omega) (fun i ys Gc Hc o _ h => h) rfl (fun Gc Hc n => SqT.of (n.hh _ _ (fun z => z) hpH)) (fun z => z) (fun i y ys Gc Hc H' Ky Kn hi n h yy k1 k2 => ?_) ?_
    · obtain ⟨rfl, hv⟩ := yy
      obtain ⟨e, hei, t0, ta, tb, tc, rfl, ht0, rta, rtb, pa, rfl, hpa⟩ := paired_get pr1 hv
      have rta : ta = .int e.1 := rta
      have rtb : tb = .str e.2.1 := rtb
      subst rta rtb
      have tk : es.take (i + 1) = es.take i ++ [e] := by rw [List.take_add_one, hei]; rfl
      have hem := List.mem_of_getElem? hei
      obtain ⟨r, hrm, er⟩ := List.mem_map.mp (hin e hem)
      have eo : ofR rows e.2.1 = r.2 := by rw [← er]; exact ofR_eq R.nd hrm
      refine ⟨t0, _, rfl, SqT.of (n.gh _ _ (n.gg _ _ ht0)), rfl, _, _, rfl, _, _, rfl, _, _, rfl, rfl, rfl, ?_⟩
      refine ⟨_, rfl, _, rfl, ca, cdx, _, rfl, n.gh _ _ (n.gg _ _ (n1.gg _ _ hca)), rfl, _, rfl, Gc, _, rows, r, by rw [er], n.gh, Mono.mono (n1.gg.trans n.gg) rc, R.nd, hrm, fun u ru => ?_⟩
      refine ⟨Gc, _, _, e.2.2, r.2, rfl, n.gh, ⟨pa, rfl, n.gg _ _ hpa⟩, ru, by have := (R.row r hrm).2.2; omega, fun H5 n5 => ?_⟩
      refine ⟨_, rfl, ?_⟩
      rw [← eo]
      refine ite2 (fun c => ?_) fun c => ?_
      · refine ⟨_, rfl, k1 _ _ Gc e.1 n5 rfl ?_⟩
        rw [h, tk, fnd_snoc, if_pos c]
      · refine k2 _ Gc n5 ?_
        rw [h, tk, fnd_snoc, if_neg c, List.append_nil]
    · rintro ys vs2 Gc Hc n h hDc gD pr2
      rw [lv, List.take_length] at h
      subst h
      have e2 := paired_map (f := V.int) pr2
      subst e2
      refine ⟨_, rfl, D, _, rfl, SqL.of hDc, _, rfl, a, dx, _, _, rfl, n.gh _ _ (n.gg _ _ (n1.gg _ _ ha)), rfl, ?_⟩
      exact sh_new (M := nM) M.p (pow_up M.b (by decide)) (n1.trans n) k
end
end Mk

-- J3
set_option Elab.async false
set_option linter.all false
set_option maxRecDepth 100000
set_option maxHeartbeats 4000000
set_option exponentiation.threshold 20000
namespace Mk
open PySem PySem.Spec PyProof.Rows L2
open C8 (InsC call_isC)
/-! ### x = {.. for .. in ..} -/
section
variable {X : Cx}
theorem ps_setDc {i : Nat} {y : Str} {py : Pos} {kx vx tg iter : Expr} {ifs : List Expr} {scope : Scope} {own : List (Str × Nat)} {pos spos : Pos} {wi : TI} {g : TG} {tt : TT} {tk tv : TE} (hc : X.calm = true) (hN : X.N.Nodup) (hy : X.N[i]? = some y) (hyl : X.env.scope.names.lookup y = some .local)
    (hsw : swapsWith (.DictComp kx vx [⟨tg, iter, ifs, 0⟩] scope pos) (some (.Name y py)) spos.line X.env = pure true) (hi : PI X tg iter wi) (ok : BlkOk X.N X.env.scope scope own)
    (hg : ∀ (s : Shared) (H : Hp) (C : Addr) (cl : List (Str × Addr)) (fp : List Addr), PG (X.blk s H scope (compEnvC scope cl C X.env) fp) tg g) (ht : ∀ (s : Shared) (H : Hp) (C : Addr) (cl : List (Str × Addr)) (fp : List Addr), PTs (X.blk s H scope (compEnvC scope cl C X.env) fp) ifs tt)
    (hk : ∀ (s : Shared) (H : Hp) (C : Addr) (cl : List (Str × Addr)) (fp : List Addr), PE (X.blk s H scope (compEnvC scope cl C X.env) fp) kx tk)
    (he : ∀ (s : Shared) (H : Hp) (C : Addr) (cl : List (Str × Addr)) (fp : List Addr), PE (X.blk s H scope (compEnvC scope cl C X.env) fp) vx tv) (hs : ∀ x, foldedSetIterable iter X.env x = pure x := by intro _; rfl) :
    PS X (.Assign [.Name y py] (.DictComp kx vx [⟨tg, iter, ifs, 0⟩] scope pos) spos) (tAsg (tDc wi g tt tk tv (own.map (·.2))) (gName i)) := by
  refine ⟨fun pins s σ H D I h => ?_⟩
  rw [exec_Assign_Name_used _ _ _ _ hsw]
  refine wpAny_bind (wpAny_standAt (wpAny_bind ?_))
  show wpAny _ X.A (do let _ ← comprehension (.DictComp kx vx [⟨tg, iter, ifs, 0⟩] scope pos) scope X.env (firstIterPos [⟨tg, iter, ifs, 0⟩] pos) newDict false (eval iter X.env) (some (assign (.Name y py) X.env))) _ _ s
  have h : tDc wi g tt tk tv (own.map (·.2)) σ H (fun x H1 => gName i x σ H1 D.nx) := h
  refine wpAny_bind (thn (dc_core (Qf := fun _ s' => SP X pins D .next s') hc hN I hi ok hg ht hk he hs h fun L C s' m H' I' q hn f => ?_) fun _ s' hq => wpAny_pure (wpAny_pure hq))
  obtain ⟨f0, f1, f2, f3, f4, f5⟩ := f
  refine wpAny_assign_Name (store_ok2 (v := V.ref L) I' hN hy (.inl hyl) rfl (fun s2 I2 hx => ?_) (.inr hyl))
  obtain ⟨a, sb, ha⟩ := hx
  have haC : C ≠ a := ha.elim (fun z => by rw [z]; exact f1) fun z e => f4 y a z e.symm
  exact ⟨m, hn.sameBut sb haC, fun h3 sb3 => ⟨_, H', I2.turned (t' := s2.toks) (fun b o hb e => (sb3.2 b hb).trans e) f0 f1 f3 f4 f5, q⟩⟩
theorem sw_trueD {kx vx : Expr} {gs : List Comprehension} {scope : Scope} {pos py : Pos} {y : Str} {l : Nat} {env : Env} (hk : env.scope.kind = .function) (hy : env.scope.names.lookup y = some .local) (hl : (py.line == pos.line) = true)
    (ha : (scope.names.any fun (n, k) => n == y && (k == .local || k == .cell)) = false) : swapsWith (.DictComp kx vx gs scope pos) (some (.Name y py)) l env = pure true := by
  have ky : env.kindOf y = some .local := hy
  have hb : env.blockKind = .function := by unfold Env.blockKind; rw [hk]; rfl
  unfold swapsWith
  simp only [hb, ky, ha, Expr.pos, hl]
  rfl
end
/-- a dict comprehension that makes nothing but its dict -/
theorem dcA {J : It} {n : Nat} {Gd : Hp → Prop} {Y : Nat → Hp → V → Hp → Prop} (w : Walk J n Gd Y) {g : TG} {tk tv : TE} {own : List Nat} {σ : L2.St} {H1 : Hp} {D : Addr} {Qd : Hp → Prop} (Pk : Nat → List (Key × V) → Prop) (h0 : Pk 0 [])
    (hG : ∀ kvs, Gd (upd H1 D (.dK kvs)))
    (hs : ∀ i x H' kvs (Ky : V → V → Hp → Prop), i < n → Pk i kvs → Y i (upd H1 D (.dK kvs)) x H' → (∀ k z, kvs.length < sizeLine → Pk (i + 1) (putK kvs k z) → Ky (kV k) z (upd H1 D (.dK kvs))) →
      g x (wipe σ own) H' fun σ2 H2 => wipe σ2 own = wipe σ own ∧ tk σ2 H2 fun y H4 => tv σ2 H4 fun z H5 => Ky y z H5) (hd : ∀ kvs, Pk n kvs → Qd (upd H1 D (.dK kvs))) :
    ∃ W : Nat → Nat → Hp → Prop, (∃ m, W 0 m (upd H1 D (.dK []))) ∧ ∀ i m H, W i m H →
      (J.stop i H ∧ Qd H) ∨ (J.go i H ∧ ∃ Nx : Hp → Prop, (∀ H', Nx H' → ∃ m', m' < m ∧ W (i + 1) m' H') ∧ ∀ x H', J.yld i H x H' → g x (wipe σ own) H' fun σ2 H2 => wipe σ2 own = wipe σ own ∧ tYes σ2 H2 fun b H3 =>
        if b = true then tk σ2 H3 fun y H4 => tv σ2 H4 fun z H5 => ∃ kvs k, y = kV k ∧ H5 D = some (.dK kvs) ∧ kvs.length < sizeLine ∧ Nx (upd H5 D (.dK (putK kvs k z))) else Nx H3) := by
  refine ⟨fun i m H => m = n - i ∧ i ≤ n ∧ ∃ kvs, H = upd H1 D (.dK kvs) ∧ Pk i kvs, ⟨n, by simp, Nat.zero_le _, [], rfl, h0⟩, ?_⟩
  rintro i m H ⟨rfl, hi, kvs, rfl, hp⟩
  by_cases hlt : i < n
  · refine .inr ⟨w.goes i _ hlt (hG kvs), fun H' => ∃ kvs, H' = upd H1 D (.dK kvs) ∧ Pk (i + 1) kvs, fun H' q => ⟨n - (i + 1), by omega, rfl, hlt, q⟩, fun x H' y => ?_⟩
    have := hs i x H' kvs (fun y z H5 => ∃ kvs' k, y = kV k ∧ H5 D = some (.dK kvs') ∧ kvs'.length < sizeLine ∧ (fun H' => ∃ kvs, H' = upd H1 D (.dK kvs) ∧ Pk (i + 1) kvs) (upd H5 D (.dK (putK kvs' k z)))) hlt hp (w.yields i _ x H' hlt (hG kvs) y)
      fun k z hl hp' => ⟨kvs, k, rfl, upd_same, hl, putK kvs k z, upd_upd', hp'⟩
    exact this
  · have e : i = n := by omega
    subst e
    exact .inl ⟨w.stops _ (hG kvs), hd kvs hp⟩
section
variable {P : Program} {w : World} {K : PySem.W.Frag} {mg : Str → Option Value} {base : Heap}
def spSeen (K : PySem.W.Frag) : Sp := fun vs H Q _ => ∃ G sv v ws es, vs = [sv, v] ∧ Same G H ∧ rSrc K G sv ws ∧ rMk K G v es ∧ Wds ws ∧ Mok es ∧ (∀ e ∈ es, e.2.1 ∈ ws.map (·.1)) ∧ (∀ e ∈ ws, (wrOf es e.1 : Rat) * (total ws : Rat) = (e.2 : Rat) * (wholeOf es : Rat)) ∧ ∀ G' H', Nw nM G H G' H' → Q .non H'
theorem sc_seen_at : FnScope ["source", "marking", "texts", "text"] ["source", "marking"] (defScope s_seen_at) := ⟨rfl, rfl, rfl, by decide +kernel, rfl, by decide +kernel, by decide +kernel⟩
theorem ok_seen_at (T : Tx K mg) : Ok P w K mg base 6 (He.ga K "seen_at") ["source", "marking"] (spSeen K) := by
  refine ok_mk (f_seen_at T) (df_kp (f_seen_at T)) sc_seen_at (fun _ _ _ _ _ _ us hl => match us, hl with | [_, _], _ => rfl) (fun vs H Q E h => ?_) (fun cdv A outer s H vs Q E hr h => ?_)
  · obtain ⟨G, sv, v, ws, es, rfl, _⟩ := h
    rfl
  · obtain ⟨G, sv, v, ws, es, rfl, sm, rs, rm, W, M, hin, hwr, k⟩ := h
    refine ⟨_, (pss_cons (ps_setDc (i := 2) (own := [("text", 3)]) (g := (gName 3)) (tt := tYes) rfl sc_seen_at.nd rfl rfl (sw_trueD rfl rfl rfl (by decide +kernel)) (pi_tup (pe_op op_catA (pe_src_texts (K := K) rfl (pe_m0 (pv 0) (c_Table T) (m_Table_texts T) (ok_Table_texts T) (hr.mono (by decide))) (pe_m0 (pv 0) (c_Machine T) (m_Machine_texts T) (ok_Machine_texts T) (hr.mono (by decide)))) (pe_m0 (pv 1) (c_Marking T) (m_Marking_texts T) (ok_Marking_texts T) (hr.mono (by decide))))) (blkOk_by (N := ["source", "marking", "texts", "text"]) (sc := defScope s_seen_at) (by decide +kernel)) (fun _ _ _ _ _ => (pg_name (i := 3) sc_seen_at.nd rfl (Or.inl rfl))) (fun _ _ _ _ _ => pts_nil) (fun _ _ _ _ _ => (pv 3)) (fun _ _ _ _ _ => pe_bl))
      (pss_cons (ps_for PassesOwn.never rfl (pi_list (pe_callB (call_sortedD rfl) (by rfl) (b_sorted T) (by decide +kernel) (pa_cons (pv 2) pa_nil))) (pg_name (i := 3) sc_seen_at.nd rfl (Or.inl rfl))
      (pss_one (ps_if (pt_cmpR (op_neOwn (ok_Share_eq T) (hr.mono (by decide)) (sh_ne T) (sh_eq T) (sh_fn T) (sh_ob T)) (pe_m (pv 1) (c_Marking T) (m_Marking_written_share T) (ok_Marking_written_share T) (hr.mono (by decide)) (pa_cons (pv 3) pa_nil)) (pe_src_share_of (K := K) rfl (pe_m (pv 0) (c_Table T) (m_Table_share_of T) (ok_Table_share_of T) (hr.mono (by decide)) (pa_cons (pv 3) pa_nil)) (pe_m (pv 0) (c_Machine T) (m_Machine_share_of T) (ok_Machine_share_of T) (hr.mono (by decide)) (pa_cons (pv 3) pa_nil))) (nomark _))
        (pss_one (ps_ret (pv 3)))
        pss_nil)))
      (pss_one (ps_ret pe_non)))), ?_⟩
    obtain ⟨a, dx, p, vs, rfl, ha, hp, pr⟩ := id rm
    refine ⟨sv, rfl, G, ws, sm, rs, W, fun v1 G1 H1 n1 r1 => ?_⟩
    obtain ⟨p1, rfl, hp1⟩ := id r1
    refine ⟨_, rfl, a, dx, _, rfl, n1.gh _ _ (n1.gg _ _ ha), rfl, G1, _, es, rfl, n1.gh, Mono.mono n1.gg rm, M.E, fun zs sz mz v2 G2 H2 n2 r2 => ?_⟩
    obtain ⟨p2, rfl, hp2⟩ := id r2
    have n12 := n1.trans n2
    have nes : es ≠ [] := fun e => by
      have := M.p
      rw [e] at this
      exact absurd this (by decide)
    have nzs : zs.map V.str ≠ [] := fun e => by
      have e := List.map_eq_nil_iff.mp e
      obtain ⟨e1, he1⟩ := List.exists_mem_of_ne_nil _ nes
      have := (mz e1.2.1).mpr ⟨e1, he1, rfl⟩
      rw [e] at this
      cases this
    have nts : (ws.map (·.1)).map V.str ≠ [] := fun e => W.ne (by simpa using e)
    have lz : zs.length ≤ ws.length := by
      have := nodup_le (l := zs) (m := ws.map (·.1)) sz.nd fun t ht => by
        obtain ⟨e1, he1, q⟩ := (mz t).mp ht
        rw [← q]
        exact hin e1 he1
      simpa using this
    have fw := W.few
    refine ⟨p1, p2, _, _, rfl, rfl, SqT.of (n2.gh _ _ (n2.gg _ _ hp1)), SqT.of (n2.gh _ _ hp2), by rw [sizeLine_eq]; simp; omega, fun e => absurd e nts, fun _ e => absurd e nzs, fun _ _ p3 hp3 => ?_⟩
    have n3 := n12.allocH (o := .tup ((ws.map (·.1)).map V.str ++ zs.map V.str)) hp3
    have h33 : upd H2 p3 (.tup ((ws.map (·.1)).map V.str ++ zs.map V.str)) p3 = some (.tup ((ws.map (·.1)).map V.str ++ zs.map V.str)) := upd_same
    have gG : ∀ {R : Rep Unit}, True := fun {_} => trivial
    generalize upd H2 p3 (.tup ((ws.map (·.1)).map V.str ++ zs.map V.str)) = H3 at n3 h33
    refine ⟨p3, rfl, ⟨_, SqT.of h33⟩, fun D hD => ?_⟩
    refine dcA (walk_tup (xs := (ws.map (·.1)).map V.str ++ zs.map V.str)) (fun i kvs => ∃ ks, KeysAre kvs ks ∧ ks.Nodup ∧ ∀ t, t ∈ ks ↔ t ∈ (ws.map (·.1) ++ zs).take i) ⟨[], rfl, List.nodup_nil, fun t => by simp⟩ (fun kvs => SqT.of (get_new h33 hD)) (fun i x H' kvs Ky hi hk y hky => ?_) fun kvs hk => ?_
    · obtain ⟨rfl, hx⟩ := y
      obtain ⟨ks, ka, nd, mem⟩ := hk
      rw [← List.map_append, List.getElem?_map] at hx
      cases ht : (ws.map (·.1) ++ zs)[i]? with
      | none => rw [ht] at hx; cases hx
      | some t =>
        rw [ht] at hx
        obtain rfl := (Option.some.inj hx).symm
        refine ⟨rfl, _, rfl, hky (.inr t) (.bl true) ?_ ⟨_, ka.put t _, put_nd t nd, fun u => ?_⟩⟩
        · rw [ka.len, sizeLine_eq]
          have := nodup_le (l := ks) (m := (ws.map (·.1) ++ zs).take i) nd fun u hu => (mem u).mp hu
          rw [List.length_take, List.length_append, List.length_map] at this
          omega
        · rw [put_mem, mem, List.take_add_one, ht, List.mem_append]
          simp
          exact Or.comm
    · obtain ⟨ks, ka, nd, mem⟩ := hk
      have mem2 : ∀ t, t ∈ ks ↔ t ∈ ws.map (·.1) := fun t => by
        rw [mem, List.take_of_length_le (by simp), List.mem_append]
        refine ⟨fun h => h.elim id fun h => ?_, .inl⟩
        obtain ⟨e1, he1, q⟩ := (mz t).mp h
        rw [← q]
        exact hin e1 he1
      have n4 := n3.allocH (o := .dK kvs) hD
      have hD4 : upd H3 D (.dK kvs) D = some (.dK kvs) := upd_same
      generalize upd H3 D (.dK kvs) = H4 at n4 hD4
      refine ⟨_, rfl, D, kvs, ks, rfl, Rd.of hD4, ka, Nat.lt_of_le_of_lt (nodup_le nd fun t ht => (mem2 t).mp ht) (by rw [List.length_map]; omega), fun ys q pm so hq => ?_⟩
      have n5 := n4.allocH (o := .lst (ys.map V.str)) hq
      have hq5 : upd H4 q (.lst (ys.map V.str)) q = some (.lst (ys.map V.str)) := upd_same
      generalize upd H4 q (.lst (ys.map V.str)) = H5 at n5 hq5
      refine ⟨q, rfl, ⟨_, SqL.of hq5⟩, ?_⟩
      refine for_it (walk_list (xs := ys.map V.str)) (fun i σ H' => ∃ (z : Option V) (Gc : Hp), σ = [some sv, some (.ref a), some (.ref D), z] ∧ Nw nM G2 H5 Gc H') ⟨none, G2, rfl, Nw.refl n5.gh⟩ (fun i σ H' _ h => by obtain ⟨z, Gc, rfl, n⟩ := h; exact SqL.of (n.hh _ _ (fun z => z) hq5)) ?_ ?_
      · rintro i y σ H6 H7 hi ⟨z, Gc, rfl, n6⟩ ⟨rfl, hy⟩
        have hi' : i < ys.length := by simpa using hi
        have hyi : ys[i]? = some ys[i] := List.getElem?_eq_getElem hi'
        rw [List.getElem?_map, hyi] at hy
        have hy := (Option.some.inj hy).symm
        have hy : y = .str ys[i] := hy
        subst hy
        obtain ⟨e, he, ee⟩ := List.mem_map.mp ((mem2 _).mp (pm.mem_iff.mp (List.getElem_mem hi')))
        have sG := n12.gg.trans n6.gg
        refine ⟨_, rfl, a, dx, _, rfl, n6.gh _ _ (sG _ _ ha), rfl, _, rfl, Gc, _, es, ys[i], rfl, n6.gh, Mono.mono sG rm, M.E, M.p, pow_up M.b (by decide), fun vq G8 H8 n8 r8 => ?_⟩
        refine ⟨sv, rfl, G8, ws, e, by rw [ee]; rfl, n8.gh, Mono.mono (sG.trans n8.gg) rs, W, he, fun vr G9 H9 n9 r9 => ?_⟩
        obtain ⟨b1, d1, rfl, hb1⟩ := id r8
        obtain ⟨b2, d2, rfl, hb2⟩ := id r9
        refine ⟨b1, b2, d1, d2, _, _, rfl, rfl, n9.gh _ _ (n9.gg _ _ hb1), n9.gh _ _ hb2, G9, _, _, _, _, rfl, n9.gh, Mono.mono n9.gg r8, r9, ?_⟩
        have eq : (wrOf es ys[i] : Rat) / (wholeOf es : Rat) = (e.2 : Rat) / (total ws : Rat) := by
          have wne : (wholeOf es : Rat) ≠ 0 := int_ne_rat (by have := M.p; omega)
          have tne : (total ws : Rat) ≠ 0 := int_ne_rat (by have := sum_pos W.pos W.ne; omega)
          have := hwr e he
          rw [ee] at this
          grind
        refine ⟨_, rfl, _, rfl, itF ?_ ⟨_, G9, rfl, (n6.trans n8).trans n9⟩⟩
        rw [decide_eq_true eq]
        simp
      · rintro σ H6 ⟨z, Gc, rfl, n6⟩
        exact k Gc _ (n5.trans n6)
def spGap (K : PySem.W.Frag) : Sp := fun vs H Q _ => ∃ G sv cv lv v ws rows lam es V, vs = [sv, cv, lv, v] ∧ PreI K G H sv cv lv ws rows lam ∧ rMk K G v es ∧ Mok es ∧ (∀ e ∈ es, e.2.1 ∈ ws.map (·.1)) ∧ (∀ e ∈ ws, (wrOf es e.1 : Rat) * (total ws : Rat) = (e.2 : Rat) * (wholeOf es : Rat)) ∧
  (∀ t, (accOf es t : Rat) / (wholeOf es : Rat) ≤ lam) ∧ (∀ V', Val ws rows lam V' → V' = V) ∧ (fndOf rows es : Rat) / (wholeOf es : Rat) = V ∧ Ret nM G H (rSh K) 0 Q
theorem sc_gap : FnScope ["source", "changes", "level", "marking", "seen", "accused"] ["source", "changes", "level", "marking"] (defScope s_gap) := ⟨rfl, rfl, rfl, by decide +kernel, rfl, by decide +kernel, by decide +kernel⟩
theorem PreI.mono {G H G' H' : Hp} {sv cv lv : V} {ws : List Wd} {rows : List Row} {lam : Rat} (p : PreI K G H sv cv lv ws rows lam) (n : Nw nM G H G' H') : PreI K G' H' sv cv lv ws rows lam := ⟨n.gh, Mono.mono n.gg p.s, Mono.mono n.gg p.c, Mono.mono n.gg p.l, p.I, p.b, p.p⟩
theorem ok_gap (T : Tx K mg) : Ok P w K mg base 9 (He.ga K "gap") ["source", "changes", "level", "marking"] (spGap K) := by
  refine ok_mk (f_gap T) (df_kp (f_gap T)) sc_gap (fun _ _ _ _ _ _ us hl => match us, hl with | [_, _, _, _], _ => rfl) (fun vs H Q E h => ?_) (fun cdv A outer s H vs Q E hr h => ?_)
  · obtain ⟨G, sv, cv, lv, v, ws, rows, lam, es, V, rfl, _⟩ := h
    rfl
  · obtain ⟨G, sv, cv, lv, v, ws, rows, lam, es, V, rfl, p, rm, M, hin, hwr, hacc, hV, hf, k⟩ := h
    refine ⟨_, (pss_cons (ps_expr (pe_c (ok_known T) (hr.mono (by decide)) rfl (g_known T) (pa_cons (pv 0) (pa_cons (pv 1) pa_nil))))
      (pss_cons (ps_set (i := 4) sc_gap.nd rfl (Or.inl rfl) (pe_c (ok_seen_at T) (hr.mono (by decide)) rfl (g_seen_at T) (pa_cons (pv 0) (pa_cons (pv 3) pa_nil))))
      (pss_cons (ps_if (pt_cmpR op_notN (pv 4) pe_non (nomark _))
        (pss_one ps_never)
        pss_nil)
      (pss_cons (ps_set (i := 5) sc_gap.nd rfl (Or.inl rfl) (pe_c (ok_accused_at T) (hr.mono (by decide)) rfl (g_accused_at T) (pa_cons (pv 3) (pa_cons (pv 2) pa_nil))))
      (pss_cons (ps_if (pt_cmpR op_notN (pv 5) pe_non (nomark _))
        (pss_one ps_never)
        pss_nil)
      (pss_one (ps_ret (pe_op (op_subOwn (ok_Share_sub T) (hr.mono (by decide)) (sh_sub T) (sh_fns T) (sh_first T)) (pe_c (ok_worth T) (hr.mono (by decide)) rfl (g_worth T) (pa_cons (pv 0) (pa_cons (pv 1) (pa_cons (pv 2) pa_nil)))) (pe_c (ok_found_share T) (hr.mono (by decide)) rfl (g_found_share T) (pa_cons (pv 1) (pa_cons (pv 3) pa_nil))))))))))), ?_⟩
    have hinr : ∀ e ∈ es, e.2.1 ∈ rows.map (·.1) := fun e he => by
      obtain ⟨x, hx, q⟩ := List.mem_map.mp (hin e he)
      rw [← q]
      exact p.I.has x hx
    refine ⟨_, rfl, _, rfl, G, sv, cv, ws, rows, rfl, p.sm, p.s, p.I.W, p.c, p.I.R.nd, p.I.has, fun G1 H1 n1 => ?_⟩
    have p1 := p.mono n1
    refine ⟨_, rfl, _, rfl, G1, _, _, ws, es, rfl, n1.gh, p1.s, Mono.mono n1.gg rm, p.I.W, M, hin, hwr, fun G2 H2 n2 => ?_⟩
    have p2 := p1.mono n2
    refine ⟨_, rfl, rfl, _, rfl, itF (by simp) ?_⟩
    refine ⟨_, rfl, _, rfl, G2, _, _, es, lam, rfl, n2.gh, Mono.mono (n1.gg.trans n2.gg) rm, p2.l, M, p.b.mono (by decide), hacc, fun G3 H3 n3 => ?_⟩
    have p3 := p2.mono n3
    refine ⟨_, rfl, rfl, _, rfl, itF (by simp) ?_⟩
    refine ⟨_, rfl, _, rfl, _, rfl, G3, _, _, _, ws, rows, lam, rfl, p3, fun V' hV' bV v4 G4 H4 n4 r4 => ?_⟩
    have p4 := p3.mono n4
    have rm4 := Mono.mono (R := rMk K) ((n1.gg.trans n2.gg).trans (n3.gg.trans n4.gg)) rm
    refine ⟨_, rfl, _, rfl, G4, _, _, es, rows, rfl, n4.gh, p4.c, rm4, M, p.I.R, hinr, fun v5 G5 H5 n5 r5 => ?_⟩
    have eV := hV V' hV'
    subst eV
    rw [hf] at r5
    obtain ⟨b1, d1, rfl, hb1⟩ := id r4
    obtain ⟨b2, d2, rfl, hb2⟩ := id r5
    refine ⟨b1, b2, d1, d2, _, _, rfl, rfl, n5.gh _ _ (n5.gg _ _ hb1), n5.gh _ _ hb2, G5, _, _, _, _, rfl, n5.gh, Mono.mono n5.gg r4, r5, bV.mono (by decide), bV.mono (by decide), fun v6 G6 H6 n6 r6 => ?_⟩
    have e0 : V' - V' = 0 := by grind
    rw [e0] at r6
    exact k v6 G6 H6 ((((n1.trans n2).trans n3).trans n4).trans (n5.trans n6)) r6
end
end Mk

-- K1
set_option Elab.async false
set_option linter.all false
set_option maxRecDepth 100000
set_option maxHeartbeats 4000000
set_option exponentiation.threshold 20000
namespace Mk
open PySem PySem.Spec PyProof.Rows L2
open C8 (InsC call_isC)
section
variable {P : Program} {w : World} {K : PySem.W.Frag} {mg : Str → Option Value} {base : Heap}
/-! ### the law's small checks -/
def spInt : Sp := fun vs H Q _ => ∃ i : Int, vs = [.int i] ∧ Q (.bl true) H
theorem sc__law_integer : FnScope ["_law_value"] ["_law_value"] (defScope s__law_integer) := ⟨rfl, rfl, rfl, by decide +kernel, rfl, by decide +kernel, by decide +kernel⟩
theorem ok__law_integer (T : Tx K mg) : Ok P w K mg base 1 (He.ga K "_law_integer") ["_law_value"] spInt := by
  refine ok_mk (f__law_integer T) (df_kp (f__law_integer T)) sc__law_integer (fun _ _ _ _ _ _ us hl => match us, hl with | [_], _ => rfl) (fun vs H Q E h => ?_) (fun cdv A outer s H vs Q E hr h => ?_)
  · obtain ⟨i, rfl, _⟩ := h
    rfl
  · obtain ⟨i, rfl, k⟩ := h
    refine ⟨_, (pss_one (ps_ret (pe_and (pe_callB call_isi (by rfl) (b_isinstance T) (by decide +kernel) (pa_cons (pv 0) (pa_cons (pe_bltn (v := .ty "int") (by rfl) (b_int T) (by decide +kernel) rfl) pa_nil))) (pe_one (pe_not (pe_callB call_isi (by rfl) (b_isinstance T) (by decide +kernel) (pa_cons (pv 0) (pa_cons (pe_bltn (v := .ty "bool") (by rfl) (b_bool T) (by decide +kernel) rfl) pa_nil)))))))), ?_⟩
    refine ⟨_, rfl, _, _, .type "int", _, true, rfl, .ty "int", .base (.int _), kit_ii, _, rfl, itT rfl ?_⟩
    exact ⟨_, rfl, _, _, .type "int", _, false, rfl, .ty "bool", .base (.int _), kit_ib, _, rfl, k⟩
theorem sc__is_integer : FnScope ["value"] ["value"] (defScope s__is_integer) := ⟨rfl, rfl, rfl, by decide +kernel, rfl, by decide +kernel, by decide +kernel⟩
theorem ok__is_integer (T : Tx K mg) : Ok P w K mg base 1 (He.ga K "_is_integer") ["value"] spInt := by
  refine ok_mk (f__is_integer T) (df_kp (f__is_integer T)) sc__is_integer (fun _ _ _ _ _ _ us hl => match us, hl with | [_], _ => rfl) (fun vs H Q E h => ?_) (fun cdv A outer s H vs Q E hr h => ?_)
  · obtain ⟨i, rfl, _⟩ := h
    rfl
  · obtain ⟨i, rfl, k⟩ := h
    refine ⟨_, (pss_one (ps_ret (pe_and (pe_callB call_isi (by rfl) (b_isinstance T) (by decide +kernel) (pa_cons (pv 0) (pa_cons (pe_bltn (v := .ty "int") (by rfl) (b_int T) (by decide +kernel) rfl) pa_nil))) (pe_one (pe_not (pe_callB call_isi (by rfl) (b_isinstance T) (by decide +kernel) (pa_cons (pv 0) (pa_cons (pe_bltn (v := .ty "bool") (by rfl) (b_bool T) (by decide +kernel) rfl) pa_nil)))))))), ?_⟩
    refine ⟨_, rfl, _, _, .type "int", _, true, rfl, .ty "int", .base (.int _), kit_ii, _, rfl, itT rfl ?_⟩
    exact ⟨_, rfl, _, _, .type "int", _, false, rfl, .ty "bool", .base (.int _), kit_ib, _, rfl, k⟩
def spGood (K : PySem.W.Frag) : Sp := fun vs H Q _ => ∃ G v q, vs = [v] ∧ Same G H ∧ rSh K G v q ∧ Q (.bl true) H
theorem sc__law_good : FnScope ["_law_share"] ["_law_share"] (defScope s__law_good) := ⟨rfl, rfl, rfl, by decide +kernel, rfl, by decide +kernel, by decide +kernel⟩
theorem ok__law_good (T : Tx K mg) : Ok P w K mg base 2 (He.ga K "_law_good") ["_law_share"] (spGood K) := by
  refine ok_mk (f__law_good T) (df_kp (f__law_good T)) sc__law_good (fun _ _ _ _ _ _ us hl => match us, hl with | [_], _ => rfl) (fun vs H Q E h => ?_) (fun cdv A outer s H vs Q E hr h => ?_)
  · obtain ⟨G, v, q, rfl, _⟩ := h
    rfl
  · obtain ⟨G, v, q, rfl, sm, ⟨a, dx, rfl, ha⟩, k⟩ := h
    have ha := sm _ _ ha
    refine ⟨_, (pss_cons (ps_if (PW.pt (pw_or (pt_not (pt_val (pe_callB (call_isC (in_Share T)) (by rfl) (b_isinstance T) (by decide +kernel) (pa_cons (pv 0) (pa_cons (pe_glob (v := .ref (He.ga K "Share")) rfl (g_Share T) rfl) pa_nil))))) (pw_or (pt_not (pt_val (pe_c (ok__law_integer T) (hr.mono (by decide)) rfl (g__law_integer T) (pa_cons (pe_f (c_Share T) (n_Share_over T) (pv 0)) pa_nil)))) (pw_or1 (pt_not (pt_val (pe_c (ok__law_integer T) (hr.mono (by decide)) rfl (g__law_integer T) (pa_cons (pe_f (c_Share T) (n_Share_under T) (pv 0)) pa_nil))))))))
        (pss_one (ps_ret pe_bl))
        pss_nil)
      (pss_one (ps_ret (pe_cmpR op_gt (pe_f (c_Share T) (n_Share_under T) (pv 0)) pe_int (nomark _))))), ?_⟩
    refine ⟨_, rfl, a, dx, _, rfl, ha, _, rfl, itF (by simp) ?_⟩
    refine ⟨_, rfl, a, dx, _, _, rfl, ha, rfl, _, rfl, _, rfl, itF (by simp) ?_⟩
    refine ⟨_, rfl, a, dx, _, _, rfl, ha, rfl, _, rfl, _, rfl, itF (by simp) ?_⟩
    refine ⟨_, rfl, a, dx, _, _, rfl, ha, rfl, _, _, rfl, rfl, ?_⟩
    show Q (.bl (decide ((0 : Int) < (q.den : Int)))) H
    rw [decide_eq_true (den_pos q)]
    exact k
def spPrs (K : PySem.W.Frag) : Sp := fun vs H Q _ => ∃ (G : Hp) (v : V) (u : Addr) (ps : List (Str × Rat)), vs = [v, .ref u] ∧ Same G H ∧ rTup (rPr rStr (rSh K)) G v ps ∧ H u = some (.lst ((ps.map (·.1)).map V.str)) ∧ ∀ H', Nw nM G H G H' → Q (.bl true) H'
theorem sc__law_pairs_are : FnScope ["_law_got", "_law_texts_here", "_law_pair", "_law_text_here"] ["_law_got", "_law_texts_here"] (defScope s__law_pairs_are) := ⟨rfl, rfl, rfl, by decide +kernel, rfl, by decide +kernel, by decide +kernel⟩
theorem ok__law_pairs_are (T : Tx K mg) : Ok P w K mg base 3 (He.ga K "_law_pairs_are") ["_law_got", "_law_texts_here"] (spPrs K) := by
  refine ok_mk (f__law_pairs_are T) (df_kp (f__law_pairs_are T)) sc__law_pairs_are (fun _ _ _ _ _ _ us hl => match us, hl with | [_, _], _ => rfl) (fun vs H Q E h => ?_) (fun cdv A outer s H vs Q E hr h => ?_)
  · obtain ⟨G, v, u, ps, rfl, _⟩ := h
    rfl
  · obtain ⟨G, v, u, ps, rfl, sm, ⟨p, vs, rfl, hp, pr⟩, hu, k⟩ := h
    refine ⟨_, (pss_cons (ps_if (PW.pt (pw_or (pt_not (pt_val (pe_callB call_isi (by rfl) (b_isinstance T) (by decide +kernel) (pa_cons (pv 0) (pa_cons (pe_bltn (v := .ty "tuple") (by rfl) (b_tuple T) (by decide +kernel) rfl) pa_nil))))) (pw_or1 (pt_cmpR op_ne (pe_callB call_len_seq (by rfl) (b_len T) (by decide +kernel) (pa_cons (pv 0) pa_nil)) (pe_callB call_len_seq (by rfl) (b_len T) (by decide +kernel) (pa_cons (pv 1) pa_nil)) (nomark _)))))
        (pss_one (ps_ret pe_bl))
        pss_nil)
      (pss_cons (ps_for PassesOwn.never rfl (pi_zipX (by rfl) (b_zip T) (pa_cons (pv 0) (pa_cons (pv 1) pa_nil))) (pg_tup rfl (pgs_cons (pg_name (i := 2) sc__law_pairs_are.nd rfl (Or.inl rfl)) (pgs_cons (pg_name (i := 3) sc__law_pairs_are.nd rfl (Or.inl rfl)) pgs_nil)))
      (pss_cons (ps_if (PW.pt (pw_or (pt_not (pt_val (pe_callB call_isi (by rfl) (b_isinstance T) (by decide +kernel) (pa_cons (pv 2) (pa_cons (pe_bltn (v := .ty "tuple") (by rfl) (b_tuple T) (by decide +kernel) rfl) pa_nil))))) (pw_or (pt_cmpR op_ne (pe_callB call_len_seq (by rfl) (b_len T) (by decide +kernel) (pa_cons (pv 2) pa_nil)) pe_int (nomark _)) (pw_or (pt_not (pt_val (pe_callB call_isi (by rfl) (b_isinstance T) (by decide +kernel) (pa_cons (pe_ix ix_tup (pv 2) pe_int (fun _ _ => rfl)) (pa_cons (pe_bltn (v := .ty "str") (by rfl) (b_str T) (by decide +kernel) rfl) pa_nil))))) (pw_or1 (pt_cmpR op_ne (pe_ix ix_tup (pv 2) pe_int (fun _ _ => rfl)) (pv 3) (nomark _)))))))
        (pss_one (ps_ret pe_bl))
        pss_nil)
      (pss_one (ps_if (pt_not (pt_val (pe_c (ok__law_good T) (hr.mono (by decide)) rfl (g__law_good T) (pa_cons (pe_ix ix_tup (pv 2) pe_int (fun _ _ => rfl)) pa_nil))))
        (pss_one (ps_ret pe_bl))
        pss_nil))))
      (pss_one (ps_ret pe_bl)))), ?_⟩
    have hpH := sm _ _ hp
    have lv := paired_len pr
    refine ⟨_, rfl, _, _, .type "tuple", _, true, rfl, .ty "tuple", .base (.tup hpH), kit_tt, _, rfl, itF (by simp) ?_⟩
    refine ⟨_, rfl, p, _, rfl, .inr (SqT.of hpH), _, rfl, u, _, rfl, .inl (SqL.of hu), rfl, _, rfl, itF ?_ ?_⟩
    · simp [lv]
    · refine ⟨_, rfl, _, rfl, .tup p, .lst u, _, _, rfl, Rd.of hpH, Rd.of hu, ?_⟩
      refine for_it (walk_zipX (q1 := .tup p) (q2 := .lst u) (xs := vs) (ys := (ps.map fun q => q.1).map V.str) (n := ps.length) (by simp [lv])) (fun i σ H' => ∃ (z1 z2 : Option V), σ = [some (.ref p), some (.ref u), z1, z2] ∧ Nw nM G H G H') ⟨none, none, rfl, Nw.refl sm⟩ (fun i σ H' _ h => by obtain ⟨z1, z2, rfl, n⟩ := h; exact ⟨Rd.of (n.hh _ _ (fun z => z) hpH), Rd.of (n.hh _ _ (fun z => z) hu)⟩) ?_ ?_
      · rintro i y σ H1 H2 hi ⟨z1, z2, rfl, n⟩ ⟨T1, y1, y2, rfl, hT1, rfl, e1, e2⟩
        obtain ⟨q, hq, t, ta, tb, rfl, ht, rta, rtb⟩ := paired_get pr e1
        have rta : ta = .str q.1 := rta
        subst rta
        have e2 : ((ps.map fun q => q.1).map V.str)[i]? = some y2 := e2
        rw [List.getElem?_map, List.getElem?_map, hq] at e2
        have e2 := (Option.some.inj e2).symm
        have e2 : y2 = .str q.1 := e2
        subst e2
        have n2 := n.allocH (o := .tup [.ref t, .str q.1]) hT1
        have hT2 : upd H1 T1 (.tup [.ref t, .str q.1]) T1 = some (.tup [.ref t, .str q.1]) := upd_same
        generalize upd H1 T1 (.tup [.ref t, .str q.1]) = H2 at n2 hT2
        have ht2 := n2.gh _ _ ht
        refine ⟨T1, _, rfl, SqT.of hT2, rfl, _, _, rfl, _, _, rfl, rfl, ?_⟩
        refine ⟨_, rfl, _, _, .type "tuple", _, true, rfl, .ty "tuple", .base (.tup ht2), kit_tt, _, rfl, itF (by simp) ?_⟩
        refine ⟨_, rfl, t, [.str q.1, tb], rfl, .inr (SqT.of ht2), rfl, _, rfl, itF (show ¬ (!decide (V.int ((2 : Nat) : Int) = V.int 2)) = true by simp) ?_⟩
        refine ⟨_, rfl, t, _, _, _, rfl, rfl, SqT.of ht2, rfl, _, _, .type "str", _, true, rfl, .ty "str", .base (.str _), kit_ss, _, rfl, itF (by simp) ?_⟩
        refine ⟨_, rfl, t, _, _, _, rfl, rfl, SqT.of ht2, rfl, _, rfl, rfl, _, rfl, itF (by simp) ?_⟩
        refine ⟨_, rfl, t, _, _, _, rfl, rfl, SqT.of ht2, rfl, G, _, _, rfl, n2.gh, rtb, _, rfl, itF (by simp) ⟨_, _, rfl, n2⟩⟩
      · rintro σ H1 ⟨z1, z2, rfl, n⟩
        exact k _ n
def spUnd (K : PySem.W.Frag) : Sp := fun vs H Q _ => ∃ (G : Hp) (v : V) (ps : List (Str × Rat)) (B : Nat), vs = [v] ∧ Same G H ∧ rTup (rPr rStr (rSh K)) G v ps ∧ ps.length ≤ 60 ∧ B ≤ 400 ∧ (∀ p ∈ ps, p.2.den < 2 ^ B) ∧ ∀ C : Nat, 0 < C → (∀ p ∈ ps, p.2.den ∣ C) → C < 2 ^ (B * ps.length + 1) → Q (.int C) H
theorem sc__law_under : FnScope ["_law_pairs_here", "_law_under_here", "_law_text_here", "_law_share"] ["_law_pairs_here"] (defScope s__law_under) := ⟨rfl, rfl, rfl, by decide +kernel, rfl, by decide +kernel, by decide +kernel⟩
theorem ok__law_under (T : Tx K mg) : Ok P w K mg base 1 (He.ga K "_law_under") ["_law_pairs_here"] (spUnd K) := by
  refine ok_mk (f__law_under T) (df_kp (f__law_under T)) sc__law_under (fun _ _ _ _ _ _ us hl => match us, hl with | [_], _ => rfl) (fun vs H Q E h => ?_) (fun cdv A outer s H vs Q E hr h => ?_)
  · obtain ⟨G, v, ps, B, rfl, _⟩ := h
    rfl
  · obtain ⟨G, v, ps, B, rfl, sm, ⟨p, vs, rfl, hp, pr⟩, hl, hB, hb, k⟩ := h
    refine ⟨_, (pss_cons (ps_set (i := 1) sc__law_under.nd rfl (Or.inl rfl) pe_int)
      (pss_cons (ps_for PassesOwn.never rfl (pi_tup (pv 0)) (pg_tup rfl (pgs_cons (pg_name (i := 2) sc__law_under.nd rfl (Or.inl rfl)) (pgs_cons (pg_name (i := 3) sc__law_under.nd rfl (Or.inl rfl)) pgs_nil)))
      (pss_one (ps_if (pt_cmpR op_ne (pe_op op_mod (pe_callTy call_int1 (by rfl) (b_int T) (by decide +kernel) (pa_cons (pv 1) pa_nil)) (pe_f (c_Share T) (n_Share_under T) (pv 3))) pe_int (nomark _))
        (pss_one (ps_set (i := 1) sc__law_under.nd rfl (Or.inl rfl) (pe_op op_mulX (pv 1) (pe_f (c_Share T) (n_Share_under T) (pv 3)))))
        pss_nil)))
      (pss_one (ps_ret (pv 1))))), ?_⟩
    have hpH := sm _ _ hp
    have lv := paired_len pr
    refine ⟨_, rfl, p, rfl, ⟨_, SqT.of hpH⟩, ?_⟩
    refine for_it (walk_tup (xs := vs)) (fun i σ H' => ∃ (C : Nat) (z1 z2 : Option V), σ = [some (.ref p), some (.int C), z1, z2] ∧ H' = H ∧ 0 < C ∧ (∀ q ∈ ps.take i, q.2.den ∣ C) ∧ C < 2 ^ (B * i + 1))
      ⟨1, none, none, rfl, rfl, by decide, fun q h => (by simp at h), by simp⟩ (fun i σ H' _ h => by obtain ⟨C, z1, z2, rfl, rfl, _⟩ := h; exact SqT.of hpH) ?_ ?_
    · rintro i y σ H1 H2 hi ⟨C, z1, z2, rfl, rfl, hC, hd, hlt⟩ ⟨rfl, hv⟩
      obtain ⟨q, hq, t, ta, tb, rfl, ht, rta, a, dx, rfl, ha⟩ := paired_get pr hv
      have tk : ps.take (i + 1) = ps.take i ++ [q] := by rw [List.take_add_one, hq]; rfl
      have hqm := List.mem_of_getElem? hq
      have haH := sm _ _ ha
      have dp := den_pos q.2
      have hq0 := hb q hqm
      refine ⟨t, _, rfl, SqT.of (sm _ _ ht), rfl, _, _, rfl, _, _, rfl, rfl, ?_⟩
      refine ⟨_, rfl, .inl ⟨_, rfl, _, rfl, a, dx, _, _, rfl, haH, rfl, (C : Int), (q.2.den : Int), rfl, rfl, dp, rfl, _, rfl, ite2 (fun c => ?_) fun c => ?_⟩⟩
      · refine ⟨_, rfl, _, rfl, a, dx, _, _, rfl, haH, rfl, _, _, rfl, rfl, mulx_ok (a := B * i + 1) (b := B) (by simpa using hlt) (by simpa using hq0) ?_, C * q.2.den, _, _, by rw [Int.natCast_mul]; rfl, rfl, Nat.mul_pos hC (by omega), fun r hr2 => ?_, ?_⟩
        · have : i ≤ 60 := by omega
          have : B * i ≤ 400 * 60 := Nat.mul_le_mul hB this
          omega
        · rw [tk] at hr2
          rcases List.mem_append.mp hr2 with h | h
          · exact Nat.dvd_trans (hd r h) (Nat.dvd_mul_right _ _)
          · rw [List.mem_singleton.mp h]
            exact Nat.dvd_mul_left _ _
        · have := Nat.mul_lt_mul'' hlt hq0
          rw [← Nat.pow_add] at this
          rw [show B * (i + 1) + 1 = B * i + 1 + B by rw [Nat.mul_add]; omega]
          exact this
      · refine ⟨C, _, _, rfl, rfl, hC, fun r hr2 => ?_, Nat.lt_of_lt_of_le hlt (Nat.pow_le_pow_right (by decide) (by rw [Nat.mul_add]; omega))⟩
        rw [tk] at hr2
        rcases List.mem_append.mp hr2 with h | h
        · exact hd r h
        · rw [List.mem_singleton.mp h]
          have e0 : (C : Int) % (q.2.den : Int) = 0 := by
            have c : V.int ((C : Int) % (q.2.den : Int)) = V.int 0 := by simpa using c
            injection c
          have := Int.dvd_of_emod_eq_zero e0
          exact Int.natCast_dvd_natCast.mp this
    · rintro σ H1 ⟨C, z1, z2, rfl, rfl, hC, hd, hlt⟩
      rw [lv, List.take_length] at hd
      rw [lv] at hlt
      exact ⟨_, rfl, k C hC hd hlt⟩
end
end Mk

-- K2
set_option Elab.async false
set_option linter.all false
set_option maxRecDepth 100000
set_option maxHeartbeats 4000000
set_option exponentiation.threshold 20000
namespace Mk
open PySem PySem.Spec PyProof.Rows L2
open C8 (InsC call_isC)
abbrev rRows : Rep (List Row) := rLst (rPr rStr (rLf V.str))
abbrev rWds : Rep (List Wd) := rLst (rPr rStr rInt)
/-- Euclid, so many turns -/
def eu : Nat → Int → Int → Int
  | 0, a, _ => a
  | n + 1, a, b => if b = 0 then a else eu n b (a % b)
theorem eu_gcd : ∀ (n : Nat) (a b : Int), 0 ≤ a → 0 ≤ b → b < n → eu n a b = (Int.gcd a b : Nat)
  | 0, a, b, _, hb, h => by omega
  | n + 1, a, b, ha, hb, h => by
    unfold eu
    by_cases e : b = 0
    · rw [if_pos e, e, Int.gcd_zero_right]
      omega
    · rw [if_neg e, eu_gcd n b (a % b) hb (Int.emod_nonneg _ e) (by have := Int.emod_lt_of_pos a (show 0 < b by omega); omega), gcd_turn ha (by omega)]
section
variable {P : Program} {w : World} {K : PySem.W.Frag} {mg : Str → Option Value} {base : Heap}
def spEu : Sp := fun vs H Q _ => ∃ a b : Int, vs = [.int a, .int b] ∧ 0 ≤ a ∧ 0 ≤ b ∧ b < 2 * ((Builtin.Int.intBits a : Int) + (Builtin.Int.intBits b : Int)) + 4 ∧ Builtin.Int.intBits a < 1000 ∧ Builtin.Int.intBits b < 1000 ∧ Q (.int (Int.gcd a b : Nat)) H
theorem sc__law_gcd : FnScope ["_law_one", "_law_other", "_law_k"] ["_law_one", "_law_other"] (defScope s__law_gcd) := ⟨rfl, rfl, rfl, by decide +kernel, rfl, by decide +kernel, by decide +kernel⟩
theorem ok__law_gcd (T : Tx K mg) : Ok P w K mg base 1 (He.ga K "_law_gcd") ["_law_one", "_law_other"] spEu := by
  refine ok_mk (f__law_gcd T) (df_kp (f__law_gcd T)) sc__law_gcd (fun _ _ _ _ _ _ us hl => match us, hl with | [_, _], _ => rfl) (fun vs H Q E h => ?_) (fun cdv A outer s H vs Q E hr h => ?_)
  · obtain ⟨a, b, rfl, _⟩ := h
    rfl
  · obtain ⟨a, b, rfl, ha, hb, hlt, b1, b2, k⟩ := h
    refine ⟨_, (pss_cons (ps_for PassesOwn.never rfl (pi_range1 (by rfl) (b_range T) (pa_cons (pe_op op_add (pe_op op_mulX pe_int (pe_op op_add (pe_bits (pv 0)) (pe_bits (pv 1)))) pe_int) pa_nil)) (pg_name (i := 2) sc__law_gcd.nd rfl (Or.inl rfl))
      (pss_cons (ps_if (pt_cmpR op_eq (pv 1) pe_int (nomark _))
        (pss_one (ps_ret (pv 0)))
        pss_nil)
      (pss_one (ps_par (i := 0) (j := 1) rfl sc__law_gcd.nd rfl rfl (by decide) rfl rfl (pa_cons (pv 1) (pa_cons (pe_op op_mod (pe_callTy call_int1 (by rfl) (b_int T) (by decide +kernel) (pa_cons (pv 0) pa_nil)) (pv 1)) pa_nil)) (by rfl)))))
      (pss_one (ps_ret (pv 0)))), ?_⟩
    have hn : ∃ n : Nat, (n : Int) = 2 * ((Builtin.Int.intBits a : Int) + (Builtin.Int.intBits b : Int)) + 4 := ⟨2 * (Builtin.Int.intBits a + Builtin.Int.intBits b) + 4, by omega⟩
    obtain ⟨n, hn⟩ := hn
    refine ⟨_, rfl, _, rfl, _, rfl, _, rfl, _, _, rfl, rfl, _, _, rfl, rfl, mulx_ok (a := 2) (b := 20) (by decide) (by omega) (by decide), _, _, rfl, rfl, _, rfl, by omega, by omega, ?_⟩
    have en : (2 * ((Builtin.Int.intBits a : Int) + (Builtin.Int.intBits b : Int)) + 4).toNat = n := by omega
    rw [← eu_gcd n a b ha hb (by omega)] at k
    have wk : Walk (Itr 0 (2 * ((Builtin.Int.intBits a : Int) + (Builtin.Int.intBits b : Int)) + 4).toNat) n (fun _ => True) (YFn fun i => .int (0 + (i : Nat))) := by rw [en]; exact walk_range
    refine for_it wk (fun i σ H' => ∃ (x y : Int) (z : Option V), σ = [some (.int x), some (.int y), z] ∧ H' = H ∧ 0 ≤ x ∧ 0 ≤ y ∧ i ≤ n ∧ eu (n - i) x y = eu n a b)
      ⟨a, b, none, rfl, rfl, ha, hb, Nat.zero_le _, rfl⟩ (fun _ _ _ _ _ => trivial) ?_ ?_
    · rintro i v σ H1 H2 hi ⟨x, y, z, rfl, rfl, hx, hy, hin, he⟩ ⟨rfl, rfl⟩
      obtain ⟨m, hm⟩ : ∃ m, n - i = m + 1 := ⟨n - i - 1, by omega⟩
      rw [hm, show eu (m + 1) x y = if y = 0 then x else eu m y (x % y) from rfl] at he
      refine ⟨_, rfl, rfl, _, rfl, ite2 (fun c => ?_) fun c => ?_⟩
      · have c : y = 0 := by
          have c := of_decide_eq_true c
          injection c
        rw [if_pos c] at he
        refine ⟨_, rfl, ?_⟩
        show Q (.int x) _
        rw [he]
        exact k
      · have c : ¬ y = 0 := fun e => c (by rw [e]; exact decide_eq_true rfl)
        rw [if_neg c] at he
        refine ⟨_, rfl, _, rfl, .inl ⟨_, rfl, _, rfl, _, _, rfl, rfl, by omega, _, _, rfl, y, x % y, _, rfl, rfl, hy, Int.emod_nonneg _ c, by omega, ?_⟩⟩
        rw [show n - (i + 1) = m by omega]
        exact he
    · rintro σ H1 ⟨x, y, z, rfl, rfl, hx, hy, hin, he⟩
      rw [Nat.sub_self] at he
      refine ⟨_, rfl, ?_⟩
      show Q (.int x) _
      have he : x = eu n a b := he
      rw [he]
      exact k
def spIs0 (K : PySem.W.Frag) : Sp := fun vs H Q _ => ∃ G v, vs = [v, .int 0, .int 1] ∧ Same G H ∧ rSh K G v 0 ∧ Q (.bl true) H
theorem sc__law_is : FnScope ["_law_got", "_law_over", "_law_under_here", "_law_common"] ["_law_got", "_law_over", "_law_under_here"] (defScope s__law_is) := ⟨rfl, rfl, rfl, by decide +kernel, rfl, by decide +kernel, by decide +kernel⟩
theorem ok__law_is (T : Tx K mg) : Ok P w K mg base 2 (He.ga K "_law_is") ["_law_got", "_law_over", "_law_under_here"] (spIs0 K) := by
  refine ok_mk (f__law_is T) (df_kp (f__law_is T)) sc__law_is (fun _ _ _ _ _ _ us hl => match us, hl with | [_, _, _], _ => rfl) (fun vs H Q E h => ?_) (fun cdv A outer s H vs Q E hr h => ?_)
  · obtain ⟨G, v, rfl, _⟩ := h
    rfl
  · obtain ⟨G, v, rfl, sm, ⟨a, dx, rfl, ha⟩, k⟩ := h
    have ha := sm _ _ ha
    refine ⟨_, (pss_cons (ps_if (PW.pt (pw_or (pt_not (pt_val (pe_callB (call_isC (in_Share T)) (by rfl) (b_isinstance T) (by decide +kernel) (pa_cons (pv 0) (pa_cons (pe_glob (v := .ref (He.ga K "Share")) rfl (g_Share T) rfl) pa_nil))))) (pw_or (pt_not (pt_val (pe_c (ok__law_integer T) (hr.mono (by decide)) rfl (g__law_integer T) (pa_cons (pe_f (c_Share T) (n_Share_over T) (pv 0)) pa_nil)))) (pw_or1 (pt_not (pt_val (pe_c (ok__law_integer T) (hr.mono (by decide)) rfl (g__law_integer T) (pa_cons (pe_f (c_Share T) (n_Share_under T) (pv 0)) pa_nil))))))))
        (pss_one (ps_ret pe_bl))
        pss_nil)
      (pss_cons (ps_set (i := 3) sc__law_is.nd rfl (Or.inl rfl) (pe_c (ok__law_gcd T) (hr.mono (by decide)) rfl (g__law_gcd T) (pa_cons (pe_callB call_abs (by rfl) (b_abs T) (by decide +kernel) (pa_cons (pv 1) pa_nil)) (pa_cons (pv 2) pa_nil))))
      (pss_one (ps_ret (pe_and (pe_cmpR op_eq (pe_op op_mulX (pe_f (c_Share T) (n_Share_over T) (pv 0)) (pv 3)) (pv 1) (nomark _)) (pe_one (pe_cmpR op_eq (pe_op op_mulX (pe_f (c_Share T) (n_Share_under T) (pv 0)) (pv 3)) (pv 2) (nomark _)))))))), ?_⟩
    refine ⟨_, rfl, a, dx, _, rfl, ha, _, rfl, itF (by simp) ?_⟩
    refine ⟨_, rfl, a, dx, _, _, rfl, ha, rfl, _, rfl, _, rfl, itF (by simp) ?_⟩
    refine ⟨_, rfl, a, dx, _, _, rfl, ha, rfl, _, rfl, _, rfl, itF (by simp) ?_⟩
    refine ⟨_, rfl, _, rfl, _, rfl, 0, 1, rfl, by decide, by decide, by decide +kernel, by decide +kernel, by decide +kernel, ?_⟩
    refine ⟨_, rfl, a, dx, _, _, rfl, ha, rfl, _, rfl, _, _, rfl, rfl, mulx_ok (a := 1) (b := 1) (by decide) (by decide) (by decide), _, rfl, rfl, _, rfl, itT (by decide) ?_⟩
    exact ⟨_, rfl, a, dx, _, _, rfl, ha, rfl, _, rfl, _, _, rfl, rfl, mulx_ok (a := 1) (b := 1) (by decide) (by decide) (by decide), _, rfl, rfl, k⟩
def spAll (K : PySem.W.Frag) : Sp := fun vs H Q _ => ∃ G v rows, vs = [v] ∧ Same G H ∧ rRows G v rows ∧ rows.length ≤ 60 ∧ (∀ l : List Str, l.Nodup → (∀ t ∈ l, ∃ r ∈ rows, t ∈ r.2) → l.length ≤ 60) ∧ ∀ ys, Srt ys → (∀ t, t ∈ ys ↔ ∃ r ∈ rows, t ∈ r.2) → Ret nM G H (rLf V.str) ys Q
theorem sc__law_all : FnScope ["_law_rows_here", "_law_found", "_law_text_here", "_law_readable", "_law_other"] ["_law_rows_here"] (defScope s__law_all) := ⟨rfl, rfl, rfl, by decide +kernel, rfl, by decide +kernel, by decide +kernel⟩
theorem ok__law_all (T : Tx K mg) : Ok P w K mg base 1 (He.ga K "_law_all") ["_law_rows_here"] (spAll K) := by
  refine ok_mk (f__law_all T) (df_kp (f__law_all T)) sc__law_all (fun _ _ _ _ _ _ us hl => match us, hl with | [_], _ => rfl) (fun vs H Q E h => ?_) (fun cdv A outer s H vs Q E hr h => ?_)
  · obtain ⟨G, v, rows, rfl, _⟩ := h
    rfl
  · obtain ⟨G, v, rows, rfl, sm, ⟨p, vs, rfl, hp, pr⟩, hl, few, k⟩ := h
    refine ⟨_, (pss_cons (ps_set (i := 1) sc__law_all.nd rfl (Or.inl rfl) pe_dnewK)
      (pss_cons (ps_for PassesOwn.never rfl (pi_list (pv 0)) (pg_tup rfl (pgs_cons (pg_name (i := 2) sc__law_all.nd rfl (Or.inl rfl)) (pgs_cons (pg_name (i := 3) sc__law_all.nd rfl (Or.inl rfl)) pgs_nil)))
      (pss_one (ps_for PassesOwn.never rfl (pi_list (pv 3)) (pg_name (i := 4) sc__law_all.nd rfl (Or.inl rfl))
      (pss_one (ps_dput (hu_of hr) (pv 1) (pv 4) pe_bl rfl)))))
      (pss_one (ps_ret (pe_callB cr_sortedS (by rfl) (b_sorted T) (by decide +kernel) (pa_cons (pe_callTy (call_list_dK rfl) (by rfl) (b_list T) (by decide +kernel) (pa_cons (pv 1) pa_nil)) pa_nil)))))), ?_⟩
    intro d hd
    have hpH := sm _ _ hp
    have gd := sm.free hd
    have lv := paired_len pr
    refine ⟨_, rfl, p, rfl, ⟨_, SqL.of (get_new hpH hd)⟩, ?_⟩
    refine for_it (walk_list (xs := vs)) (fun i σ H' => ∃ (z1 z2 z3 : Option V) (kvs : List (Key × V)) (ks : List Str), σ = [some (.ref p), some (.ref d), z1, z2, z3] ∧ Nw nM G H G H' ∧ H' d = some (.dK kvs) ∧ KeysAre kvs ks ∧ ks.Nodup ∧ ∀ t, t ∈ ks ↔ ∃ r ∈ rows.take i, t ∈ r.2)
      ⟨none, none, none, [], [], rfl, (Nw.refl sm).allocH hd, upd_same, rfl, List.nodup_nil, fun t => ⟨fun h => (by cases h), fun ⟨r, h, _⟩ => (by simp at h)⟩⟩ (fun i σ H' _ h => by obtain ⟨z1, z2, z3, kvs, ks, rfl, n, _⟩ := h; exact SqL.of (n.gh _ _ hp)) ?_ ?_
    · rintro i y σ H1 H2 hi ⟨z1, z2, z3, kvs, ks, rfl, n1, hd1, ka, nd, mem⟩ ⟨rfl, hv⟩
      obtain ⟨r, hri, t0, ta, tb, rfl, ht0, rta, pa, rfl, hpa⟩ := paired_get pr hv
      have rta : ta = .str r.1 := rta
      subst rta
      have hrm := List.mem_of_getElem? hri
      have tk : rows.take (i + 1) = rows.take i ++ [r] := by rw [List.take_add_one, hri]; rfl
      refine ⟨t0, _, rfl, SqT.of (n1.gh _ _ ht0), rfl, _, _, rfl, _, _, rfl, rfl, ?_⟩
      refine ⟨_, rfl, pa, rfl, ⟨_, SqL.of (n1.gh _ _ hpa)⟩, ?_⟩
      refine for_it (walk_list (xs := r.2.map V.str)) (fun j σ H' => ∃ (z3 : Option V) (kvs : List (Key × V)) (ks : List Str), σ = [some (.ref p), some (.ref d), some (.str r.1), some (.ref pa), z3] ∧ Nw nM G H G H' ∧ H' d = some (.dK kvs) ∧ KeysAre kvs ks ∧ ks.Nodup ∧ ∀ t, t ∈ ks ↔ (∃ r ∈ rows.take i, t ∈ r.2) ∨ t ∈ r.2.take j)
        ⟨z3, kvs, ks, rfl, n1, hd1, ka, nd, fun t => by rw [mem]; simp⟩ (fun j σ H' _ h => by obtain ⟨z3, kvs, ks, rfl, n, _⟩ := h; exact SqL.of (n.gh _ _ hpa)) ?_ ?_
      · rintro j y σ H2 H3 hj ⟨z3', kvs2, ks2, rfl, n2, hd2, ka2, nd2, mem2⟩ ⟨rfl, hy⟩
        have hj' : j < r.2.length := by simpa using hj
        have hrj : r.2[j]? = some r.2[j] := List.getElem?_eq_getElem hj'
        rw [List.getElem?_map, hrj] at hy
        have hy := (Option.some.inj hy).symm
        have hy : y = .str r.2[j] := hy
        subst hy
        have hl2 := few ks2 nd2 fun t ht => by
          rcases (mem2 t).mp ht with ⟨r', h1, h2⟩ | h
          · exact ⟨r', List.mem_of_mem_take h1, h2⟩
          · exact ⟨r, hrm, List.mem_of_mem_take h⟩
        refine ⟨_, rfl, _, rfl, d, _, rfl, DPut.k (k := .inr r.2[j]) hd2 (by rw [ka2.len, sizeLine_eq]; omega), some (.str r.2[j]), _, _, rfl, n2.putH hd gd, upd_same, ka2.put r.2[j] _, put_nd _ nd2, fun t => ?_⟩
        rw [put_mem, mem2, List.take_add_one, hrj, List.mem_append]
        simp
        constructor
        · rintro (h | h | h)
          · exact .inr (.inr h)
          · exact .inl h
          · exact .inr (.inl h)
        · rintro (h | h | h)
          · exact .inr (.inl h)
          · exact .inr (.inr h)
          · exact .inl h
      · rintro σ H2 ⟨z3', kvs2, ks2, rfl, n2, hd2, ka2, nd2, mem2⟩
        refine ⟨_, _, z3', kvs2, ks2, rfl, n2, hd2, ka2, nd2, fun t => ?_⟩
        rw [mem2, tk, List.length_map, List.take_length]
        constructor
        · rintro (⟨r', h1, h2⟩ | h)
          · exact ⟨r', List.mem_append_left _ h1, h2⟩
          · exact ⟨r, List.mem_append_right _ (List.mem_singleton.mpr rfl), h⟩
        · rintro ⟨r', h1, h2⟩
          rcases List.mem_append.mp h1 with h | h
          · exact .inl ⟨r', h, h2⟩
          · rw [List.mem_singleton.mp h] at h2
            exact .inr h2
    · rintro σ H1 ⟨z1, z2, z3, kvs, ks, rfl, n1, hd1, ka, nd, mem⟩
      rw [lv, List.take_length] at mem
      have hl2 := few ks nd fun t ht => (mem t).mp ht
      refine ⟨_, rfl, d, kvs, rfl, hd1, fun q hq => ?_⟩
      have ek : kvs.map (fun kv => kV kv.1) = ks.map V.str := by
        have : kvs.map (fun kv => kV kv.1) = (kvs.map (·.1)).map kV := by rw [List.map_map]; rfl
        rw [this, ka, List.map_map]
        rfl
      rw [ek]
      have n2 := n1.allocH (o := .lst (ks.map V.str)) hq
      refine ⟨q, ks, rfl, SqL.of upd_same, by omega, fun ys p2 pm so hp2 => ?_⟩
      exact k ys (srt_perm so pm nd) (fun t => by rw [pm.mem_iff, mem]) _ _ _ (n2.alloc hp2) ⟨p2, rfl, upd_same⟩
end
end Mk

-- K3
set_option Elab.async false
set_option linter.all false
set_option maxRecDepth 100000
set_option maxHeartbeats 4000000
set_option exponentiation.threshold 20000
namespace Mk
open PySem PySem.Spec PyProof.Rows L2
open C8 (InsC call_isC)
/-- the words' rows stand first, in order -/
def Aln (ws : List Wd) (rows : List Row) : Prop := ∀ (i : Nat) (e : Wd), ws[i]? = some e → ∃ r, rows[i]? = some r ∧ r.1 = e.1
theorem Aln.of {ws : List Wd} {rows : List Row} (a : Aln ws rows) (nd : (rows.map (·.1)).Nodup) {i : Nat} {e : Wd} (h : ws[i]? = some e) : ∃ r, rows[i]? = some r ∧ r.2 = ofR rows e.1 := by
  obtain ⟨r, h1, h2⟩ := a i e h
  exact ⟨r, h1, by rw [← h2]; exact (ofR_eq nd (List.mem_of_getElem? h1)).symm⟩
theorem sum_ls {α : Type} (f : α → Int) : ∀ l : List α, (((l.map f).sum : Int) : Rat) = ls (fun a => (f a : Rat)) l
  | [] => rfl
  | a :: l => by rw [List.map_cons, List.sum_cons, ls, ← sum_ls f l, Rat.intCast_add]
theorem int_of_rat {a b : Int} (h : (a : Rat) ≤ (b : Rat)) : a ≤ b := Rat.intCast_le_intCast.mp h
theorem cap_min {o u : Int} (hu : 0 < u) : cap ((o : Rat) / (u : Rat)) * (u : Rat) = ((if o < u then o else u : Int) : Rat) := by
  have ur := int_pos_rat hu
  have une : (u : Rat) ≠ 0 := int_ne_rat (by omega)
  unfold cap
  by_cases h : o < u
  · have : (o : Rat) / (u : Rat) < 1 := by
      refine Rat.not_le.mp fun z => ?_
      have z2 := Rat.mul_le_mul_of_nonneg_right z (Rat.le_of_lt ur)
      have e : (o : Rat) / (u : Rat) * (u : Rat) = (o : Rat) := div_mul_same une
      rw [e, Rat.one_mul] at z2
      have := int_of_rat z2
      omega
    rw [if_pos this, if_pos h, div_mul_same une]
  · have : ¬ (o : Rat) / (u : Rat) < 1 := fun z => by
      have z1 := div_mul_same (a := (o : Rat)) une
      have z2 := Rat.mul_le_mul_of_nonneg_right (Rat.le_of_lt z) (Rat.le_of_lt ur)
      rw [z1, Rat.one_mul] at z2
      have h2 := int_of_rat z2
      have h3 : o = u := by omega
      rw [h3] at z
      have : (u : Rat) / (u : Rat) = 1 := by grind
      rw [this] at z
      exact absurd z (by decide)
    rw [if_neg this, if_neg h, Rat.one_mul]
section
variable {P : Program} {w : World} {K : PySem.W.Frag} {mg : Str → Option Value} {base : Heap}
/-- a fraction as a list of two -/
def Frc (V : Rat) (S C : Int) : Prop := 0 < C ∧ (S : Rat) = V * (C : Rat) ∧ S.natAbs < 2 ^ 60000 ∧ C.natAbs < 2 ^ 60000
def spRT (K : PySem.W.Frag) : Sp := fun vs H Q _ => ∃ (G : Hp) (rv wv rwv : V) (ws : List Wd) (rows : List Row) (x : Str → Rat) (Vl : Rat) (o u : Int) (D : Nat), vs = [rv, wv, rwv, .int o, .int u] ∧ Same G H ∧ rTup (rPr rStr (rSh K)) G rv (ws.map fun e => (e.1, x e.1)) ∧ rWds G wv ws ∧ rRows G rwv rows ∧
  Inst ws rows ∧ Aln ws rows ∧ 0 < o ∧ 0 < u ∧ o.natAbs < 2 ^ 140 ∧ u.natAbs < 2 ^ 140 ∧ Pri ws rows (cap ((o : Rat) / (u : Rat))) x Vl ∧ 0 < D ∧ D < 2 ^ 364 ∧ (∀ e ∈ ws, (x e.1).den ∣ D) ∧ ∀ S C, Frc Vl S C → Ret nM G H (rLf V.int) [S, C] Q
theorem sc__law_row_total : FnScope ["_law_row", "_law_words_here", "_law_rows_here", "_law_over", "_law_under_here", "_law_whole", "_law_common", "_law_amounts", "_law_word", "_law_amount", "_law_other", "_law_total", "_law_at", "_law_pair"] ["_law_row", "_law_words_here", "_law_rows_here", "_law_over", "_law_under_here"] (defScope s__law_row_total) := ⟨rfl, rfl, rfl, by decide +kernel, rfl, by decide +kernel, by decide +kernel⟩
theorem ok__law_row_total (T : Tx K mg) : Ok P w K mg base 2 (He.ga K "_law_row_total") ["_law_row", "_law_words_here", "_law_rows_here", "_law_over", "_law_under_here"] (spRT K) := by
  refine ok_mk (f__law_row_total T) (df_kp (f__law_row_total T)) sc__law_row_total (fun _ _ _ _ _ _ us hl => match us, hl with | [_, _, _, _, _], _ => rfl) (fun vs H Q E h => ?_) (fun cdv A outer s H vs Q E hr h => ?_)
  · obtain ⟨G, rv, wv, rwv, ws, rows, x, Vl, o, u, D, rfl, _⟩ := h
    rfl
  · obtain ⟨G, rv, wv, rwv, ws, rows, x, Vl, o, u, D, rfl, sm, rr, ⟨pw, wvs, rfl, hpw, prw⟩, rrw, I, al, ho, hu, bo, bu, pri, hD, sD, hx, k⟩ := h
    refine ⟨_, (pss_cons (ps_set (i := 5) sc__law_row_total.nd rfl (Or.inl rfl) (pe_callB (cr_sum rfl) (by rfl) (b_sum T) (by decide +kernel) (pa_cons (pe_lc (own := [("_law_word", 8)]) (g := (gName 8)) (tt := tYes) rfl sc__law_row_total.nd (pi_list (pv 1)) (blkOk_by (N := ["_law_row", "_law_words_here", "_law_rows_here", "_law_over", "_law_under_here", "_law_whole", "_law_common", "_law_amounts", "_law_word", "_law_amount", "_law_other", "_law_total", "_law_at", "_law_pair"]) (sc := defScope s__law_row_total) (by decide +kernel)) (fun _ _ _ _ _ => (pg_name (i := 8) sc__law_row_total.nd rfl (Or.inl rfl))) (fun _ _ _ _ _ => pts_nil) (fun _ _ _ _ _ => (pe_ix (show IxR _ (rIxT K) from ix_tup) (pv 8) pe_int (fun _ _ => rfl)))) pa_nil)))
      (pss_cons (ps_set (i := 6) sc__law_row_total.nd rfl (Or.inr rfl) (pe_c (ok__law_under T) (hr.mono (by decide)) rfl (g__law_under T) (pa_cons (pv 0) pa_nil)))
      (pss_cons (ps_setLc (i := 7) (own := [("_law_pair", 13)]) (g := (gName 13)) (tt := tYes) rfl sc__law_row_total.nd rfl rfl (sw_true rfl rfl rfl (by decide +kernel)) (pi_tup (pv 0)) (blkOk_by (N := ["_law_row", "_law_words_here", "_law_rows_here", "_law_over", "_law_under_here", "_law_whole", "_law_common", "_law_amounts", "_law_word", "_law_amount", "_law_other", "_law_total", "_law_at", "_law_pair"]) (sc := defScope s__law_row_total) (by decide +kernel)) (fun _ _ _ _ _ => (pg_name (i := 13) sc__law_row_total.nd rfl (Or.inl rfl))) (fun _ _ _ _ _ => pts_nil) (fun _ _ _ _ _ => (pe_op op_mulX (pe_f (c_Share T) (n_Share_over T) (pe_ix (show IxR _ (rIxT K) from ix_tup) (pv 13) pe_int (fun _ _ => rfl))) (pe_op op_fdivW (pv 6) (pe_f (c_Share T) (n_Share_under T) (pe_ix (show IxR _ (rIxT K) from ix_tup) (pv 13) pe_int (fun _ _ => rfl)))))))
      (pss_cons (ps_for PassesOwn.never rfl (pi_zipX (by rfl) (b_zip T) (pa_cons (pv 1) (pa_cons (pv 7) pa_nil))) (pg_tup rfl (pgs_cons (pg_name (i := 8) sc__law_row_total.nd rfl (Or.inl rfl)) (pgs_cons (pg_name (i := 9) sc__law_row_total.nd rfl (Or.inl rfl)) pgs_nil)))
      (pss_one (ps_if (PW.pt (pw_or (pt_cmpR op_lt (pv 9) pe_int (nomark _)) (pw_or1 (pt_cmpR op_gt (pe_op op_mulX (pv 9) (pv 5)) (pe_op op_mulX (pe_ix ix_tup (pv 8) pe_int (fun _ _ => rfl)) (pv 6)) (nomark _)))))
        (pss_one (ps_ret pe_non))
        pss_nil)))
      (pss_cons (ps_for PassesOwn.never rfl (pi_list (pe_c (ok__law_all T) (hr.mono (by decide)) rfl (g__law_all T) (pa_cons (pv 2) pa_nil))) (pg_name (i := 10) sc__law_row_total.nd rfl (Or.inl rfl))
      (pss_cons (ps_set (i := 11) sc__law_row_total.nd rfl (Or.inl rfl) pe_int)
      (pss_cons (ps_for PassesOwn.never rfl (pi_range1 (by rfl) (b_range T) (pa_cons (pe_callB call_len_seq (by rfl) (b_len T) (by decide +kernel) (pa_cons (pv 1) pa_nil)) pa_nil)) (pg_name (i := 12) sc__law_row_total.nd rfl (Or.inl rfl))
      (pss_one (ps_if (pt_cmpR op_in_seq (pv 10) (pe_ix ix_tup (pe_ix ix_list (pv 2) (pv 12) (fun _ _ => rfl)) pe_int (fun _ _ => rfl)) (by rfl))
        (pss_one (ps_set (i := 11) sc__law_row_total.nd rfl (Or.inl rfl) (pe_op op_add (pv 11) (pe_ix ix_list (pv 7) (pv 12) (fun _ _ => rfl)))))
        pss_nil)))
      (pss_one (ps_if (pt_cmpR op_gt (pe_op op_mulX (pv 11) (pv 4)) (pe_op op_mulX (pe_callB (call_min2 rfl) (by rfl) (b_min T) (by decide +kernel) (pa_cons (pv 3) (pa_cons (pv 4) pa_nil))) (pv 6)) (nomark _))
        (pss_one (ps_ret pe_non))
        pss_nil)))))
      (pss_one (ps_ret (pe_lst (pa_cons (pe_callB (cr_sum rfl) (by rfl) (b_sum T) (by decide +kernel) (pa_cons (pv 7) pa_nil)) (pa_cons (pv 6) pa_nil)))))))))), ?_⟩
    obtain ⟨pr, rvs, rfl, hpr, prr⟩ := id rr
    obtain ⟨pR, Rvs, rfl, hpR, prR⟩ := id rrw
    have W := I.W
    have n8 := I.n8
    have tp := sum_pos W.pos W.ne
    have tr := int_pos_rat tp
    have hpwH := sm _ _ hpw
    have lw := paired_len prw
    have lr := paired_len prr
    rw [List.length_map] at lr
    refine ⟨_, rfl, pw, rfl, ⟨_, SqL.of hpwH⟩, fun D1 hD1 => ?_⟩
    refine lcM (ys := (ws.map fun e : Wd => e.2).map V.int) (walk_list (xs := wvs)) (by simp [lw]) (by omega) (fun l => SqL.of (get_new hpwH hD1)) (fun i y y' l Ky hy hy' hk => ?_) ?_
    · obtain ⟨e, he, t, ta, tb, rfl, ht, rta, rtb⟩ := paired_get prw hy
      have rtb : tb = .int e.2 := rtb
      subst rtb
      rw [List.getElem?_map, List.getElem?_map, he] at hy'
      obtain rfl := (Option.some.inj hy').symm
      exact ⟨rfl, _, rfl, t, _, _, _, rfl, rfl, SqT.of (get_new (sm _ _ ht) hD1), rfl, hk⟩
    have n1 := (Nw.refl (M := nM) sm).allocH (o := .lst ((ws.map fun e : Wd => e.2).map V.int)) hD1
    refine ⟨D1, ws.map (fun e : Wd => e.2), rfl, SqL.of upd_same, ?_⟩
    have hpr1 := n1.hh _ _ (fun z => z) (sm _ _ hpr)
    have dl : ∀ e ∈ ws, (x e.1).den < 2 ^ 364 := fun e he => nat_lt_two (Nat.le_of_dvd hD (hx e he)) sD
    refine ⟨_, rfl, G, _, ws.map (fun e : Wd => (e.1, x e.1)), 364, rfl, n1.gh, rr, by rw [List.length_map]; omega, by decide, fun q hq => ?_, fun C hC hCd hCb => ?_⟩
    · obtain ⟨e, he, rfl⟩ := List.mem_map.mp hq
      exact dl e he
    have hCd : ∀ e ∈ ws, ((x e.1).den : Int) ∣ (C : Int) := fun e he => Int.natCast_dvd_natCast.mpr (hCd _ (List.mem_map.mpr ⟨e, he, rfl⟩))
    rw [List.length_map] at hCb
    have hCb : C < 2 ^ 3000 := Nat.lt_of_lt_of_le hCb (Nat.pow_le_pow_right (by decide) (by have := Nat.mul_le_mul_left 364 n8; omega))
    have Cr : (0 : Rat) < ((C : Int) : Rat) := int_pos_rat (by omega)
    have x1 : ∀ e ∈ ws, x e.1 ≤ 1 := fun e he => by
      have h1 := le_div_of tr (pri.le e he)
      have hle : (e.2 : Rat) / (total ws : Rat) ≤ 1 := div_le_of tr (by rw [Rat.one_mul]; exact int_le_rat (mem_le W.pos e he))
      exact Rat.le_trans h1 hle
    have A0 : ∀ e ∈ ws, 0 ≤ prt C (x e.1) ∧ prt C (x e.1) ≤ C := fun e he => by
      have e1 := prt_eq (hCd e he)
      refine ⟨int_of_rat ?_, int_of_rat ?_⟩
      · rw [e1]
        have := Rat.mul_le_mul_of_nonneg_right (pri.nn e he) (Rat.le_of_lt Cr)
        rw [Rat.zero_mul] at this
        exact this
      · rw [e1]
        have := Rat.mul_le_mul_of_nonneg_right (x1 e he) (Rat.le_of_lt Cr)
        rw [Rat.one_mul] at this
        exact this
    refine ⟨_, rfl, pr, rfl, ⟨_, SqT.of hpr1⟩, fun D2 hD2 => ?_⟩
    refine lcM (ys := (ws.map fun e : Wd => prt C (x e.1)).map V.int) (walk_tup (xs := rvs)) (by simp [lr]) (by omega) (fun l => SqT.of (get_new hpr1 hD2)) (fun i y y' l Ky hy hy' hk => ?_) ?_
    · obtain ⟨q, hq, t, ta, tb, rfl, ht, rta, a, dx, rfl, ha⟩ := paired_get prr hy
      rw [List.getElem?_map] at hq
      cases hw : ws[i]? with
      | none => rw [hw] at hq; cases hq
      | some e =>
        rw [hw] at hq
        obtain rfl := (Option.some.inj hq).symm
        rw [List.getElem?_map, List.getElem?_map, hw] at hy'
        obtain rfl := (Option.some.inj hy').symm
        have hem := List.mem_of_getElem? hw
        have ht1 := get_new (o := .lst l) (n1.gh _ _ ht) hD2
        have ha1 := get_new (o := .lst l) (n1.gh _ _ ha) hD2
        have d1 := dl e hem
        refine ⟨rfl, _, rfl, t, _, _, _, rfl, rfl, SqT.of ht1, rfl, a, dx, _, _, rfl, ha1, rfl, _, rfl, _, rfl, t, _, _, _, rfl, rfl, SqT.of ht1, rfl, a, dx, _, _, rfl, ha1, rfl, _, _, rfl, rfl, wide_div (b := 364) (den_pos _) (by simpa using d1) (by decide) (by decide), _, _, rfl, rfl, ?_, hk⟩
        have nm := num_le_den (x1 e hem)
        have nn : 0 ≤ (x e.1).num := by
          have := (Rat.le_iff 0 (x e.1)).mp (pri.nn e hem)
          simpa using this
        have d0 : (x e.1).num.natAbs ≤ (x e.1).den := by
          have h1 := nm
          have h2 := nn
          omega
        show CMulX (x e.1).num ((C : Int) / ((x e.1).den : Int))
        exact mulx_ok (a := 364) (b := 3000) (Nat.lt_of_le_of_lt d0 d1) (nat_lt_two (natAbs_ediv_le _ _) (by simpa using hCb)) (by decide)
    have n2 := n1.allocH (o := .lst ((ws.map fun e : Wd => prt C (x e.1)).map V.int)) hD2
    have hA2 : upd (upd H D1 (.lst ((ws.map fun e : Wd => e.2).map V.int))) D2 (.lst ((ws.map fun e : Wd => prt C (x e.1)).map V.int)) D2 = some (.lst ((ws.map fun e : Wd => prt C (x e.1)).map V.int)) := upd_same
    dsimp only [gName]
    generalize upd (upd H D1 (.lst ((ws.map fun e : Wd => e.2).map V.int))) D2 (.lst ((ws.map fun e : Wd => prt C (x e.1)).map V.int)) = H2 at n2 hA2
    have hpw2 := n2.hh _ _ (fun z => z) hpwH
    refine ⟨_, rfl, _, rfl, .lst pw, .lst D2, _, _, rfl, Rd.of hpw2, Rd.of hA2, ?_⟩
    have tb : (total ws).natAbs < 2 ^ 140 := W.big
    have la : (ws.map fun e : Wd => prt C (x e.1)).length = ws.length := List.length_map ..
    have wz : Walk (ItzX (.lst pw) (.lst D2)) ws.length (fun H => (Sq.lst pw).Is H wvs ∧ (Sq.lst D2).Is H ((ws.map fun e : Wd => prt C (x e.1)).map V.int)) (YPair (fun i => wvs[i]?) fun i => ((ws.map fun e : Wd => prt C (x e.1)).map V.int)[i]?) := walk_zipX (q1 := .lst pw) (q2 := .lst D2) (xs := wvs) (ys := (ws.map fun e : Wd => prt C (x e.1)).map V.int) (n := ws.length) (by simp [lw])
    refine for_it wz (fun i σ H' => ∃ (z8 z9 : Option V), σ = [some (.ref pr), some (.ref pw), some (.ref pR), some (.int o), some (.int u), some (.int (total ws)), some (.int (C : Int)), some (.ref D2), z8, z9, none, none, none, none] ∧ Nw nM G H2 G H')
      ⟨none, none, rfl, Nw.refl n2.gh⟩ (fun i σ H' _ h => by obtain ⟨z8, z9, rfl, n⟩ := h; exact ⟨Rd.of (n.hh _ _ (fun z => z) hpw2), Rd.of (n.hh _ _ (fun z => z) hA2)⟩) ?_ ?_
    · rintro i y σ H3 H4 hi ⟨z8, z9, rfl, n⟩ ⟨T1, y1, y2, rfl, hT1, rfl, e1, e2⟩
      obtain ⟨e, he, t, ta, tb1, rfl, ht, rta, rtb⟩ := paired_get prw e1
      have rtb : tb1 = .int e.2 := rtb
      subst rtb
      have e2 : ((ws.map fun e : Wd => prt C (x e.1)).map V.int)[i]? = some y2 := e2
      rw [List.getElem?_map, List.getElem?_map, he] at e2
      have e2 := (Option.some.inj e2).symm
      have e2 : y2 = .int (prt C (x e.1)) := e2
      subst e2
      have hem := List.mem_of_getElem? he
      have n3 := n.allocH (o := .tup [.ref t, .int (prt C (x e.1))]) hT1
      have hT2 : upd H3 T1 (.tup [.ref t, .int (prt C (x e.1))]) T1 = some (.tup [.ref t, .int (prt C (x e.1))]) := upd_same
      generalize upd H3 T1 (.tup [.ref t, .int (prt C (x e.1))]) = H5 at n3 hT2
      have a0 := A0 e hem
      have ab : (prt C (x e.1)).natAbs < 2 ^ 3000 := nat_lt_two (show (prt C (x e.1)).natAbs ≤ C by have h1 := a0.1; have h2 := a0.2; omega) hCb
      have eb : e.2.natAbs < 2 ^ 140 := nat_lt_two (show e.2.natAbs ≤ (total ws).natAbs by have h1 := W.pos e hem; have h2 := mem_le W.pos e hem; omega) tb
      have hh : prt C (x e.1) * total ws ≤ e.2 * (C : Int) := int_of_rat (by
        rw [Rat.intCast_mul, Rat.intCast_mul, prt_eq (hCd e hem)]
        have := Rat.mul_le_mul_of_nonneg_right (pri.le e hem) (Rat.le_of_lt Cr)
        grind)
      refine ⟨T1, _, rfl, SqT.of hT2, rfl, _, _, rfl, _, _, rfl, rfl, ?_⟩
      refine ⟨_, rfl, _, _, rfl, rfl, _, rfl, itF (by have h1 := a0.1; simp; omega) ?_⟩
      refine ⟨_, rfl, _, rfl, _, _, rfl, rfl, mulx_ok ab tb (by decide), _, rfl, t, _, _, _, rfl, rfl, SqT.of (n3.gh _ _ ht), rfl, _, rfl, _, _, rfl, rfl, mulx_ok (b := 3000) eb (by simpa using hCb) (by decide), _, _, rfl, rfl, _, rfl, itF (by simp; exact hh) ?_⟩
      exact ⟨_, _, rfl, n3⟩
    · rintro σ H3 ⟨z8, z9, rfl, n⟩
      have n3 := n2.trans n
      have hA3 := n.hh _ _ (fun z => z) hA2
      refine ⟨_, rfl, G, _, rows, rfl, n.gh, rrw, I.R.few, fun l h1 h2 => by have := I.few l h1 h2; omega, fun ys sy my G1 v4 H4 m4 hv4 => ?_⟩
      obtain ⟨p4, rfl, hp4⟩ := hv4
      have n4 := n3.trans m4
      have hA4 := m4.hh _ _ (fun z => z) hA3
      have hpw4 := n4.hh _ _ (fun z => z) hpwH
      have hpR4 := n4.hh _ _ (fun z => z) (sm _ _ hpR)
      have lR := paired_len prR
      refine ⟨p4, rfl, ⟨_, SqL.of (n4.gh _ _ hp4)⟩, ?_⟩
      refine for_it (walk_list (xs := ys.map V.str)) (fun i σ H' => ∃ (z10 z11 z12 : Option V), σ = [some (.ref pr), some (.ref pw), some (.ref pR), some (.int o), some (.int u), some (.int (total ws)), some (.int (C : Int)), some (.ref D2), z8, z9, z10, z11, z12, none] ∧ H' = H4)
        ⟨none, none, none, rfl, rfl⟩ (fun i σ H' _ h => by obtain ⟨z10, z11, z12, rfl, rfl⟩ := h; exact SqL.of (n4.gh _ _ hp4)) ?_ ?_
      · rintro i y σ H5 H6 hi ⟨z10, z11, z12, rfl, rfl⟩ ⟨rfl, hy⟩
        have hi' : i < ys.length := by simpa using hi
        rw [List.getElem?_map, List.getElem?_eq_getElem hi'] at hy
        have hy := (Option.some.inj hy).symm
        have hy : y = .str ys[i] := hy
        generalize ys[i] = tx at hy
        subst hy
        refine ⟨_, rfl, pw, _, rfl, .inl (SqL.of hpw4), _, rfl, by rw [lw]; omega, by rw [lw]; omega, ?_⟩
        have wk : Walk (Itr 0 ((wvs.length : Nat) : Int).toNat) ws.length (fun _ => True) (YFn fun i => .int (0 + (i : Nat))) := by rw [Int.toNat_natCast, lw]; exact walk_range
        refine for_it wk (fun j σ H' => ∃ (z12 : Option V), σ = [some (.ref pr), some (.ref pw), some (.ref pR), some (.int o), some (.int u), some (.int (total ws)), some (.int (C : Int)), some (.ref D2), z8, z9, some (.str tx), some (.int ((ws.take j).map fun e : Wd => if tx ∈ ofR rows e.1 then prt C (x e.1) else 0).sum), z12, none] ∧ H' = H6)
          ⟨z12, rfl, rfl⟩ (fun _ _ _ _ _ => trivial) ?_ ?_
        · rintro j v σ H7 H8 hj ⟨z12', rfl, rfl⟩ ⟨rfl, rfl⟩
          have ew : ws[j]? = some ws[j] := List.getElem?_eq_getElem hj
          generalize ws[j] = e at ew
          obtain ⟨r, er, er2⟩ := al.of I.R.nd ew
          obtain ⟨rv, hrv, t0, ta, tb0, rfl, ht0, rta, pa, rfl, hpa⟩ := paired_get' prR er
          have tk : ws.take (j + 1) = ws.take j ++ [e] := by rw [List.take_add_one, ew]; rfl
          have jR : j < Rvs.length := (List.getElem?_eq_some_iff.mp hrv).1
          refine ⟨_, rfl, _, rfl, _, rfl, pR, _, _, _, rfl, rfl, SqL.of hpR4, by rw [Int.zero_add, at_nat jR]; exact hrv, t0, _, _, _, rfl, rfl, SqT.of (n4.gh _ _ (n4.gg _ _ ht0)), rfl, pa, _, rfl, .inl (SqL.of (n4.gh _ _ (n4.gg _ _ hpa))), rfl, flat_strs r.2, ?_⟩
          have hm : ((ws.take (j + 1)).map fun e : Wd => if tx ∈ ofR rows e.1 then prt C (x e.1) else 0).sum = ((ws.take j).map fun e : Wd => if tx ∈ ofR rows e.1 then prt C (x e.1) else 0).sum + if tx ∈ ofR rows e.1 then prt C (x e.1) else 0 := by
            rw [tk, List.map_append, List.sum_append]
            simp
          rw [hm]
          rw [inV_str, er2]
          refine ⟨_, rfl, ite2 (fun c => ?_) fun c => ?_⟩
          · have c : tx ∈ ofR rows e.1 := by simpa using c
            rw [if_pos c]
            refine ⟨_, rfl, _, rfl, _, rfl, D2, _, _, _, rfl, rfl, SqL.of hA4, by rw [Int.zero_add, at_nat (by simpa using hj), List.getElem?_map, List.getElem?_map, ew]; rfl, _, _, rfl, rfl, _, rfl, rfl⟩
          · have c : ¬ tx ∈ ofR rows e.1 := by simpa using c
            rw [if_neg c, Int.add_zero]
            exact ⟨_, rfl, rfl⟩
        · rintro σ H7 ⟨z12', rfl, rfl⟩
          rw [List.take_length]
          have es : (((ws.map fun e : Wd => if tx ∈ ofR rows e.1 then prt C (x e.1) else 0).sum : Int) : Rat) = ls (fun e : Wd => if tx ∈ ofR rows e.1 then x e.1 else 0) ws * ((C : Int) : Rat) := by
            rw [sum_ls, Rat.mul_comm, ← ls_mul]
            refine ls_congr fun e he => ?_
            by_cases c : tx ∈ ofR rows e.1
            · rw [if_pos c, if_pos c, prt_eq (hCd e he), Rat.mul_comm]
            · rw [if_neg c, if_neg c, Rat.mul_zero]
              rfl
          have l0 : 0 ≤ ls (fun e : Wd => if tx ∈ ofR rows e.1 then x e.1 else 0) ws := ls_nn fun e he => by
            by_cases c : tx ∈ ofR rows e.1
            · rw [if_pos c]
              exact pri.nn e he
            · rw [if_neg c]
              exact Rat.le_refl
          have l1 := pri.rd tx
          generalize ls (fun e : Wd => if tx ∈ ofR rows e.1 then x e.1 else 0) ws = g at es l0 l1
          generalize (ws.map fun e : Wd => if tx ∈ ofR rows e.1 then prt C (x e.1) else 0).sum = S at es
          have ur := int_pos_rat hu
          have cm := cap_min (o := o) hu
          have c1 : cap ((o : Rat) / (u : Rat)) ≤ 1 := cap_le _
          generalize cap ((o : Rat) / (u : Rat)) = cp at l1 cm c1
          have s0 : 0 ≤ S := int_of_rat (by rw [es]; exact Rat.mul_nonneg l0 (Rat.le_of_lt Cr))
          have s1 : S ≤ C := int_of_rat (by
            rw [es]
            have := Rat.mul_le_mul_of_nonneg_right (Rat.le_trans l1 c1) (Rat.le_of_lt Cr)
            rw [Rat.one_mul] at this
            exact this)
          have s2 : S * u ≤ (if u < o then u else o) * (C : Int) := int_of_rat (by
            rw [Rat.intCast_mul, Rat.intCast_mul, es]
            have e3 : (if u < o then u else o) = if o < u then o else u := by split <;> split <;> omega
            rw [e3, ← cm]
            have h1 := Rat.mul_le_mul_of_nonneg_right l1 (Rat.le_of_lt (Rat.mul_pos Cr ur))
            grind)
          have sb : S.natAbs < 2 ^ 3000 := nat_lt_two (show S.natAbs ≤ C by omega) hCb
          have mb : (if u < o then u else o).natAbs < 2 ^ 140 := by split <;> assumption
          refine ⟨_, rfl, _, rfl, _, _, rfl, rfl, mulx_ok (a := 3000) sb bu (by decide), _, rfl, _, rfl, _, _, rfl, _, rfl, _, _, rfl, rfl, mulx_ok (b := 3000) mb (by simpa using hCb) (by decide), _, _, rfl, rfl, _, rfl, itF (by simp; exact s2) ?_⟩
          exact ⟨_, _, _, rfl, rfl⟩
      · rintro σ H5 ⟨z10, z11, z12, rfl, rfl⟩
        refine ⟨_, rfl, D2, _, rfl, SqL.of hA4, _, rfl, ?_, fun pz hz => ?_⟩
        · simp [sizeLine_eq]
        refine k _ _ ?_ _ _ _ (n4.alloc (o := .lst _) hz) ⟨pz, rfl, upd_same⟩
        have es : (((ws.map fun e : Wd => prt C (x e.1)).sum : Int) : Rat) = Vl * ((C : Int) : Rat) := by
          rw [pri.val, sum_ls, Rat.mul_comm, ← ls_mul]
          exact ls_congr fun e he => by rw [prt_eq (hCd e he), Rat.mul_comm]
        have v1 : Vl ≤ 1 := pri_le W pri
        have v0 : 0 ≤ Vl := by
          rw [pri.val]
          exact ls_nn pri.nn
        have s0 : 0 ≤ (ws.map fun e : Wd => prt C (x e.1)).sum := int_of_rat (by rw [es]; exact Rat.mul_nonneg v0 (Rat.le_of_lt Cr))
        have s1 : (ws.map fun e : Wd => prt C (x e.1)).sum ≤ C := int_of_rat (by
          rw [es]
          have := Rat.mul_le_mul_of_nonneg_right v1 (Rat.le_of_lt Cr)
          rw [Rat.one_mul] at this
          exact this)
        have cb : C < 2 ^ 60000 := Nat.lt_trans hCb (Nat.pow_lt_pow_right (by decide) (by decide))
        exact ⟨by omega, es, nat_lt_two (show _ ≤ C by omega) cb, by simpa using cb⟩
end
end Mk

-- K4
set_option Elab.async false
set_option linter.all false
set_option maxRecDepth 100000
set_option maxHeartbeats 4000000
set_option exponentiation.threshold 20000
namespace Mk
open PySem PySem.Spec PyProof.Rows L2
open C8 (InsC call_isC)
theorem pc_fin {Vl g1 g2 cp : Rat} {W u mn S1 S2 : Int} {C : Nat} (hC : 0 < C) (bC : C < 2 ^ 2100) (hW : 0 < W) (bW : W.natAbs < 2 ^ 140) (hu : 0 < u) (bu : u.natAbs < 2 ^ 140) (hm : 0 < mn)
    (cm : cp * (u : Rat) = (mn : Rat)) (es1 : (S1 : Rat) = g1 * ((C : Int) : Rat)) (es2 : (S2 : Rat) = g2 * ((C : Int) : Rat)) (l1 : 0 ≤ g1) (l2 : 0 ≤ g2) (dv : Vl * (W : Rat) = g1 + cp * (W : Rat) * g2) (v1 : Vl ≤ 1) :
    Frc Vl (S1 * u + mn * W * S2) (W * u * C) ∧ S1.natAbs < 2 ^ 2240 ∧ S2.natAbs < 2 ^ 2240 := by
  have Cr : (0 : Rat) < ((C : Int) : Rat) := int_pos_rat (by omega)
  have tr := int_pos_rat hW
  have ur := int_pos_rat hu
  have mr := int_pos_rat hm
  have hcp : 0 < cp := by
    refine Rat.not_le.mp fun z => ?_
    have := Rat.mul_le_mul_of_nonneg_right z (Rat.le_of_lt ur)
    rw [Rat.zero_mul, cm] at this
    exact Rat.not_lt.mpr this mr
  have q2 : 0 ≤ cp * (W : Rat) * g2 := Rat.mul_nonneg (Rat.mul_nonneg (Rat.le_of_lt hcp) (Rat.le_of_lt tr)) l2
  have q0 : Vl * (W : Rat) ≤ (W : Rat) := by
    have := Rat.mul_le_mul_of_nonneg_right v1 (Rat.le_of_lt tr)
    rw [Rat.one_mul] at this
    exact this
  have q1 : g1 ≤ (W : Rat) := by grind
  have q3 : cp * g2 ≤ 1 := by
    have h1 : cp * g2 * (W : Rat) ≤ (W : Rat) := by grind
    have h3 := le_div_of tr h1
    have h4 : (W : Rat) / (W : Rat) = 1 := by
      have := int_ne_rat (show W ≠ 0 by omega)
      grind
    rw [h4] at h3
    exact h3
  have s10 : 0 ≤ S1 := int_of_rat (by rw [es1]; exact Rat.mul_nonneg l1 (Rat.le_of_lt Cr))
  have s20 : 0 ≤ S2 := int_of_rat (by rw [es2]; exact Rat.mul_nonneg l2 (Rat.le_of_lt Cr))
  have s11 : S1 ≤ W * (C : Int) := int_of_rat (by
    rw [es1, Rat.intCast_mul]
    exact Rat.mul_le_mul_of_nonneg_right q1 (Rat.le_of_lt Cr))
  have s21 : mn * S2 ≤ u * (C : Int) := int_of_rat (by
    rw [Rat.intCast_mul, Rat.intCast_mul, es2, ← cm]
    have h1 := Rat.mul_le_mul_of_nonneg_right q3 (Rat.le_of_lt (Rat.mul_pos Cr ur))
    grind)
  have s22 : S2 ≤ u * (C : Int) := by
    have : 1 * S2 ≤ mn * S2 := Int.mul_le_mul_of_nonneg_right (by omega) s20
    omega
  have es : ((S1 * u + mn * W * S2 : Int) : Rat) = Vl * ((W * u * (C : Int) : Int) : Rat) := by
    rw [Rat.intCast_add, Rat.intCast_mul, Rat.intCast_mul, Rat.intCast_mul, Rat.intCast_mul, Rat.intCast_mul, es1, es2, ← cm]
    have : Vl * ((W : Rat) * (u : Rat) * ((C : Int) : Rat)) = (Vl * (W : Rat)) * ((u : Rat) * ((C : Int) : Rat)) := by grind
    rw [this, dv]
    grind
  have p0 : 0 < W * u * (C : Int) := Int.mul_pos (Int.mul_pos hW hu) (by omega)
  have n0 : 0 ≤ S1 * u + mn * W * S2 := Int.add_nonneg (Int.mul_nonneg s10 (by omega)) (Int.mul_nonneg (Int.mul_nonneg (by omega) (by omega)) s20)
  have n1 : S1 * u + mn * W * S2 ≤ W * u * (C : Int) := int_of_rat (by
    rw [es]
    have := Rat.mul_le_mul_of_nonneg_right v1 (Rat.le_of_lt (int_pos_rat p0))
    rw [Rat.one_mul] at this
    exact this)
  have bCi : (C : Int).natAbs < 2 ^ 2100 := by simpa using bC
  have m1 : (W * (C : Int)).natAbs < 2 ^ 2240 := by
    rw [Int.natAbs_mul]
    have := Nat.mul_lt_mul'' bW bCi
    rw [← Nat.pow_add] at this
    exact this
  have m2 : (u * (C : Int)).natAbs < 2 ^ 2240 := by
    rw [Int.natAbs_mul]
    have := Nat.mul_lt_mul'' bu bCi
    rw [← Nat.pow_add] at this
    exact this
  have m3 : (W * u * (C : Int)).natAbs < 2 ^ 60000 := by
    rw [Int.mul_assoc, Int.natAbs_mul]
    have := Nat.mul_lt_mul'' bW m2
    rw [← Nat.pow_add] at this
    exact Nat.lt_trans this (Nat.pow_lt_pow_right (by decide) (by decide))
  exact ⟨⟨p0, es, nat_lt_two (by omega) m3, m3⟩, nat_lt_two (by omega) m1, nat_lt_two (by omega) m2⟩
section
variable {P : Program} {w : World} {K : PySem.W.Frag} {mg : Str → Option Value} {base : Heap}
def spPC (K : PySem.W.Frag) : Sp := fun vs H Q _ => ∃ (G : Hp) (p : Addr) (va vb wv rwv : V) (ws : List Wd) (rows : List Row) (rdb : List Str) (uf vf : Str → Rat) (Vl : Rat) (o u : Int), vs = [.ref p, wv, rwv, .int o, .int u] ∧ Same G H ∧ G p = some (.tup [va, vb]) ∧ rTup (rPr rStr (rSh K)) G va (ws.map fun e => (e.1, uf e.1)) ∧ rTup (rPr rStr (rSh K)) G vb (rdb.map fun t => (t, vf t)) ∧ rWds G wv ws ∧ rRows G rwv rows ∧
  Inst ws rows ∧ Aln ws rows ∧ 0 < o ∧ 0 < u ∧ o.natAbs < 2 ^ 140 ∧ u.natAbs < 2 ^ 140 ∧ Dua ws rows rdb (cap ((o : Rat) / (u : Rat))) uf vf Vl ∧ rdb ≠ [] ∧ rdb.length ≤ 16 ∧ Vl ≤ 1 ∧ (∀ e ∈ ws, Bq 84 (uf e.1)) ∧ (∀ t, Bq 84 (vf t)) ∧ ∀ S C, Frc Vl S C → Ret nM G H (rLf V.int) [S, C] Q
theorem sc__law_paper_cost : FnScope ["_law_paper", "_law_words_here", "_law_rows_here", "_law_over", "_law_under_here", "_law_whole", "_law_common", "_law_firsts", "_law_seconds", "_law_at", "_law_total", "_law_pair", "_law_amount", "_law_due", "_law_word"] ["_law_paper", "_law_words_here", "_law_rows_here", "_law_over", "_law_under_here"] (defScope s__law_paper_cost) := ⟨rfl, rfl, rfl, by decide +kernel, rfl, by decide +kernel, by decide +kernel⟩
theorem ok__law_paper_cost (T : Tx K mg) : Ok P w K mg base 2 (He.ga K "_law_paper_cost") ["_law_paper", "_law_words_here", "_law_rows_here", "_law_over", "_law_under_here"] (spPC K) := by
  refine ok_mk (f__law_paper_cost T) (df_kp (f__law_paper_cost T)) sc__law_paper_cost (fun _ _ _ _ _ _ us hl => match us, hl with | [_, _, _, _, _], _ => rfl) (fun vs H Q E h => ?_) (fun cdv A outer s H vs Q E hr h => ?_)
  · obtain ⟨G, p, va, vb, wv, rwv, ws, rows, rdb, uf, vf, Vl, o, u, rfl, _⟩ := h
    rfl
  · obtain ⟨G, p, va, vb, wv, rwv, ws, rows, rdb, uf, vf, Vl, o, u, rfl, sm, hp, rva, rvb, ⟨pw, wvs, rfl, hpw, prw⟩, rrw, I, al, ho, hu, bo, bu, dua, rne, rlen, v1, bU, bV, k⟩ := h
    refine ⟨_, (pss_cons (ps_set (i := 5) sc__law_paper_cost.nd rfl (Or.inl rfl) (pe_callB (cr_sum rfl) (by rfl) (b_sum T) (by decide +kernel) (pa_cons (pe_lc (own := [("_law_word", 14)]) (g := (gName 14)) (tt := tYes) rfl sc__law_paper_cost.nd (pi_list (pv 1)) (blkOk_by (N := ["_law_paper", "_law_words_here", "_law_rows_here", "_law_over", "_law_under_here", "_law_whole", "_law_common", "_law_firsts", "_law_seconds", "_law_at", "_law_total", "_law_pair", "_law_amount", "_law_due", "_law_word"]) (sc := defScope s__law_paper_cost) (by decide +kernel)) (fun _ _ _ _ _ => (pg_name (i := 14) sc__law_paper_cost.nd rfl (Or.inl rfl))) (fun _ _ _ _ _ => pts_nil) (fun _ _ _ _ _ => (pe_ix (show IxR _ (rIxT K) from ix_tup) (pv 14) pe_int (fun _ _ => rfl)))) pa_nil)))
      (pss_cons (ps_set (i := 6) sc__law_paper_cost.nd rfl (Or.inr rfl) (pe_c (ok__law_under T) (hr.mono (by decide)) rfl (g__law_under T) (pa_cons (pe_op op_catA (pe_ix ix_tup (pv 0) pe_int (fun _ _ => rfl)) (pe_ix ix_tup (pv 0) pe_int (fun _ _ => rfl))) pa_nil)))
      (pss_cons (ps_setLc (i := 7) (own := [("_law_pair", 11)]) (g := (gName 11)) (tt := tYes) rfl sc__law_paper_cost.nd rfl rfl (sw_true rfl rfl rfl (by decide +kernel)) (pi_tup (pe_ix ix_tup (pv 0) pe_int (fun _ _ => rfl))) (blkOk_by (N := ["_law_paper", "_law_words_here", "_law_rows_here", "_law_over", "_law_under_here", "_law_whole", "_law_common", "_law_firsts", "_law_seconds", "_law_at", "_law_total", "_law_pair", "_law_amount", "_law_due", "_law_word"]) (sc := defScope s__law_paper_cost) (by decide +kernel)) (fun _ _ _ _ _ => (pg_name (i := 11) sc__law_paper_cost.nd rfl (Or.inl rfl))) (fun _ _ _ _ _ => pts_nil) (fun _ _ _ _ _ => (pe_op op_mulX (pe_f (c_Share T) (n_Share_over T) (pe_ix (show IxR _ (rIxT K) from ix_tup) (pv 11) pe_int (fun _ _ => rfl))) (pe_op op_fdivW (pv 6) (pe_f (c_Share T) (n_Share_under T) (pe_ix (show IxR _ (rIxT K) from ix_tup) (pv 11) pe_int (fun _ _ => rfl)))))))
      (pss_cons (ps_setLc (i := 8) (own := [("_law_pair", 11)]) (g := (gName 11)) (tt := tYes) rfl sc__law_paper_cost.nd rfl rfl (sw_true rfl rfl rfl (by decide +kernel)) (pi_tup (pe_ix ix_tup (pv 0) pe_int (fun _ _ => rfl))) (blkOk_by (N := ["_law_paper", "_law_words_here", "_law_rows_here", "_law_over", "_law_under_here", "_law_whole", "_law_common", "_law_firsts", "_law_seconds", "_law_at", "_law_total", "_law_pair", "_law_amount", "_law_due", "_law_word"]) (sc := defScope s__law_paper_cost) (by decide +kernel)) (fun _ _ _ _ _ => (pg_name (i := 11) sc__law_paper_cost.nd rfl (Or.inl rfl))) (fun _ _ _ _ _ => pts_nil) (fun _ _ _ _ _ => (pe_op op_mulX (pe_f (c_Share T) (n_Share_over T) (pe_ix (show IxR _ (rIxT K) from ix_tup) (pv 11) pe_int (fun _ _ => rfl))) (pe_op op_fdivW (pv 6) (pe_f (c_Share T) (n_Share_under T) (pe_ix (show IxR _ (rIxT K) from ix_tup) (pv 11) pe_int (fun _ _ => rfl)))))))
      (pss_cons (ps_if (PW.pt (pw_or (pt_cmpR op_lt (pe_callB (cr_min rfl) (by rfl) (b_min T) (by decide +kernel) (pa_cons (pv 7) pa_nil)) pe_int (nomark _)) (pw_or1 (pt_cmpR op_lt (pe_callB (cr_min rfl) (by rfl) (b_min T) (by decide +kernel) (pa_cons (pv 8) pa_nil)) pe_int (nomark _)))))
        (pss_one (ps_ret pe_non))
        pss_nil)
      (pss_cons (ps_for PassesOwn.never rfl (pi_range1 (by rfl) (b_range T) (pa_cons (pe_callB call_len_seq (by rfl) (b_len T) (by decide +kernel) (pa_cons (pv 1) pa_nil)) pa_nil)) (pg_name (i := 9) sc__law_paper_cost.nd rfl (Or.inl rfl))
      (pss_cons (ps_set (i := 10) sc__law_paper_cost.nd rfl (Or.inl rfl) (pe_ix ix_list (pv 7) (pv 9) (fun _ _ => rfl)))
      (pss_cons (ps_for PassesOwn.never rfl (pi_zipX (by rfl) (b_zip T) (pa_cons (pe_ix ix_tup (pv 0) pe_int (fun _ _ => rfl)) (pa_cons (pv 8) pa_nil))) (pg_tup rfl (pgs_cons (pg_name (i := 11) sc__law_paper_cost.nd rfl (Or.inl rfl)) (pgs_cons (pg_name (i := 12) sc__law_paper_cost.nd rfl (Or.inl rfl)) pgs_nil)))
      (pss_one (ps_if (pt_cmpR op_in_seq (pe_ix ix_tup (pv 11) pe_int (fun _ _ => rfl)) (pe_ix ix_tup (pe_ix ix_list (pv 2) (pv 9) (fun _ _ => rfl)) pe_int (fun _ _ => rfl)) (by rfl))
        (pss_one (ps_set (i := 10) sc__law_paper_cost.nd rfl (Or.inl rfl) (pe_op op_add (pv 10) (pv 12))))
        pss_nil)))
      (pss_one (ps_if (pt_cmpR op_lt (pv 10) (pv 6) (nomark _))
        (pss_one (ps_ret pe_non))
        pss_nil)))))
      (pss_cons (ps_set (i := 13) sc__law_paper_cost.nd rfl (Or.inl rfl) (pe_op op_mulX (pe_callB (cr_sum rfl) (by rfl) (b_sum T) (by decide +kernel) (pa_cons (pe_lc (own := [("_law_word", 14), ("_law_amount", 12)]) (g := (gTup K 2 (gCons (gName 14) (gCons (gName 12) gNil)))) (tt := tYes) rfl sc__law_paper_cost.nd (pi_zipX (by rfl) (b_zip T) (pa_cons (pv 1) (pa_cons (pv 7) pa_nil))) (blkOk_by (N := ["_law_paper", "_law_words_here", "_law_rows_here", "_law_over", "_law_under_here", "_law_whole", "_law_common", "_law_firsts", "_law_seconds", "_law_at", "_law_total", "_law_pair", "_law_amount", "_law_due", "_law_word"]) (sc := defScope s__law_paper_cost) (by decide +kernel)) (fun _ _ _ _ _ => (pg_tup rfl (pgs_cons (pg_name (i := 14) sc__law_paper_cost.nd rfl (Or.inl rfl)) (pgs_cons (pg_name (i := 12) sc__law_paper_cost.nd rfl (Or.inl rfl)) pgs_nil)))) (fun _ _ _ _ _ => pts_nil) (fun _ _ _ _ _ => (pe_op op_mulX (pe_ix (show IxR _ (rIxT K) from ix_tup) (pv 14) pe_int (fun _ _ => rfl)) (pv 12)))) pa_nil)) (pv 4)))
      (pss_one (ps_ret (pe_lst (pa_cons (pe_op op_add (pv 13) (pe_op op_mulX (pe_op op_mulX (pe_callB (call_min2 rfl) (by rfl) (b_min T) (by decide +kernel) (pa_cons (pv 3) (pa_cons (pv 4) pa_nil))) (pv 5)) (pe_callB (cr_sum rfl) (by rfl) (b_sum T) (by decide +kernel) (pa_cons (pv 8) pa_nil)))) (pa_cons (pe_op op_mulX (pe_op op_mulX (pv 5) (pv 4)) (pv 6)) pa_nil)))))))))))), ?_⟩
    obtain ⟨pa, avs, rfl, hpa, pra⟩ := id rva
    obtain ⟨pb, bvs, rfl, hpb, prb⟩ := id rvb
    obtain ⟨pR, Rvs, rfl, hpR, prR⟩ := id rrw
    have W := I.W
    have n8 := I.n8
    have tp := sum_pos W.pos W.ne
    have tr := int_pos_rat tp
    have hpwH := sm _ _ hpw
    have lw := paired_len prw
    have la := paired_len pra
    have lb := paired_len prb
    rw [List.length_map] at la lb
    refine ⟨_, rfl, pw, rfl, ⟨_, SqL.of hpwH⟩, fun D1 hD1 => ?_⟩
    refine lcM (ys := (ws.map fun e : Wd => e.2).map V.int) (walk_list (xs := wvs)) (by simp [lw]) (by omega) (fun l => SqL.of (get_new hpwH hD1)) (fun i y y' l Ky hy hy' hk => ?_) ?_
    · obtain ⟨e, he, t, ta, tb, rfl, ht, rta, rtb⟩ := paired_get prw hy
      have rtb : tb = .int e.2 := rtb
      subst rtb
      rw [List.getElem?_map, List.getElem?_map, he] at hy'
      obtain rfl := (Option.some.inj hy').symm
      exact ⟨rfl, _, rfl, t, _, _, _, rfl, rfl, SqT.of (get_new (sm _ _ ht) hD1), rfl, hk⟩
    have n1 := (Nw.refl (M := nM) sm).allocH (o := .lst ((ws.map fun e : Wd => e.2).map V.int)) hD1
    refine ⟨D1, ws.map (fun e : Wd => e.2), rfl, SqL.of upd_same, ?_⟩
    have ane : avs ≠ [] := fun e => W.ne (List.length_eq_zero_iff.mp (by rw [← la, e]; rfl))
    have bne : bvs ≠ [] := fun e => rne (List.length_eq_zero_iff.mp (by rw [← lb, e]; rfl))
    refine ⟨_, rfl, p, _, _, _, rfl, rfl, SqT.of (n1.gh _ _ hp), rfl, _, rfl, p, _, _, _, rfl, rfl, SqT.of (n1.gh _ _ hp), rfl, pa, pb, avs, bvs, rfl, rfl, SqT.of (n1.gh _ _ hpa), SqT.of (n1.gh _ _ hpb), by rw [sizeLine_eq]; omega, fun e => absurd e ane, fun _ e => absurd e bne, fun _ _ pc hpc => ?_⟩
    have n2 := n1.alloc (o := .tup (avs ++ bvs)) hpc
    have hpc2 : upd (upd H D1 (.lst ((ws.map fun e : Wd => e.2).map V.int))) pc (.tup (avs ++ bvs)) pc = some (.tup (avs ++ bvs)) := upd_same
    have hpcG : upd G pc (.tup (avs ++ bvs)) pc = some (.tup (avs ++ bvs)) := upd_same
    have prc := paired_append pra prb
    have prc2 := paired_mono n2.gg prc
    have dl : ∀ q ∈ (ws.map fun e : Wd => (e.1, uf e.1)) ++ rdb.map fun t : Str => (t, vf t), q.2.den < 2 ^ 84 := fun q hq => by
      rcases List.mem_append.mp hq with h | h
      · obtain ⟨e, he, rfl⟩ := List.mem_map.mp h
        exact (bU e he).2
      · obtain ⟨t, ht, rfl⟩ := List.mem_map.mp h
        exact (bV t).2
    have ll : ((ws.map fun e : Wd => (e.1, uf e.1)) ++ rdb.map fun t : Str => (t, vf t)).length ≤ 24 := by rw [List.length_append, List.length_map, List.length_map]; omega
    refine ⟨upd G pc (.tup (avs ++ bvs)), _, (ws.map fun e : Wd => (e.1, uf e.1)) ++ rdb.map fun t : Str => (t, vf t), 84, rfl, n2.gh, ⟨pc, _, rfl, hpcG, prc2⟩, by omega, by decide, dl, fun C hC hCd0 hCb0 => ?_⟩
    have hCb : C < 2 ^ 2100 := Nat.lt_of_lt_of_le hCb0 (Nat.pow_le_pow_right (by decide) (by have := Nat.mul_le_mul_left 84 ll; omega))
    clear hCb0
    have hCd : ∀ e ∈ ws, ((uf e.1).den : Int) ∣ (C : Int) := fun e he => Int.natCast_dvd_natCast.mpr (hCd0 _ (List.mem_append_left _ (List.mem_map.mpr ⟨e, he, rfl⟩)))
    have hCv : ∀ t ∈ rdb, ((vf t).den : Int) ∣ (C : Int) := fun t ht => Int.natCast_dvd_natCast.mpr (hCd0 _ (List.mem_append_right _ (List.mem_map.mpr ⟨t, ht, rfl⟩)))
    have Cr : (0 : Rat) < ((C : Int) : Rat) := int_pos_rat (by omega)
    have A0 : ∀ e ∈ ws, 0 ≤ prt C (uf e.1) := fun e he => int_of_rat (by
      rw [prt_eq (hCd e he)]
      exact Rat.mul_nonneg (dua.un e he) (Rat.le_of_lt Cr))
    have B0 : ∀ t ∈ rdb, 0 ≤ prt C (vf t) := fun t ht => int_of_rat (by
      rw [prt_eq (hCv t ht)]
      exact Rat.mul_nonneg (dua.vn t) (Rat.le_of_lt Cr))
    have Pb : ∀ q : Rat, Bq 84 q → (prt C q).natAbs < 2 ^ 2184 := fun q hq => by
      unfold prt
      rw [Int.natAbs_mul]
      have h1 := hq.1
      have h2 : ((C : Int) / (q.den : Int)).natAbs < 2 ^ 2100 := nat_lt_two (natAbs_ediv_le _ _) (by simpa using hCb)
      have := Nat.mul_lt_mul'' h1 h2
      rw [← Nat.pow_add] at this
      exact this
    have hpa1 := n2.gh _ _ (n2.gg _ _ hpa)
    have hp2 := n2.gh _ _ (n2.gg _ _ hp)
    generalize upd (upd H D1 (.lst ((ws.map fun e : Wd => e.2).map V.int))) pc (.tup (avs ++ bvs)) = H2 at n2 hpc2 hpa1 hp2
    generalize upd G pc (.tup (avs ++ bvs)) = G2 at n2 hpcG prc2
    refine ⟨_, rfl, p, _, _, _, rfl, rfl, SqT.of hp2, rfl, pa, rfl, ⟨_, SqT.of hpa1⟩, fun D2 hD2 => ?_⟩
    refine lcM (ys := (ws.map fun e : Wd => prt C (uf e.1)).map V.int) (walk_tup (xs := avs)) (by simp [la]) (by omega) (fun l => SqT.of (get_new hpa1 hD2)) (fun i y y' l Ky hy hy' hk => ?_) ?_
    · obtain ⟨q, hq, t, ta, tb, rfl, ht, rta, a, dx, rfl, ha⟩ := paired_get pra hy
      rw [List.getElem?_map] at hq
      cases hw : ws[i]? with
      | none => rw [hw] at hq; cases hq
      | some e =>
        rw [hw] at hq
        obtain rfl := (Option.some.inj hq).symm
        rw [List.getElem?_map, List.getElem?_map, hw] at hy'
        obtain rfl := (Option.some.inj hy').symm
        have hem := List.mem_of_getElem? hw
        have ht1 := get_new (o := .lst l) (n2.gh _ _ (n2.gg _ _ ht)) hD2
        have ha1 := get_new (o := .lst l) (n2.gh _ _ (n2.gg _ _ ha)) hD2
        have bu2 := bU e hem
        refine ⟨rfl, _, rfl, t, _, _, _, rfl, rfl, SqT.of ht1, rfl, a, dx, _, _, rfl, ha1, rfl, _, rfl, _, rfl, t, _, _, _, rfl, rfl, SqT.of ht1, rfl, a, dx, _, _, rfl, ha1, rfl, _, _, rfl, rfl, wide_div (b := 84) (den_pos _) (by simpa using bu2.2) (by decide) (by decide), _, _, rfl, rfl, ?_, hk⟩
        show CMulX (uf e.1).num ((C : Int) / ((uf e.1).den : Int))
        exact mulx_ok (a := 84) (b := 2100) bu2.1 (nat_lt_two (natAbs_ediv_le _ _) (by simpa using hCb)) (by decide)
    have n3 := n2.allocH (o := .lst ((ws.map fun e : Wd => prt C (uf e.1)).map V.int)) hD2
    have hA3 : upd H2 D2 (.lst ((ws.map fun e : Wd => prt C (uf e.1)).map V.int)) D2 = some (.lst ((ws.map fun e : Wd => prt C (uf e.1)).map V.int)) := upd_same
    dsimp only [gName]
    generalize upd H2 D2 (.lst ((ws.map fun e : Wd => prt C (uf e.1)).map V.int)) = H3 at n3 hA3
    have hp3 := n3.gh _ _ (n3.gg _ _ hp)
    have hpb3 := n3.gh _ _ (n3.gg _ _ hpb)
    refine ⟨_, rfl, p, _, _, _, rfl, rfl, SqT.of hp3, rfl, pb, rfl, ⟨_, SqT.of hpb3⟩, fun D3 hD3 => ?_⟩
    refine lcM (ys := (rdb.map fun t : Str => prt C (vf t)).map V.int) (walk_tup (xs := bvs)) (by simp [lb]) (by omega) (fun l => SqT.of (get_new hpb3 hD3)) (fun i y y' l Ky hy hy' hk => ?_) ?_
    · obtain ⟨q, hq, t, ta, tb, rfl, ht, rta, a, dx, rfl, ha⟩ := paired_get prb hy
      rw [List.getElem?_map] at hq
      cases hw : rdb[i]? with
      | none => rw [hw] at hq; cases hq
      | some e =>
        rw [hw] at hq
        obtain rfl := (Option.some.inj hq).symm
        rw [List.getElem?_map, List.getElem?_map, hw] at hy'
        obtain rfl := (Option.some.inj hy').symm
        have ht1 := get_new (o := .lst l) (n3.gh _ _ (n3.gg _ _ ht)) hD3
        have ha1 := get_new (o := .lst l) (n3.gh _ _ (n3.gg _ _ ha)) hD3
        have bu2 := bV e
        refine ⟨rfl, _, rfl, t, _, _, _, rfl, rfl, SqT.of ht1, rfl, a, dx, _, _, rfl, ha1, rfl, _, rfl, _, rfl, t, _, _, _, rfl, rfl, SqT.of ht1, rfl, a, dx, _, _, rfl, ha1, rfl, _, _, rfl, rfl, wide_div (b := 84) (den_pos _) (by simpa using bu2.2) (by decide) (by decide), _, _, rfl, rfl, ?_, hk⟩
        show CMulX (vf e).num ((C : Int) / ((vf e).den : Int))
        exact mulx_ok (a := 84) (b := 2100) bu2.1 (nat_lt_two (natAbs_ediv_le _ _) (by simpa using hCb)) (by decide)
    have n4 := n3.allocH (o := .lst ((rdb.map fun t : Str => prt C (vf t)).map V.int)) hD3
    have hB4 : upd H3 D3 (.lst ((rdb.map fun t : Str => prt C (vf t)).map V.int)) D3 = some (.lst ((rdb.map fun t : Str => prt C (vf t)).map V.int)) := upd_same
    have hA4 := get_new (o := .lst ((rdb.map fun t : Str => prt C (vf t)).map V.int)) hA3 hD3
    dsimp only [gName]
    generalize upd H3 D3 (.lst ((rdb.map fun t : Str => prt C (vf t)).map V.int)) = H4 at n4 hB4 hA4
    have hp4 := n4.gh _ _ (n4.gg _ _ hp)
    have hpb4 := n4.gh _ _ (n4.gg _ _ hpb)
    have hpw4 := n4.gh _ _ (n4.gg _ _ hpw)
    have hpR4 := n4.gh _ _ (n4.gg _ _ hpR)
    have wpos : 0 < ws.length := List.length_pos_iff.mpr W.ne
    refine ⟨_, rfl, D2, _, rfl, SqL.of hA4, by rw [List.length_map]; omega, fun m hm _ => ?_⟩
    obtain ⟨e0, he0, rfl⟩ := List.mem_map.mp hm
    refine ⟨_, _, rfl, rfl, _, rfl, itF (by have := A0 e0 he0; simp; omega) ?_⟩
    refine ⟨_, rfl, D3, _, rfl, SqL.of hB4, by rw [List.length_map]; exact List.length_pos_iff.mpr rne, fun m2 hm2 _ => ?_⟩
    obtain ⟨t0, ht0, rfl⟩ := List.mem_map.mp hm2
    refine ⟨_, _, rfl, rfl, _, rfl, itF (by have := B0 t0 ht0; simp; omega) ?_⟩
    refine ⟨_, rfl, pw, _, rfl, .inl (SqL.of hpw4), _, rfl, by rw [lw]; omega, by rw [lw]; omega, ?_⟩
    have tb : (total ws).natAbs < 2 ^ 140 := W.big
    have lR := paired_len prR
    have wk : Walk (Itr 0 ((wvs.length : Nat) : Int).toNat) ws.length (fun _ => True) (YFn fun i => .int (0 + (i : Nat))) := by rw [Int.toNat_natCast, lw]; exact walk_range
    refine for_it wk (fun i σ H' => ∃ (z9 z10 z11 z12 : Option V), σ = [some (.ref p), some (.ref pw), some (.ref pR), some (.int o), some (.int u), some (.int (total ws)), some (.int (C : Int)), some (.ref D2), some (.ref D3), z9, z10, z11, z12, none, none] ∧ Nw nM G2 H4 G2 H')
      ⟨none, none, none, none, rfl, Nw.refl n4.gh⟩ (fun _ _ _ _ _ => trivial) ?_ ?_
    · rintro j v σ H5 H6 hj ⟨z9, z10, z11, z12, rfl, n5⟩ ⟨rfl, rfl⟩
      have ew : ws[j]? = some ws[j] := List.getElem?_eq_getElem hj
      generalize ws[j] = e at ew
      have hem := List.mem_of_getElem? ew
      obtain ⟨r, er, er2⟩ := al.of I.R.nd ew
      obtain ⟨rv, hrv, t0, ta, tb0, rfl, ht0, rta, pr, rfl, hpr⟩ := paired_get' prR er
      have jR : j < Rvs.length := (List.getElem?_eq_some_iff.mp hrv).1
      have hA5 := n5.hh _ _ (fun z => z) hA4
      have hB5 := n5.hh _ _ (fun z => z) hB4
      have g2 : ∀ b o, G b = some o → G2 b = some o := fun b o h => n4.gg _ _ h
      refine ⟨_, rfl, _, rfl, D2, _, _, _, rfl, rfl, SqL.of hA5, by rw [Int.zero_add, at_nat (by simpa using hj), List.getElem?_map, List.getElem?_map, ew]; rfl, ?_⟩
      refine ⟨_, rfl, p, _, _, _, rfl, rfl, SqT.of (n5.gh _ _ (g2 _ _ hp)), rfl, _, rfl, .tup pb, .lst D3, _, _, rfl, Rd.of (n5.gh _ _ (g2 _ _ hpb)), Rd.of hB5, ?_⟩
      have wz : Walk (ItzX (.tup pb) (.lst D3)) rdb.length (fun H => (Sq.tup pb).Is H bvs ∧ (Sq.lst D3).Is H ((rdb.map fun t : Str => prt C (vf t)).map V.int)) (YPair (fun i => bvs[i]?) fun i => ((rdb.map fun t : Str => prt C (vf t)).map V.int)[i]?) := walk_zipX (q1 := .tup pb) (q2 := .lst D3) (xs := bvs) (ys := (rdb.map fun t : Str => prt C (vf t)).map V.int) (n := rdb.length) (by simp [lb])
      refine for_it wz (fun i σ H' => ∃ (z11 z12 : Option V), σ = [some (.ref p), some (.ref pw), some (.ref pR), some (.int o), some (.int u), some (.int (total ws)), some (.int (C : Int)), some (.ref D2), some (.ref D3), some (.int (0 + (j : Int))), some (.int (prt C (uf e.1) + ((rdb.take i).map fun t : Str => if t ∈ ofR rows e.1 then prt C (vf t) else 0).sum)), z11, z12, none, none] ∧ Nw nM G2 H4 G2 H')
        ⟨z11, z12, by simp only [List.take_zero, List.map_nil, List.sum_nil, Int.add_zero]; rfl, n5⟩ (fun i σ H' _ h => by obtain ⟨z11, z12, rfl, n⟩ := h; exact ⟨Rd.of (n.gh _ _ (g2 _ _ hpb)), Rd.of (n.hh _ _ (fun z => z) hB4)⟩) ?_ ?_
      · rintro i y σ H7 H8 hi ⟨z11', z12', rfl, n⟩ ⟨T1, y1, y2, rfl, hT1, rfl, e1, e2⟩
        obtain ⟨q, hq, t, ta1, tb1, rfl, ht, rta1, rtb⟩ := paired_get prb e1
        have et : rdb[i]? = some rdb[i] := List.getElem?_eq_getElem hi
        generalize rdb[i] = tx at et
        rw [List.getElem?_map, et] at hq
        obtain rfl := (Option.some.inj hq).symm
        have rta1 : ta1 = .str tx := rta1
        subst rta1
        have e2 : ((rdb.map fun t : Str => prt C (vf t)).map V.int)[i]? = some y2 := e2
        rw [List.getElem?_map, List.getElem?_map, et] at e2
        have e2 := (Option.some.inj e2).symm
        have e2 : y2 = .int (prt C (vf tx)) := e2
        subst e2
        have n6 := n.allocH (o := .tup [.ref t, .int (prt C (vf tx))]) hT1
        have hT2 : upd H7 T1 (.tup [.ref t, .int (prt C (vf tx))]) T1 = some (.tup [.ref t, .int (prt C (vf tx))]) := upd_same
        generalize upd H7 T1 (.tup [.ref t, .int (prt C (vf tx))]) = H9 at n6 hT2
        have tk : rdb.take (i + 1) = rdb.take i ++ [tx] := by rw [List.take_add_one, et]; rfl
        have hm : ((rdb.take (i + 1)).map fun t : Str => if t ∈ ofR rows e.1 then prt C (vf t) else 0).sum = ((rdb.take i).map fun t : Str => if t ∈ ofR rows e.1 then prt C (vf t) else 0).sum + if tx ∈ ofR rows e.1 then prt C (vf tx) else 0 := by
          rw [tk, List.map_append, List.sum_append]
          simp
        rw [hm]
        refine ⟨T1, _, rfl, SqT.of hT2, rfl, _, _, rfl, _, _, rfl, rfl, ?_⟩
        refine ⟨_, rfl, t, _, _, _, rfl, rfl, SqT.of (n6.gh _ _ (g2 _ _ ht)), rfl, _, rfl, _, rfl, pR, _, _, _, rfl, rfl, SqL.of (n6.gh _ _ (g2 _ _ hpR)), by rw [Int.zero_add, at_nat jR]; exact hrv, t0, _, _, _, rfl, rfl, SqT.of (n6.gh _ _ (g2 _ _ ht0)), rfl, pr, _, rfl, .inl (SqL.of (n6.gh _ _ (g2 _ _ hpr))), rfl, flat_strs r.2, ?_⟩
        rw [inV_str, er2]
        refine ⟨_, rfl, ite2 (fun c => ?_) fun c => ?_⟩
        · have c : tx ∈ ofR rows e.1 := by simpa using c
          rw [if_pos c]
          refine ⟨_, rfl, _, rfl, _, _, rfl, rfl, _, _, by rw [← Int.add_assoc]; rfl, n6⟩
        · have c : ¬ tx ∈ ofR rows e.1 := by simpa using c
          rw [if_neg c, Int.add_zero]
          exact ⟨_, _, rfl, n6⟩
      · rintro σ H7 ⟨z11', z12', rfl, n⟩
        rw [List.take_length]
        have es : ((prt C (uf e.1) + (rdb.map fun t : Str => if t ∈ ofR rows e.1 then prt C (vf t) else 0).sum : Int) : Rat) = (uf e.1 + ls (fun t => if t ∈ ofR rows e.1 then vf t else 0) rdb) * ((C : Int) : Rat) := by
          rw [Rat.intCast_add, prt_eq (hCd e hem), sum_ls, Rat.add_mul]
          congr 1
          rw [Rat.mul_comm, ← ls_mul]
          refine ls_congr fun t ht => ?_
          by_cases c : t ∈ ofR rows e.1
          · rw [if_pos c, if_pos c, prt_eq (hCv t ht), Rat.mul_comm]
          · rw [if_neg c, if_neg c, Rat.mul_zero]
            rfl
        have s2 : (C : Int) ≤ prt C (uf e.1) + (rdb.map fun t : Str => if t ∈ ofR rows e.1 then prt C (vf t) else 0).sum := int_of_rat (by
          rw [es]
          have := Rat.mul_le_mul_of_nonneg_right (dua.re e hem) (Rat.le_of_lt Cr)
          rw [Rat.one_mul] at this
          exact this)
        refine ⟨_, rfl, _, rfl, _, _, rfl, rfl, _, rfl, itF (by simp; exact s2) ?_⟩
        exact ⟨_, _, _, _, rfl, n⟩
    · rintro σ H5 ⟨z9, z10, z11, z12, rfl, n5⟩
      have hA5 := n5.hh _ _ (fun z => z) hA4
      have hB5 := n5.hh _ _ (fun z => z) hB4
      have hpw5 := n5.hh _ _ (fun z => z) hpw4
      refine ⟨_, rfl, _, rfl, .lst pw, .lst D2, _, _, rfl, Rd.of hpw5, Rd.of hA5, fun D4 hD4 => ?_⟩
      have wz : Walk (ItzX (.lst pw) (.lst D2)) ws.length (fun H => (Sq.lst pw).Is H wvs ∧ (Sq.lst D2).Is H ((ws.map fun e : Wd => prt C (uf e.1)).map V.int)) (YPair (fun i => wvs[i]?) fun i => ((ws.map fun e : Wd => prt C (uf e.1)).map V.int)[i]?) := walk_zipX (q1 := .lst pw) (q2 := .lst D2) (xs := wvs) (ys := (ws.map fun e : Wd => prt C (uf e.1)).map V.int) (n := ws.length) (by simp [lw])
      refine lcN wz ((ws.map fun e : Wd => e.2 * prt C (uf e.1)).map V.int) (by simp) (by omega) n5.gh hD4 (fun H' n => ⟨Rd.of (n.hh _ _ (fun z => z) hpw5), Rd.of (n.hh _ _ (fun z => z) hA5)⟩) (fun i x Hc H' y Ky hi hy n hY hk => ?_) (fun H6 n6 hD6 => ?_)
      · obtain ⟨T1, y1, y2, rfl, hT1, rfl, e1, e2⟩ := hY
        obtain ⟨e, he, t, ta, tb1, rfl, ht, rta, rtb⟩ := paired_get prw e1
        have rtb : tb1 = .int e.2 := rtb
        subst rtb
        have e2 : ((ws.map fun e : Wd => prt C (uf e.1)).map V.int)[i]? = some y2 := e2
        rw [List.getElem?_map, List.getElem?_map, he] at e2
        have e2 := (Option.some.inj e2).symm
        have e2 : y2 = .int (prt C (uf e.1)) := e2
        subst e2
        rw [List.getElem?_map, List.getElem?_map, he] at hy
        obtain rfl := (Option.some.inj hy).symm
        have hem := List.mem_of_getElem? he
        have n7 := (Nw.refl (M := nM) n.gh).allocH (o := .tup [.ref t, .int (prt C (uf e.1))]) hT1
        have hT2 : upd Hc T1 (.tup [.ref t, .int (prt C (uf e.1))]) T1 = some (.tup [.ref t, .int (prt C (uf e.1))]) := upd_same
        generalize upd Hc T1 (.tup [.ref t, .int (prt C (uf e.1))]) = H9 at n7 hT2
        have eb : e.2.natAbs < 2 ^ 140 := nat_lt_two (show e.2.natAbs ≤ (total ws).natAbs by have h1 := W.pos e hem; have h2 := mem_le W.pos e hem; omega) tb
        refine ⟨T1, _, rfl, SqT.of hT2, rfl, _, _, rfl, _, _, rfl, rfl, rfl, ?_⟩
        refine ⟨_, rfl, t, _, _, _, rfl, rfl, SqT.of (n7.gh _ _ (n5.gg _ _ (n4.gg _ _ ht))), rfl, _, rfl, _, _, rfl, rfl, mulx_ok eb (Pb _ (bU e hem)) (by decide), hk _ n7⟩
      · have hB6 := n6.hh _ _ (fun z => z) hB5
        have n7 := (n4.trans n5).trans n6
        have es1 : (((ws.map fun e : Wd => e.2 * prt C (uf e.1)).sum : Int) : Rat) = ls (fun e : Wd => (e.2 : Rat) * uf e.1) ws * ((C : Int) : Rat) := by
          rw [sum_ls, Rat.mul_comm, ← ls_mul]
          refine ls_congr fun e he => ?_
          rw [Rat.intCast_mul, prt_eq (hCd e he)]
          grind
        have es2 : (((rdb.map fun t : Str => prt C (vf t)).sum : Int) : Rat) = ls vf rdb * ((C : Int) : Rat) := by
          rw [sum_ls, Rat.mul_comm, ← ls_mul]
          refine ls_congr fun t ht => ?_
          rw [prt_eq (hCv t ht), Rat.mul_comm]
        have l1 : 0 ≤ ls (fun e : Wd => (e.2 : Rat) * uf e.1) ws := ls_nn fun e he => Rat.mul_nonneg (Rat.le_of_lt (int_pos_rat (by have := W.pos e he; omega))) (dua.un e he)
        have l2 : 0 ≤ ls vf rdb := ls_nn fun t ht => dua.vn t
        have dv := dua.val
        have cm := cap_min (o := o) hu
        have e3 : (if u < o then u else o) = if o < u then o else u := by split <;> split <;> omega
        rw [← e3] at cm
        have mp : 0 < (if u < o then u else o) := by split <;> assumption
        have mb : (if u < o then u else o).natAbs < 2 ^ 140 := by split <;> assumption
        have mr := int_pos_rat mp
        have ur := int_pos_rat hu
        have hmn : ∃ mn, mn = (if u < o then u else o) := ⟨_, rfl⟩
        obtain ⟨mn, hmn⟩ := hmn
        rw [← hmn] at cm mp mb mr
        generalize cap ((o : Rat) / (u : Rat)) = cp at dv cm
        generalize ls (fun e : Wd => (e.2 : Rat) * uf e.1) ws = g1 at es1 l1 dv
        generalize ls vf rdb = g2 at es2 l2 dv
        obtain ⟨fr, b1, b2⟩ := pc_fin hC hCb tp tb hu bu mp cm es1 es2 l1 l2 dv v1
        refine ⟨D4, ws.map (fun e : Wd => e.2 * prt C (uf e.1)), rfl, SqL.of hD6, ?_⟩
        have m4 : (total ws * u).natAbs < 2 ^ 280 := by
          rw [Int.natAbs_mul]
          have := Nat.mul_lt_mul'' tb bu
          rw [← Nat.pow_add] at this
          exact this
        have m5 : (mn * total ws).natAbs < 2 ^ 280 := by
          rw [Int.natAbs_mul]
          have := Nat.mul_lt_mul'' mb tb
          rw [← Nat.pow_add] at this
          exact this
        refine ⟨_, rfl, _, _, rfl, rfl, mulx_ok b1 bu (by decide), ?_⟩
        refine ⟨_, rfl, _, rfl, _, rfl, o, u, rfl, ?_⟩
        rw [← hmn]
        refine ⟨_, rfl, _, _, rfl, rfl, mulx_ok mb tb (by decide), _, rfl, D3, _, rfl, SqL.of hB6, _, _, rfl, rfl, mulx_ok m5 b2 (by decide), _, _, rfl, rfl, ?_⟩
        refine ⟨_, rfl, _, rfl, _, _, rfl, rfl, mulx_ok tb bu (by decide), _, rfl, _, _, rfl, rfl, mulx_ok (b := 2100) m4 (by simpa using hCb) (by decide), ?_, fun pz hz => ?_⟩
        · simp [sizeLine_eq]
        exact k _ _ fr _ _ _ (n7.alloc (o := .lst _) hz) ⟨pz, rfl, upd_same⟩
end
end Mk

-- K5
set_option Elab.async false
set_option linter.all false
set_option maxRecDepth 100000
set_option maxHeartbeats 4000000
set_option exponentiation.threshold 20000
namespace Mk
open PySem PySem.Spec PyProof.Rows L2
open C8 (InsC call_isC)
theorem Val.uniq {ws : List Wd} {rows : List Row} {lam V V' : Rat} (W : Wds ws) (a : Val ws rows lam V) (b : Val ws rows lam V') : V = V' := by
  have tp := sum_pos W.pos W.ne
  obtain ⟨x, hx⟩ := a.pri
  obtain ⟨y, hy⟩ := b.pri
  obtain ⟨_, _, _, da⟩ := a.dua
  obtain ⟨_, _, _, db⟩ := b.dua
  exact Rat.le_antisymm (weak hx db tp) (weak hy da tp)
theorem frc_eq {V : Rat} {S C S' C' : Int} (a : Frc V S C) (b : Frc V S' C') : S * C' = S' * C := by
  refine Rat.intCast_inj.mp ?_
  rw [Rat.intCast_mul, Rat.intCast_mul, a.2.1, b.2.1]
  grind
theorem frc_x {V : Rat} {S C S' C' : Int} (a : Frc V S C) (b : Frc V S' C') : CMulX S C' := mulx_ok a.2.2.1 b.2.2.2 (by decide)
section
variable {P : Program} {w : World} {K : PySem.W.Frag} {mg : Str → Option Value} {base : Heap}
def spLW (K : PySem.W.Frag) : Sp := fun vs H Q _ => ∃ (G : Hp) (sv cv wv rwv : V) (pl : Addr) (ws : List Wd) (rows : List Row) (o u : Int), vs = [sv, cv, .ref pl, wv, rwv] ∧ Same G H ∧ H pl = some (.lst [.int o, .int u]) ∧ rSrc K G sv ws ∧ rCh K G cv rows ∧ rWds G wv ws ∧ rRows G rwv rows ∧
  Inst ws rows ∧ Aln ws rows ∧ 0 < o ∧ 0 < u ∧ o.natAbs < 2 ^ 140 ∧ u.natAbs < 2 ^ 140 ∧ ∀ Vl S C, Val ws rows ((o : Rat) / (u : Rat)) Vl → Frc Vl S C → Ret nM G H (rLf V.int) [S, C] Q
theorem sc__law_worth : FnScope ["_law_source_here", "_law_changed", "_law_level_here", "_law_words_here", "_law_rows_here", "_law_share", "_law_row", "_law_paper", "_law_low", "_law_high", "_law_word"] ["_law_source_here", "_law_changed", "_law_level_here", "_law_words_here", "_law_rows_here"] (defScope s__law_worth) := ⟨rfl, rfl, rfl, by decide +kernel, rfl, by decide +kernel, by decide +kernel⟩
theorem ok__law_worth (T : Tx K mg) : Ok P w K mg base 9 (He.ga K "_law_worth") ["_law_source_here", "_law_changed", "_law_level_here", "_law_words_here", "_law_rows_here"] (spLW K) := by
  refine ok_mk (f__law_worth T) (df_kp (f__law_worth T)) sc__law_worth (fun _ _ _ _ _ _ us hl => match us, hl with | [_, _, _, _, _], _ => rfl) (fun vs H Q E h => ?_) (fun cdv A outer s H vs Q E hr h => ?_)
  · obtain ⟨G, sv, cv, wv, rwv, pl, ws, rows, o, u, rfl, _⟩ := h
    rfl
  · obtain ⟨G, sv, cv, wv, rwv, pl, ws, rows, o, u, rfl, sm, hpl, rs, rc, rw0, rr, I, al, ho, hu, bo, bu, k⟩ := h
    refine ⟨_, (pss_cons (ps_set (i := 5) sc__law_worth.nd rfl (Or.inl rfl) (pe_k (k_Share T) (ok_Share_init T) (hr.mono (by decide)) rfl (g_Share T) (pa_cons (pe_ix ix_list (pv 2) pe_int (fun _ _ => rfl)) (pa_cons (pe_ix ix_list (pv 2) pe_int (fun _ _ => rfl)) pa_nil))))
      (pss_cons (ps_set (i := 6) sc__law_worth.nd rfl (Or.inl rfl) (pe_c (ok_best_row T) (hr.mono (by decide)) rfl (g_best_row T) (pa_cons (pv 0) (pa_cons (pv 1) (pa_cons (pv 5) pa_nil)))))
      (pss_cons (ps_set (i := 7) sc__law_worth.nd rfl (Or.inl rfl) (pe_c (ok_prices T) (hr.mono (by decide)) rfl (g_prices T) (pa_cons (pv 0) (pa_cons (pv 1) (pa_cons (pv 5) pa_nil)))))
      (pss_cons (ps_if (PW.pt (pw_or (pt_not (pt_val (pe_c (ok__law_pairs_are T) (hr.mono (by decide)) rfl (g__law_pairs_are T) (pa_cons (pv 6) (pa_cons (pe_lc (own := [("_law_word", 10)]) (g := (gName 10)) (tt := tYes) rfl sc__law_worth.nd (pi_list (pv 3)) (blkOk_by (N := ["_law_source_here", "_law_changed", "_law_level_here", "_law_words_here", "_law_rows_here", "_law_share", "_law_row", "_law_paper", "_law_low", "_law_high", "_law_word"]) (sc := defScope s__law_worth) (by decide +kernel)) (fun _ _ _ _ _ => (pg_name (i := 10) sc__law_worth.nd rfl (Or.inl rfl))) (fun _ _ _ _ _ => pts_nil) (fun _ _ _ _ _ => (pe_ix (show IxR _ (rIxT K) from ix_tup) (pv 10) pe_int (fun _ _ => rfl)))) pa_nil))))) (pw_or (pt_not (pt_val (pe_callB call_isi (by rfl) (b_isinstance T) (by decide +kernel) (pa_cons (pv 7) (pa_cons (pe_bltn (v := .ty "tuple") (by rfl) (b_tuple T) (by decide +kernel) rfl) pa_nil))))) (pw_or1 (pt_cmpR op_ne (pe_callB call_len_seq (by rfl) (b_len T) (by decide +kernel) (pa_cons (pv 7) pa_nil)) pe_int (nomark _))))))
        (pss_one (ps_ret pe_non))
        pss_nil)
      (pss_cons (ps_if (PW.pt (pw_or (pt_not (pt_val (pe_c (ok__law_pairs_are T) (hr.mono (by decide)) rfl (g__law_pairs_are T) (pa_cons (pe_ix ix_tup (pv 7) pe_int (fun _ _ => rfl)) (pa_cons (pe_lc (own := [("_law_word", 10)]) (g := (gName 10)) (tt := tYes) rfl sc__law_worth.nd (pi_list (pv 3)) (blkOk_by (N := ["_law_source_here", "_law_changed", "_law_level_here", "_law_words_here", "_law_rows_here", "_law_share", "_law_row", "_law_paper", "_law_low", "_law_high", "_law_word"]) (sc := defScope s__law_worth) (by decide +kernel)) (fun _ _ _ _ _ => (pg_name (i := 10) sc__law_worth.nd rfl (Or.inl rfl))) (fun _ _ _ _ _ => pts_nil) (fun _ _ _ _ _ => (pe_ix (show IxR _ (rIxT K) from ix_tup) (pv 10) pe_int (fun _ _ => rfl)))) pa_nil))))) (pw_or1 (pt_not (pt_val (pe_c (ok__law_pairs_are T) (hr.mono (by decide)) rfl (g__law_pairs_are T) (pa_cons (pe_ix ix_tup (pv 7) pe_int (fun _ _ => rfl)) (pa_cons (pe_c (ok__law_all T) (hr.mono (by decide)) rfl (g__law_all T) (pa_cons (pv 4) pa_nil)) pa_nil))))))))
        (pss_one (ps_ret pe_non))
        pss_nil)
      (pss_cons (ps_set (i := 8) sc__law_worth.nd rfl (Or.inl rfl) (pe_c (ok__law_row_total T) (hr.mono (by decide)) rfl (g__law_row_total T) (pa_cons (pv 6) (pa_cons (pv 3) (pa_cons (pv 4) (pa_cons (pe_ix ix_list (pv 2) pe_int (fun _ _ => rfl)) (pa_cons (pe_ix ix_list (pv 2) pe_int (fun _ _ => rfl)) pa_nil)))))))
      (pss_cons (ps_set (i := 9) sc__law_worth.nd rfl (Or.inl rfl) (pe_c (ok__law_paper_cost T) (hr.mono (by decide)) rfl (g__law_paper_cost T) (pa_cons (pv 7) (pa_cons (pv 3) (pa_cons (pv 4) (pa_cons (pe_ix ix_list (pv 2) pe_int (fun _ _ => rfl)) (pa_cons (pe_ix ix_list (pv 2) pe_int (fun _ _ => rfl)) pa_nil)))))))
      (pss_cons (ps_if (PW.pt (pw_or (pt_cmpR op_isN (pv 8) pe_non (nomark _)) (pw_or (pt_cmpR op_isN (pv 9) pe_non (nomark _)) (pw_or1 (pt_cmpR op_ne (pe_op op_mulX (pe_ix ix_list (pv 8) pe_int (fun _ _ => rfl)) (pe_ix ix_list (pv 9) pe_int (fun _ _ => rfl))) (pe_op op_mulX (pe_ix ix_list (pv 9) pe_int (fun _ _ => rfl)) (pe_ix ix_list (pv 8) pe_int (fun _ _ => rfl))) (nomark _))))))
        (pss_one (ps_ret pe_non))
        pss_nil)
      (pss_one (ps_ret (pv 8))))))))))), ?_⟩
    obtain ⟨pw, wvs, rfl, hpw, prw⟩ := id rw0
    have W := I.W
    have n8 := I.n8
    have lw := paired_len prw
    have ub : u.natAbs < 2 ^ 9000 := Nat.lt_trans bu (Nat.pow_lt_pow_right (by decide) (by decide))
    have lb : Bq 140 ((o : Rat) / (u : Rat)) := bq_of hu bo bu
    have lp : 0 < (o : Rat) / (u : Rat) := by
      have h1 := int_pos_rat ho
      have h2 := int_pos_rat hu
      rw [Rat.div_def]
      exact Rat.mul_pos h1 (Rat.inv_pos.mpr h2)
    refine ⟨_, rfl, pl, _, _, .int o, rfl, rfl, SqL.of hpl, rfl, _, rfl, pl, _, _, .int u, rfl, rfl, SqL.of hpl, rfl, ?_⟩
    intro x1 dx1 hx1 hd1 ne1
    refine sh_new1 (M := nM) hx1 hd1 ne1 hu ub (Nw.refl sm) fun G1 H1 n1 r1 => ⟨rfl, ?_⟩
    have hpl1 := n1.hh _ _ (fun z => z) hpl
    have m1 := n1.gg
    have pre : PreI K G1 H1 sv cv (.ref x1) ws rows ((o : Rat) / (u : Rat)) := ⟨n1.gh, Mono.mono m1 rs, Mono.mono m1 rc, r1, I, lb, lp⟩
    refine ⟨_, rfl, _, rfl, _, rfl, G1, sv, cv, .ref x1, ws, rows, _, rfl, pre, fun x Vl D pri val hD sD hx hW v2 G2 H2 n2 r2 => ?_⟩
    have m2 := n2.gg
    have pre2 : PreI K G2 H2 sv cv (.ref x1) ws rows ((o : Rat) / (u : Rat)) := ⟨n2.gh, Mono.mono m2 pre.s, Mono.mono m2 pre.c, Mono.mono m2 r1, I, lb, lp⟩
    refine ⟨_, rfl, _, rfl, _, rfl, G2, sv, cv, .ref x1, ws, rows, _, rfl, pre2, fun rdb uf vf V' dua srt mem val' bU bV v3 G3 H3 n3 r3 => ?_⟩
    obtain ⟨p3, va, vb, rfl, hp3, rva, rvb⟩ := r3
    obtain rfl := Val.uniq W val val'
    have n23 := n2.trans n3
    have m3 := n1.gg.trans n23.gg
    have hpw3 := n3.gh _ _ (m3 _ _ hpw)
    refine ⟨_, rfl, _, rfl, pw, rfl, ⟨_, SqL.of hpw3⟩, fun D1 hD1 => ?_⟩
    refine lcM (ys := (ws.map fun e : Wd => e.1).map V.str) (walk_list (xs := wvs)) (by simp [lw]) (by omega) (fun l => SqL.of (get_new hpw3 hD1)) (fun i y y' l Ky hy hy' hk => ?_) ?_
    · obtain ⟨e, he, t, ta, tb, rfl, ht, rta, rtb⟩ := paired_get prw hy
      have rta : ta = .str e.1 := rta
      subst rta
      rw [List.getElem?_map, List.getElem?_map, he] at hy'
      obtain rfl := (Option.some.inj hy').symm
      exact ⟨rfl, _, rfl, t, _, _, _, rfl, rfl, SqT.of (get_new (n3.gh _ _ (m3 _ _ ht)) hD1), rfl, hk⟩
    have n4 := (Nw.refl (M := nM) n3.gh).allocH (o := .lst ((ws.map fun e : Wd => e.1).map V.str)) hD1
    have hD4 : upd H3 D1 (.lst ((ws.map fun e : Wd => e.1).map V.str)) D1 = some (.lst ((ws.map fun e : Wd => e.1).map V.str)) := upd_same
    generalize upd H3 D1 (.lst ((ws.map fun e : Wd => e.1).map V.str)) = H4 at n4 hD4
    refine ⟨G3, _, D1, ws.map (fun e : Wd => (e.1, x e.1)), rfl, n4.gh, Mono.mono n3.gg r2, by rw [show ((ws.map fun e : Wd => (e.1, x e.1)).map (·.1)) = ws.map fun e : Wd => e.1 by rw [List.map_map]; rfl]; exact hD4, fun H5 n5 => ?_⟩
    have n35 := n4.trans n5
    refine ⟨_, rfl, itF (by simp) ?_⟩
    refine ⟨_, rfl, _, _, .type "tuple", _, true, rfl, .ty "tuple", .base (.tup (n35.gh _ _ hp3)), kit_tt, _, rfl, itF (by simp) ?_⟩
    refine ⟨_, rfl, p3, [va, vb], rfl, .inr (SqT.of (n35.gh _ _ hp3)), rfl, _, rfl, itF (show ¬ (!decide (V.int ((2 : Nat) : Int) = V.int 2)) = true by simp) ?_⟩
    have hpw5 := n35.gh _ _ (m3 _ _ hpw)
    refine ⟨_, rfl, p3, _, _, va, rfl, rfl, SqT.of (n35.gh _ _ hp3), rfl, _, rfl, pw, rfl, ⟨_, SqL.of hpw5⟩, fun D2 hD2 => ?_⟩
    refine lcM (ys := (ws.map fun e : Wd => e.1).map V.str) (walk_list (xs := wvs)) (by simp [lw]) (by omega) (fun l => SqL.of (get_new hpw5 hD2)) (fun i y y' l Ky hy hy' hk => ?_) ?_
    · obtain ⟨e, he, t, ta, tb, rfl, ht, rta, rtb⟩ := paired_get prw hy
      have rta : ta = .str e.1 := rta
      subst rta
      rw [List.getElem?_map, List.getElem?_map, he] at hy'
      obtain rfl := (Option.some.inj hy').symm
      exact ⟨rfl, _, rfl, t, _, _, _, rfl, rfl, SqT.of (get_new (n35.gh _ _ (m3 _ _ ht)) hD2), rfl, hk⟩
    have n6 := n35.allocH (o := .lst ((ws.map fun e : Wd => e.1).map V.str)) hD2
    have hD6 : upd H5 D2 (.lst ((ws.map fun e : Wd => e.1).map V.str)) D2 = some (.lst ((ws.map fun e : Wd => e.1).map V.str)) := upd_same
    generalize upd H5 D2 (.lst ((ws.map fun e : Wd => e.1).map V.str)) = H6 at n6 hD6
    refine ⟨G3, _, D2, ws.map (fun e : Wd => (e.1, uf e.1)), rfl, n6.gh, rva, by rw [show ((ws.map fun e : Wd => (e.1, uf e.1)).map (·.1)) = ws.map fun e : Wd => e.1 by rw [List.map_map]; rfl]; exact hD6, fun H7 n7 => ?_⟩
    have n37 := n6.trans n7
    refine ⟨_, rfl, itF (by simp) ?_⟩
    refine ⟨_, rfl, p3, _, _, vb, rfl, rfl, SqT.of (n37.gh _ _ hp3), rfl, _, rfl, G3, _, rows, rfl, n37.gh, Mono.mono m3 rr, I.R.few, fun l h1 h2 => by have := I.few l h1 h2; omega, fun ys sy my v8 G8 H8 n8' r8 => ?_⟩
    obtain ⟨p8, rfl, hp8⟩ := r8
    have ey : ys = rdb := srt_uniq sy srt fun t => by rw [my, mem]
    subst ey
    have n38 := n37.trans n8'
    have m8 := n8'.gg
    refine ⟨G8, _, p8, ys.map (fun t : Str => (t, vf t)), rfl, n8'.gh, Mono.mono m8 rvb, by rw [show ((ys.map fun t : Str => (t, vf t)).map (·.1)) = ys by rw [List.map_map]; exact List.map_id _]; exact n8'.gh _ _ hp8, fun H9 n9 => ?_⟩
    have n39 := n38.trans n9
    refine ⟨_, rfl, itF (by simp) ?_⟩
    have mG : Same G G8 := m3.trans m8
    have hpl9 := (n23.trans n39).hh _ _ (fun z => z) hpl1
    have v1 := pri_le W pri
    refine ⟨_, rfl, _, rfl, _, rfl, _, rfl, pl, _, _, .int o, rfl, rfl, SqL.of hpl9, rfl, _, rfl, pl, _, _, .int u, rfl, rfl, SqL.of hpl9, rfl, ?_⟩
    refine ⟨G8, _, _, _, ws, rows, x, Vl, o, u, D, rfl, n9.gh, Mono.mono (n3.gg.trans m8) r2, Mono.mono mG rw0, Mono.mono mG rr, I, al, ho, hu, bo, bu, pri, hD, sD, hx, fun S C fr v10 G10 H10 n10 r10 => ?_⟩
    have mH := mG.trans n10.gg
    have hpl10 := n10.hh _ _ (fun z => z) hpl9
    have rne : ys ≠ [] := fun e => by
      obtain ⟨e0, he0⟩ := List.exists_mem_of_ne_nil _ W.ne
      obtain ⟨r, hr1, hr2⟩ := List.mem_map.mp (I.has e0 he0)
      have := (mem r.1).mpr ⟨r, hr1, (I.R.row r hr1).2.1⟩
      rw [e] at this
      cases this
    have rlen : ys.length ≤ 16 := I.few ys srt.nd fun t ht => (mem t).mp ht
    refine ⟨_, rfl, _, rfl, _, rfl, _, rfl, pl, _, _, .int o, rfl, rfl, SqL.of hpl10, rfl, _, rfl, pl, _, _, .int u, rfl, rfl, SqL.of hpl10, rfl, ?_⟩
    refine ⟨G10, p3, va, vb, _, _, ws, rows, ys, uf, vf, Vl, o, u, rfl, n10.gh, n10.gg _ _ (m8 _ _ hp3), Mono.mono (m8.trans n10.gg) rva, Mono.mono (m8.trans n10.gg) rvb, Mono.mono mH rw0, Mono.mono mH rr, I, al, ho, hu, bo, bu, dua, rne, rlen, v1, bU, bV, fun S' C' fr' v11 G11 H11 n11 r11 => ?_⟩
    obtain ⟨q10, rfl, hq10⟩ := id r10
    obtain ⟨q11, rfl, hq11⟩ := id r11
    have q10H := n11.gh _ _ (n11.gg _ _ hq10)
    have q11H := n11.gh _ _ hq11
    refine ⟨_, rfl, rfl, _, rfl, itF (by simp) ?_⟩
    refine ⟨_, rfl, rfl, _, rfl, itF (by simp) ?_⟩
    refine ⟨_, rfl, q10, _, _, .int S, rfl, rfl, SqL.of q10H, rfl, _, rfl, q11, _, _, .int C', rfl, rfl, SqL.of q11H, rfl, _, _, rfl, rfl, frc_x fr fr', ?_⟩
    refine ⟨_, rfl, q11, _, _, .int S', rfl, rfl, SqL.of q11H, rfl, _, rfl, q10, _, _, .int C, rfl, rfl, SqL.of q10H, rfl, _, _, rfl, rfl, frc_x fr' fr, ?_⟩
    have e := frc_eq fr fr'
    refine ⟨rfl, _, rfl, itF (show ¬ (!decide (V.int (S * C') = V.int (S' * C))) = true by rw [e]; simp) ?_⟩
    refine ⟨_, rfl, ?_⟩
    exact k Vl S C val fr _ _ _ (((n1.trans n23).trans n39).trans (n10.trans n11)) (Mono.mono n11.gg r10)
end
end Mk

-- K6
set_option Elab.async false
set_option linter.all false
set_option maxRecDepth 100000
set_option maxHeartbeats 4000000
set_option exponentiation.threshold 20000
namespace Mk
open PySem PySem.Spec PyProof.Rows L2
open C8 (InsC call_isC)
theorem wr_sn (es : List Ent) (e : Ent) (t : Str) : wrOf (es ++ [e]) t = wrOf es t + if e.2.1 = t then e.1 else 0 := by
  have e0 : ∀ l, wrOf l t = wIf (fun a _ => decide (a = t)) l := fun _ => rfl
  rw [e0, e0, wIf_append, wIf_cons, wIf_nil, Int.add_zero]
  by_cases h : e.2.1 = t
  · rw [if_pos (decide_eq_true h), if_pos h]
  · rw [if_neg (by simpa using h), if_neg h]
theorem wr_none {es : List Ent} {t : Str} (h : ¬ ∃ e ∈ es, e.2.1 = t) : wrOf es t = 0 := by
  unfold wrOf
  rw [List.filter_eq_nil_iff.mpr fun e he z => h ⟨e, he, of_decide_eq_true z⟩]
  rfl
theorem fn_sn (rows : List Row) (es : List Ent) (e : Ent) : fndOf rows (es ++ [e]) = fndOf rows es + if (ofR rows e.2.1).all (fun t => decide (t ∈ e.2.2)) = true then e.1 else 0 := by
  unfold fndOf
  rw [wIf_append, wIf_cons, wIf_nil, Int.add_zero]
theorem wr_le {es : List Ent} (h : ∀ e ∈ es, 1 ≤ e.1) (t : Str) : 0 ≤ wrOf es t ∧ wrOf es t ≤ wholeOf es := wIf_nn (p := fun a _ => decide (a = t)) h
section
variable {P : Program} {w : World} {K : PySem.W.Frag} {mg : Str → Option Value} {base : Heap}
def spCnt (K : PySem.W.Frag) : Sp := fun vs H Q _ => ∃ (G : Hp) (v wv rwv : V) (ws : List Wd) (rows : List Row) (es : List Ent) (o u : Int), vs = [v, wv, rwv, .int o, .int u] ∧ Same G H ∧ rMk K G v es ∧ rWds G wv ws ∧ rRows G rwv rows ∧ Wds ws ∧ Rows rows ∧ Mok es ∧
  ws.length ≤ 8 ∧ 1 ≤ es.length ∧ es.length ≤ 2 * ws.length ∧ (∀ e ∈ es, ∃ d ∈ ws, d.1 = e.2.1) ∧ (∀ e ∈ ws, e.1 ∈ rows.map (·.1)) ∧ o.natAbs < 2 ^ 140 ∧ u.natAbs < 2 ^ 140 ∧
  (∀ e ∈ ws, wrOf es e.1 * total ws = e.2 * wholeOf es) ∧ (∀ t, accOf es t * u ≤ o * wholeOf es) ∧ Ret nM G H (rLf V.int) [fndOf rows es, wholeOf es] Q
theorem sc__law_counts : FnScope ["_law_marking", "_law_words_here", "_law_rows_here", "_law_over", "_law_under_here", "_law_entries", "_law_written", "_law_sums", "_law_found", "_law_total", "_law_entry", "_law_weight_here", "_law_text_here", "_law_accused", "_law_readable", "_law_other", "_law_whole", "_law_row", "_law_word"] ["_law_marking", "_law_words_here", "_law_rows_here", "_law_over", "_law_under_here"] (defScope s__law_counts) := ⟨rfl, rfl, rfl, by decide +kernel, rfl, by decide +kernel, by decide +kernel⟩
theorem ok__law_counts (T : Tx K mg) : Ok P w K mg base 2 (He.ga K "_law_counts") ["_law_marking", "_law_words_here", "_law_rows_here", "_law_over", "_law_under_here"] (spCnt K) := by
  refine ok_mk (f__law_counts T) (df_kp (f__law_counts T)) sc__law_counts (fun _ _ _ _ _ _ us hl => match us, hl with | [_, _, _, _, _], _ => rfl) (fun vs H Q E h => ?_) (fun cdv A outer s H vs Q E hr h => ?_)
  · obtain ⟨G, v, wv, rwv, ws, rows, es, o, u, rfl, _⟩ := h
    rfl
  · obtain ⟨G, v, wv, rwv, ws, rows, es, o, u, rfl, sm, rm, rw0, rr, W, R, M, n8, ne1, ne2, hin, hws, bo, bu, hwr, hac, k⟩ := h
    refine ⟨_, (pss_cons (ps_set (i := 5) sc__law_counts.nd rfl (Or.inl rfl) (pe_f (c_Marking T) (n_Marking_entries T) (pv 0)))
      (pss_cons (ps_if (PW.pt (pw_or (pt_not (pt_val (pe_callB call_isi (by rfl) (b_isinstance T) (by decide +kernel) (pa_cons (pv 5) (pa_cons (pe_bltn (v := .ty "tuple") (by rfl) (b_tuple T) (by decide +kernel) rfl) pa_nil))))) (pw_or (pt_cmpR op_lt (pe_callB call_len_seq (by rfl) (b_len T) (by decide +kernel) (pa_cons (pv 5) pa_nil)) pe_int (nomark _)) (pw_or1 (pt_cmpR op_gt (pe_callB call_len_seq (by rfl) (b_len T) (by decide +kernel) (pa_cons (pv 5) pa_nil)) (pe_op op_mulX pe_int (pe_callB call_len_seq (by rfl) (b_len T) (by decide +kernel) (pa_cons (pv 1) pa_nil))) (nomark _))))))
        (pss_one (ps_ret pe_non))
        pss_nil)
      (pss_cons (ps_set (i := 6) sc__law_counts.nd rfl (Or.inl rfl) pe_dnewK)
      (pss_cons (ps_set (i := 7) sc__law_counts.nd rfl (Or.inl rfl) pe_dnewK)
      (pss_cons (ps_set (i := 8) sc__law_counts.nd rfl (Or.inl rfl) pe_int)
      (pss_cons (ps_set (i := 9) sc__law_counts.nd rfl (Or.inl rfl) pe_int)
      (pss_cons (ps_for PassesOwn.never rfl (pi_tup (pv 5)) (pg_name (i := 10) sc__law_counts.nd rfl (Or.inl rfl))
      (pss_cons (ps_if (PW.pt (pw_or (pt_not (pt_val (pe_callB call_isi (by rfl) (b_isinstance T) (by decide +kernel) (pa_cons (pv 10) (pa_cons (pe_bltn (v := .ty "tuple") (by rfl) (b_tuple T) (by decide +kernel) rfl) pa_nil))))) (pw_or (pt_cmpR op_ne (pe_callB call_len_seq (by rfl) (b_len T) (by decide +kernel) (pa_cons (pv 10) pa_nil)) pe_int (nomark _)) (pw_or (pt_not (pt_val (pe_c (ok__law_integer T) (hr.mono (by decide)) rfl (g__law_integer T) (pa_cons (pe_ix ix_tup (pv 10) pe_int (fun _ _ => rfl)) pa_nil)))) (pw_or1 (pt_cmpR op_lt (pe_ix ix_tup (pv 10) pe_int (fun _ _ => rfl)) pe_int (nomark _)))))))
        (pss_one (ps_ret pe_non))
        pss_nil)
      (pss_cons (ps_asg (pv 10) (pg_tup rfl (pgs_cons (pg_name (i := 11) sc__law_counts.nd rfl (Or.inl rfl)) (pgs_cons (pg_name (i := 12) sc__law_counts.nd rfl (Or.inr rfl)) (pgs_cons (pg_name (i := 13) sc__law_counts.nd rfl (Or.inr rfl)) pgs_nil)))))
      (pss_cons (ps_setLc (i := 14) (own := [("_law_row", 17)]) (g := (gName 17)) rfl sc__law_counts.nd rfl rfl (sw_true rfl rfl rfl (by decide +kernel)) (pi_list (pv 2)) (blkOk_by (N := ["_law_marking", "_law_words_here", "_law_rows_here", "_law_over", "_law_under_here", "_law_entries", "_law_written", "_law_sums", "_law_found", "_law_total", "_law_entry", "_law_weight_here", "_law_text_here", "_law_accused", "_law_readable", "_law_other", "_law_whole", "_law_row", "_law_word"]) (sc := defScope s__law_counts) (by decide +kernel)) (fun _ _ _ _ _ => (pg_name (i := 17) sc__law_counts.nd rfl (Or.inl rfl))) (fun _ _ _ _ _ => (pts_one (pt_cmpR op_eq (pe_ix (show IxR _ (rIxT K) from ix_tup) (pv 17) pe_int (fun _ _ => rfl)) (pv 12) (nomark _)))) (fun _ _ _ _ _ => (pe_ix (show IxR _ (rIxT K) from ix_tup) (pv 17) pe_int (fun _ _ => rfl))))
      (pss_cons (ps_if (PW.pt (pw_or (pt_not (pt_val (pe_callB call_isi (by rfl) (b_isinstance T) (by decide +kernel) (pa_cons (pv 13) (pa_cons (pe_bltn (v := .ty "tuple") (by rfl) (b_tuple T) (by decide +kernel) rfl) pa_nil))))) (pw_or (pt_not (pt_truth (pv 14) (by intro _; rfl))) (pw_or1 (pt_cmpR op_notIn_seq (pv 12) (pe_lc (own := [("_law_word", 18)]) (g := (gName 18)) (tt := tYes) rfl sc__law_counts.nd (pi_list (pv 1)) (blkOk_by (N := ["_law_marking", "_law_words_here", "_law_rows_here", "_law_over", "_law_under_here", "_law_entries", "_law_written", "_law_sums", "_law_found", "_law_total", "_law_entry", "_law_weight_here", "_law_text_here", "_law_accused", "_law_readable", "_law_other", "_law_whole", "_law_row", "_law_word"]) (sc := defScope s__law_counts) (by decide +kernel)) (fun _ _ _ _ _ => (pg_name (i := 18) sc__law_counts.nd rfl (Or.inl rfl))) (fun _ _ _ _ _ => pts_nil) (fun _ _ _ _ _ => (pe_ix (show IxR _ (rIxT K) from ix_tup) (pv 18) pe_int (fun _ _ => rfl)))) (by rfl))))))
        (pss_one (ps_ret pe_non))
        pss_nil)
      (pss_cons (ps_set (i := 9) sc__law_counts.nd rfl (Or.inl rfl) (pe_op op_add (pv 9) (pv 11)))
      (pss_cons (ps_dput (hu_of hr) (pv 6) (pv 12) (pe_op op_add (pe_dget2 (hu_of hr) (pv 6) (pv 12) pe_int ⟨by rfl, by rfl, by rfl, by rfl⟩) (pv 11)) rfl)
      (pss_cons (ps_for PassesOwn.never rfl (pi_tup (pv 13)) (pg_name (i := 15) sc__law_counts.nd rfl (Or.inl rfl))
      (pss_one (ps_dput (hu_of hr) (pv 7) (pv 15) (pe_op op_add (pe_dget2 (hu_of hr) (pv 7) (pv 15) pe_int ⟨by rfl, by rfl, by rfl, by rfl⟩) (pv 11)) rfl)))
      (pss_one (ps_if (pt_cmpR op_eq (pe_callB call_len_seq (by rfl) (b_len T) (by decide +kernel) (pa_cons (pe_lc (own := [("_law_other", 15)]) (g := (gName 15)) rfl sc__law_counts.nd (pi_list (pe_ix ix_list (pv 14) pe_int (fun _ _ => rfl))) (blkOk_by (N := ["_law_marking", "_law_words_here", "_law_rows_here", "_law_over", "_law_under_here", "_law_entries", "_law_written", "_law_sums", "_law_found", "_law_total", "_law_entry", "_law_weight_here", "_law_text_here", "_law_accused", "_law_readable", "_law_other", "_law_whole", "_law_row", "_law_word"]) (sc := defScope s__law_counts) (by decide +kernel)) (fun _ _ _ _ _ => (pg_name (i := 15) sc__law_counts.nd rfl (Or.inl rfl))) (fun _ _ _ _ _ => (pts_one (pt_cmpR (show OpR _ _ (rIn K true) from op_notIn_seq) (pv 15) (pv 13) (by rfl)))) (fun _ _ _ _ _ => (pv 15))) pa_nil)) pe_int (nomark _))
        (pss_one (ps_set (i := 8) sc__law_counts.nd rfl (Or.inl rfl) (pe_op op_add (pv 8) (pv 11))))
        pss_nil))))))))))
      (pss_cons (ps_set (i := 16) sc__law_counts.nd rfl (Or.inl rfl) (pe_callB (cr_sum rfl) (by rfl) (b_sum T) (by decide +kernel) (pa_cons (pe_lc (own := [("_law_word", 18)]) (g := (gName 18)) (tt := tYes) rfl sc__law_counts.nd (pi_list (pv 1)) (blkOk_by (N := ["_law_marking", "_law_words_here", "_law_rows_here", "_law_over", "_law_under_here", "_law_entries", "_law_written", "_law_sums", "_law_found", "_law_total", "_law_entry", "_law_weight_here", "_law_text_here", "_law_accused", "_law_readable", "_law_other", "_law_whole", "_law_row", "_law_word"]) (sc := defScope s__law_counts) (by decide +kernel)) (fun _ _ _ _ _ => (pg_name (i := 18) sc__law_counts.nd rfl (Or.inl rfl))) (fun _ _ _ _ _ => pts_nil) (fun _ _ _ _ _ => (pe_ix (show IxR _ (rIxT K) from ix_tup) (pv 18) pe_int (fun _ _ => rfl)))) pa_nil)))
      (pss_cons (ps_for PassesOwn.never rfl (pi_list (pv 1)) (pg_tup rfl (pgs_cons (pg_name (i := 12) sc__law_counts.nd rfl (Or.inr rfl)) (pgs_cons (pg_name (i := 11) sc__law_counts.nd rfl (Or.inl rfl)) pgs_nil)))
      (pss_one (ps_if (pt_cmpR op_ne (pe_op op_mulX (pe_dget2 (hu_of hr) (pv 6) (pv 12) pe_int ⟨by rfl, by rfl, by rfl, by rfl⟩) (pv 16)) (pe_op op_mulX (pv 11) (pv 9)) (nomark _))
        (pss_one (ps_ret pe_non))
        pss_nil)))
      (pss_cons (ps_for PassesOwn.never rfl (pi_list (pe_callTy (call_list_dK rfl) (by rfl) (b_list T) (by decide +kernel) (pa_cons (pv 7) pa_nil))) (pg_name (i := 15) sc__law_counts.nd rfl (Or.inl rfl))
      (pss_one (ps_if (pt_cmpR op_gt (pe_op op_mulX (pe_dget (hu_of hr) (pv 7) (pv 15) (fun _ _ => rfl)) (pv 4)) (pe_op op_mulX (pv 3) (pv 9)) (nomark _))
        (pss_one (ps_ret pe_non))
        pss_nil)))
      (pss_one (ps_ret (pe_lst (pa_cons (pv 8) (pa_cons (pv 9) pa_nil))))))))))))))), ?_⟩
    obtain ⟨a, dx, p, vs, rfl, ha, hp, pr⟩ := id rm
    obtain ⟨pw, wvs, rfl, hpw, prw⟩ := id rw0
    obtain ⟨pR, Rvs, rfl, hpR, prR⟩ := id rr
    have lv := paired_len pr
    have lw := paired_len prw
    have lR := paired_len prR
    have haH := sm _ _ ha
    have hpH := sm _ _ hp
    have hpwH := sm _ _ hpw
    refine ⟨_, rfl, a, dx, _, _, rfl, haH, rfl, ?_⟩
    refine ⟨_, rfl, _, _, .type "tuple", _, true, rfl, .ty "tuple", .base (.tup hpH), kit_tt, _, rfl, itF (by simp) ?_⟩
    refine ⟨_, rfl, p, _, rfl, .inr (SqT.of hpH), _, _, rfl, rfl, _, rfl, itF (by rw [lv]; simp; omega) ?_⟩
    refine ⟨_, rfl, p, _, rfl, .inr (SqT.of hpH), _, rfl, pw, _, rfl, .inl (SqL.of hpwH), _, _, rfl, rfl, mulx_ok (a := 2) (b := 20) (by decide) (by rw [lw]; omega) (by decide), _, _, rfl, rfl, _, rfl, itF (by rw [lv, lw]; simp; omega) ?_⟩
    intro d1 hd1 d2 hd2
    have ne12 : d1 ≠ d2 := fun e => by rw [← e, upd_same] at hd2; cases hd2
    have hd20 : H d2 = none := by rw [upd_ne fun e => ne12 e.symm] at hd2; exact hd2
    have g1 := sm.free hd1
    have g2 := sm.free hd20
    have n0 := ((Nw.refl (M := nM) sm).allocH (o := .dK []) hd1).allocH (o := .dK []) hd2
    have hp0 := n0.gh _ _ hp
    refine ⟨_, rfl, p, rfl, ⟨vs, SqT.of hp0⟩, ?_⟩
    refine for_it (walk_tup (xs := vs)) (fun i σ H' => ∃ (z10 z11 z12 z13 z14 z15 : Option V) (k1 k2 : List Str), σ = [some (.ref a), some (.ref pw), some (.ref pR), some (.int o), some (.int u), some (.ref p), some (.ref d1), some (.ref d2), some (.int (fndOf rows (es.take i))), some (.int (wholeOf (es.take i))), z10, z11, z12, z13, z14, z15, none, none, none] ∧ Nw nM G H G H' ∧
        H' d1 = some (.dK (tabK k1 (wrOf (es.take i)))) ∧ k1.Nodup ∧ (∀ t, t ∈ k1 ↔ ∃ e ∈ es.take i, e.2.1 = t) ∧ H' d2 = some (.dK (tabK k2 (accOf (es.take i)))) ∧ k2.Nodup ∧ ∀ t, t ∈ k2 ↔ ∃ e ∈ es.take i, t ∈ e.2.2)
      ⟨none, none, none, none, none, none, [], [], rfl, n0, by rw [upd_ne ne12]; exact upd_same, List.nodup_nil, fun t => ⟨fun h => (by cases h), fun ⟨e, h, _⟩ => (by simp at h)⟩, upd_same, List.nodup_nil, fun t => ⟨fun h => (by cases h), fun ⟨e, h, _⟩ => (by simp at h)⟩⟩ (fun i σ H' _ h => by obtain ⟨z10, z11, z12, z13, z14, z15, k1, k2, rfl, n, _⟩ := h; exact SqT.of (n.gh _ _ hp)) ?_ ?_
    · rintro i y σ H1 H2 hi ⟨z10, z11, z12, z13, z14, z15, k1, k2, rfl, n1, hd11, nd1, mem1, hd12, nd2, mem2⟩ ⟨rfl, hv⟩
      obtain ⟨e, hei, t0, ta, tb, tc, rfl, ht0, rta, rtb, pa, rfl, hpa⟩ := paired_get pr hv
      have rta : ta = .int e.1 := rta
      have rtb : tb = .str e.2.1 := rtb
      subst rta rtb
      have tk : es.take (i + 1) = es.take i ++ [e] := by rw [List.take_add_one, hei]; rfl
      have hem := List.mem_of_getElem? hei
      have ht1 := n1.gh _ _ ht0
      have hpa1 := n1.gh _ _ hpa
      have ep := M.E.pos e hem
      obtain ⟨dd, hdd, hde⟩ := hin e hem
      refine ⟨_, rfl, _, _, .type "tuple", _, true, rfl, .ty "tuple", .base (.tup ht1), kit_tt, _, rfl, itF (by simp) ?_⟩
      refine ⟨_, rfl, t0, [.int e.1, .str e.2.1, .ref pa], rfl, .inr (SqT.of ht1), rfl, _, rfl, itF (show ¬ (!decide (V.int ((3 : Nat) : Int) = V.int 3)) = true by simp) ?_⟩
      refine ⟨_, rfl, t0, _, _, .int e.1, rfl, rfl, SqT.of ht1, rfl, e.1, rfl, _, rfl, itF (by simp) ?_⟩
      refine ⟨_, rfl, t0, _, _, .int e.1, rfl, rfl, SqT.of ht1, rfl, _, _, rfl, rfl, _, rfl, itF (by simp; omega) ?_⟩
      refine ⟨_, rfl, t0, _, rfl, SqT.of ht1, rfl, _, _, rfl, _, _, rfl, _, _, rfl, rfl, ?_⟩
      have hpR1 := n1.gh _ _ hpR
      have hpw1 := n1.gh _ _ hpw
      obtain ⟨rw1, hrm, hre⟩ := List.mem_map.mp (hws dd hdd)
      obtain ⟨j0, hj0⟩ := List.getElem?_of_mem hrm
      have hre : rw1.1 = e.2.1 := by rw [hre, hde]
      have hof : ofR rows e.2.1 = rw1.2 := by rw [← hre]; exact ofR_eq R.nd hrm
      obtain ⟨rv1, hrv1, t1, tx1, ty1, rfl, ht1', rtx1, pb, rfl, hpb⟩ := paired_get' prR hj0
      have rtx1 : tx1 = .str rw1.1 := rtx1
      subst rtx1
      have hpb : G pb = some (.lst (rw1.2.map V.str)) := hpb
      refine ⟨_, rfl, pR, rfl, ⟨_, SqL.of hpR1⟩, fun D hD => ?_⟩
      refine lcA (walk_list (xs := Rvs)) (fun j => if j0 < j then [.ref pb] else []) (if_neg (by omega)) (by have := R.few; omega) (fun j hj => by by_cases c : j0 < j; (rw [if_pos c]; simp; omega); (rw [if_neg c]; simp)) (fun l => SqL.of (get_new hpR1 hD)) (fun j x H' Ky Kn hj y k1' k2' => ?_) ?_
      · obtain ⟨rfl, hx⟩ := y
        obtain ⟨r2, hr2, t2, tx2, ty2, rfl, ht2, rtx2, pc, rfl, hpc⟩ := paired_get prR hx
        have rtx2 : tx2 = .str r2.1 := rtx2
        subst rtx2
        have ht2n := get_new (o := .lst (if j0 < j then [V.ref pb] else [])) (n1.gh _ _ ht2) hD
        refine ⟨rfl, _, rfl, t2, _, _, .str r2.1, rfl, rfl, SqT.of ht2n, rfl, _, rfl, rfl, _, rfl, ite2 (fun c => ?_) fun c => ?_⟩
        · have c : r2.1 = e.2.1 := by
            have c := of_decide_eq_true c
            injection c
          have ej : j = j0 := by
            refine (List.getElem?_inj (l := rows.map (·.1)) (by rw [List.length_map, ← lR]; exact hj) R.nd).mp ?_
            rw [List.getElem?_map, List.getElem?_map, hr2, hj0]
            show some r2.1 = some rw1.1
            rw [c, hre]
          subst ej
          have e2 : V.ref t2 = V.ref t1 := Option.some.inj (hx.symm.trans hrv1)
          injection e2 with e2
          subst e2
          have e3 := Option.some.inj (ht2.symm.trans ht1')
          have e4 : pc = pb := by
            injection e3 with e3
            injection e3 with _ e3
            injection e3 with e3 _
            injection e3
          subst e4
          refine ⟨_, rfl, t2, _, _, _, rfl, rfl, SqT.of ht2n, rfl, k1' _ ?_⟩
          rw [if_pos (by omega), if_neg (by omega)]
          rfl
        · have c : ¬ j = j0 := fun ej => by
            subst ej
            have : r2 = rw1 := Option.some.inj (hr2.symm.trans hj0)
            subst this
            exact c (by rw [hre]; simp)
          refine k2' ?_
          by_cases q : j0 < j
          · rw [if_pos q, if_pos (by omega)]
          · rw [if_neg q, if_neg (by omega)]
      · have hj0l : j0 < Rvs.length := (List.getElem?_eq_some_iff.mp hrv1).1
        rw [if_pos hj0l]
        have n2 := n1.allocH (o := .lst [.ref pb]) hD
        have hD2 : upd H2 D (.lst [.ref pb]) D = some (.lst [.ref pb]) := upd_same
        have hd21 := get_new (o := .lst [V.ref pb]) hd11 hD
        have hd22 := get_new (o := .lst [V.ref pb]) hd12 hD
        have hpa2 := n2.gh _ _ hpa
        have hpw2 := n2.gh _ _ hpw
        have hpb2 := n2.gh _ _ hpb
        generalize upd H2 D (.lst [.ref pb]) = H3 at n2 hD2 hd21 hd22 hpa2 hpw2 hpb2
        refine ⟨_, rfl, _, _, .type "tuple", _, true, rfl, .ty "tuple", .base (.tup hpa2), kit_tt, _, rfl, itF (by simp) ?_⟩
        refine ⟨_, rfl, true, .inl ⟨_, SqL.of hD2, rfl⟩, itF (by simp) ?_⟩
        refine ⟨_, rfl, _, rfl, pw, rfl, ⟨_, SqL.of hpw2⟩, fun D3 hD3 => ?_⟩
        refine lcM (ys := (ws.map fun e : Wd => e.1).map V.str) (walk_list (xs := wvs)) (by simp [lw]) (by omega) (fun l => SqL.of (get_new hpw2 hD3)) (fun i y y' l Ky hy hy' hk => ?_) ?_
        · obtain ⟨e, he, t, ta, tb, rfl, ht, rta, rtb⟩ := paired_get prw hy
          have rta : ta = .str e.1 := rta
          subst rta
          rw [List.getElem?_map, List.getElem?_map, he] at hy'
          obtain rfl := (Option.some.inj hy').symm
          exact ⟨rfl, _, rfl, t, _, _, _, rfl, rfl, SqT.of (get_new (n2.gh _ _ ht) hD3), rfl, hk⟩
        have n3 := n2.allocH (o := .lst ((ws.map fun e : Wd => e.1).map V.str)) hD3
        have hD33 : upd H3 D3 (.lst ((ws.map fun e : Wd => e.1).map V.str)) D3 = some (.lst ((ws.map fun e : Wd => e.1).map V.str)) := upd_same
        have hd31 := get_new (o := .lst ((ws.map fun e : Wd => e.1).map V.str)) hd21 hD3
        have hd32 := get_new (o := .lst ((ws.map fun e : Wd => e.1).map V.str)) hd22 hD3
        have hDD3 := get_new (o := .lst ((ws.map fun e : Wd => e.1).map V.str)) hD2 hD3
        generalize upd H3 D3 (.lst ((ws.map fun e : Wd => e.1).map V.str)) = H4 at n3 hD33 hd31 hd32 hDD3
        have hmt : e.2.1 ∈ ws.map fun e : Wd => e.1 := List.mem_map.mpr ⟨dd, hdd, hde⟩
        refine ⟨D3, _, rfl, .inl (SqL.of hD33), rfl, flat_strs _, ?_⟩
        rw [inV_str, decide_eq_true hmt]
        refine ⟨_, rfl, itF (by simp) ?_⟩
        refine ⟨_, rfl, _, rfl, _, _, rfl, rfl, ?_⟩
        have hl1 : k1.length ≤ 60 := by
          have := nodup_le nd1 (m := (es.take i).map fun e => e.2.1) fun t ht => by
            obtain ⟨e', h1, h2⟩ := (mem1 t).mp ht
            exact List.mem_map.mpr ⟨e', h1, h2⟩
          rw [List.length_map, List.length_take] at this
          have := M.E.few
          omega
        have gv : (valV (tabK k1 (wrOf (es.take i))) (.inr e.2.1)).getD (.int 0) = .int (wrOf (es.take i) e.2.1) := by
          rw [tab_val]
          by_cases h : e.2.1 ∈ k1
          · rw [if_pos h]
            rfl
          · rw [if_neg h]
            show V.int 0 = _
            rw [wr_none fun z => h ((mem1 _).mpr z)]
        refine ⟨_, rfl, d1, rfl, .inl ⟨_, Rd.of hd31⟩, _, rfl, _, DGet.k (k := .inr e.2.1) hd31, ?_⟩
        rw [gv]
        refine ⟨_, rfl, _, _, rfl, rfl, _, rfl, _, rfl, d1, _, rfl, DPut.k (k := .inr e.2.1) hd31 (by rw [tab_len, sizeLine_eq]; omega), ?_⟩
        rw [tab_put]
        have n4 := n3.putH (o := .dK (tabK (if e.2.1 ∈ k1 then k1 else k1 ++ [e.2.1]) fun u => if u = e.2.1 then wrOf (es.take i) e.2.1 + e.1 else wrOf (es.take i) u)) hd1 g1
        have ef1 : (fun u => if u = e.2.1 then wrOf (es.take i) e.2.1 + e.1 else wrOf (es.take i) u) = wrOf (es.take (i + 1)) := by
          funext t
          rw [tk, wr_sn]
          by_cases q : t = e.2.1
          · rw [if_pos q, q, if_pos rfl]
          · rw [if_neg q, if_neg fun z => q z.symm, Int.add_zero]
        rw [ef1] at n4 ⊢
        have kn1 : (if e.2.1 ∈ k1 then k1 else k1 ++ [e.2.1]).Nodup := put_nd _ nd1
        have km1 : ∀ t, t ∈ (if e.2.1 ∈ k1 then k1 else k1 ++ [e.2.1]) ↔ ∃ e' ∈ es.take (i + 1), e'.2.1 = t := fun t => by
          rw [put_mem, mem1, tk]
          constructor
          · rintro (h | h)
            · exact ⟨e, List.mem_append_right _ (List.mem_singleton.mpr rfl), h.symm⟩
            · obtain ⟨e', h1, h2⟩ := h
              exact ⟨e', List.mem_append_left _ h1, h2⟩
          · rintro ⟨e', h1, h2⟩
            rcases List.mem_append.mp h1 with h | h
            · exact .inr ⟨e', h, h2⟩
            · rw [List.mem_singleton.mp h] at h2
              exact .inl h2.symm
        generalize (if e.2.1 ∈ k1 then k1 else k1 ++ [e.2.1]) = k3 at n4 kn1 km1 ⊢
        have hd41 : upd H4 d1 (.dK (tabK k3 (wrOf (es.take (i + 1))))) d1 = some (.dK (tabK k3 (wrOf (es.take (i + 1))))) := upd_same
        have hd42 : upd H4 d1 (.dK (tabK k3 (wrOf (es.take (i + 1))))) d2 = some (.dK (tabK k2 (accOf (es.take i)))) := by rw [upd_ne fun e => ne12 e.symm]; exact hd32
        have neD : D ≠ d1 := fun e => by rw [e, hd11] at hD; cases hD
        have hDD4 : upd H4 d1 (.dK (tabK k3 (wrOf (es.take (i + 1))))) D = some (.lst [.ref pb]) := by rw [upd_ne neD]; exact hDD3
        generalize upd H4 d1 (.dK (tabK k3 (wrOf (es.take (i + 1))))) = H5 at n4 hd41 hd42 hDD4
        have hD1 : H D = none := n1.free hD
        have ne1D : d2 ≠ D := fun e => by rw [← e, hd12] at hD; cases hD
        refine ⟨_, rfl, pa, rfl, ⟨_, SqT.of (n4.gh _ _ hpa)⟩, ?_⟩
        refine for_it (walk_tup (xs := e.2.2.map V.str)) (fun j σ H' => ∃ (z15 : Option V) (ks : List Str) (f : Str → Int), σ = [some (.ref a), some (.ref pw), some (.ref pR), some (.int o), some (.int u), some (.ref p), some (.ref d1), some (.ref d2), some (.int (fndOf rows (es.take i))), some (.int (wholeOf (es.take i) + e.1)), some (.ref t0), some (.int e.1), some (.str e.2.1), some (.ref pa), some (.ref D), z15, none, none, none] ∧ Nw nM G H G H' ∧
            H' d1 = some (.dK (tabK k3 (wrOf (es.take (i + 1))))) ∧ H' D = some (.lst [.ref pb]) ∧ H' d2 = some (.dK (tabK ks f)) ∧ ks.Nodup ∧ (∀ t, t ∈ ks ↔ (∃ e ∈ es.take i, t ∈ e.2.2) ∨ t ∈ e.2.2.take j) ∧ ∀ t, f t = accOf (es.take i) t + if t ∈ e.2.2.take j then e.1 else 0)
          ⟨z15, k2, accOf (es.take i), rfl, n4, hd41, hDD4, hd42, nd2, fun t => by rw [mem2]; simp, fun t => by simp⟩ (fun j σ H' _ h => by obtain ⟨z15, ks, f, rfl, n, _⟩ := h; exact SqT.of (n.gh _ _ hpa)) ?_ ?_
        · rintro j y σ H6 H7 hj ⟨z15', ks2, f, rfl, n5, hd51, hDD5, hd52, nd52, mem52, hf⟩ ⟨rfl, hy⟩
          have hj' : j < e.2.2.length := by simpa using hj
          have hrj : e.2.2[j]? = some e.2.2[j] := List.getElem?_eq_getElem hj'
          rw [List.getElem?_map, hrj] at hy
          have hy := (Option.some.inj hy).symm
          have hy : y = .str e.2.2[j] := hy
          subst hy
          have ndj : e.2.2[j] ∉ e.2.2.take j := fun hm => by
            have nd3 := (M.E.acc e hem).1.nd
            rw [← List.take_append_drop (j + 1) e.2.2, List.take_add_one, hrj] at nd3
            exact (List.nodup_append.mp (List.nodup_append.mp nd3).1).2.2 _ hm _ (List.mem_singleton.mpr rfl) rfl
          have hl : ks2.length ≤ 60 := M.few ks2 nd52 fun t ht => by
            rcases (mem52 t).mp ht with ⟨e', h1, h2⟩ | h
            · exact ⟨e', List.mem_of_mem_take h1, h2⟩
            · exact ⟨e, hem, List.mem_of_mem_take h⟩
          have gv2 : (valV (tabK ks2 f) (.inr e.2.2[j])).getD (.int 0) = .int (accOf (es.take i) e.2.2[j]) := by
            rw [tab_val]
            by_cases h : e.2.2[j] ∈ ks2
            · rw [if_pos h]
              show V.int (f e.2.2[j]) = _
              rw [hf, if_neg ndj, Int.add_zero]
            · rw [if_neg h]
              show V.int 0 = _
              rw [acc_none fun z => h ((mem52 _).mpr (.inl z))]
          refine ⟨_, rfl, d2, rfl, .inl ⟨_, Rd.of hd52⟩, _, rfl, _, DGet.k (k := .inr e.2.2[j]) hd52, ?_⟩
          rw [gv2]
          refine ⟨_, rfl, _, _, rfl, rfl, _, rfl, _, rfl, d2, _, rfl, DPut.k (k := .inr e.2.2[j]) hd52 (by rw [tab_len, sizeLine_eq]; omega), ?_⟩
          refine ⟨some (.str e.2.2[j]), (if e.2.2[j] ∈ ks2 then ks2 else ks2 ++ [e.2.2[j]]), (fun u => if u = e.2.2[j] then accOf (es.take i) e.2.2[j] + e.1 else f u), rfl, n5.putH hd20 g2, by rw [upd_ne ne12]; exact hd51, by rw [upd_ne fun e => ne1D e.symm]; exact hDD5, ?_, put_nd _ nd52, fun t => ?_, fun t => ?_⟩
          · rw [upd_same, tab_put]
          · rw [put_mem, mem52, List.take_add_one, hrj, List.mem_append]
            simp
            constructor
            · rintro (h | h | h)
              · exact .inr (.inr h)
              · exact .inl h
              · exact .inr (.inl h)
            · rintro (h | h | h)
              · exact .inr (.inl h)
              · exact .inr (.inr h)
              · exact .inl h
          · dsimp only
            have tj : e.2.2.take (j + 1) = e.2.2.take j ++ [e.2.2[j]] := by rw [List.take_add_one, hrj]; rfl
            rw [tj]
            by_cases h : t = e.2.2[j]
            · subst h
              rw [if_pos rfl, if_pos (List.mem_append_right _ (List.mem_singleton.mpr rfl))]
            · rw [if_neg h, hf]
              congr 1
              by_cases q : t ∈ e.2.2.take j
              · rw [if_pos q, if_pos (List.mem_append_left _ q)]
              · rw [if_neg q, if_neg fun z => (List.mem_append.mp z).elim q fun z => h (List.mem_singleton.mp z)]
        · rintro σ H6 ⟨z15', ks2, f, rfl, n5, hd51, hDD5, hd52, nd52, mem52, hf⟩
          have ef : f = accOf (es.take (i + 1)) := by
            funext t
            rw [hf, tk, acc_snoc, List.length_map, List.take_length]
          rw [ef] at hd52
          have km2 : ∀ t, t ∈ ks2 ↔ ∃ e' ∈ es.take (i + 1), t ∈ e'.2.2 := fun t => by
            rw [mem52, tk, List.length_map, List.take_length]
            constructor
            · rintro (⟨e', h1, h2⟩ | h)
              · exact ⟨e', List.mem_append_left _ h1, h2⟩
              · exact ⟨e, List.mem_append_right _ (List.mem_singleton.mpr rfl), h⟩
            · rintro ⟨e', h1, h2⟩
              rcases List.mem_append.mp h1 with h | h
              · exact .inl ⟨e', h, h2⟩
              · rw [List.mem_singleton.mp h] at h2
                exact .inr h2
          have hpb5 := n5.gh _ _ hpb
          have hpa5 := n5.gh _ _ hpa
          refine ⟨_, rfl, D, _, _, .ref pb, rfl, rfl, SqL.of hDD5, rfl, pb, rfl, ⟨_, SqL.of hpb5⟩, fun D4 hD4 => ?_⟩
          refine lcA (walk_list (xs := rw1.2.map V.str)) (fun j => ((rw1.2.take j).filter fun t => decide (t ∉ e.2.2)).map V.str) rfl (by have := (R.row rw1 hrm).2.2; rw [List.length_map]; omega) (fun j hj => by
            rw [List.length_map]
            exact Nat.le_trans (List.length_filter_le _ _) (List.length_take_le _ _)) (fun l => SqL.of (get_new hpb5 hD4)) (fun j x H' Ky Kn hj y k1' k2' => ?_) ?_
          · obtain ⟨rfl, hx⟩ := y
            have hj' : j < rw1.2.length := by simpa using hj
            have hrj : rw1.2[j]? = some rw1.2[j] := List.getElem?_eq_getElem hj'
            rw [List.getElem?_map, hrj] at hx
            have hx := (Option.some.inj hx).symm
            have hx : x = .str rw1.2[j] := hx
            subst hx
            have tj : rw1.2.take (j + 1) = rw1.2.take j ++ [rw1.2[j]] := by rw [List.take_add_one, hrj]; rfl
            rw [tj, List.filter_append] at k1' k2'
            generalize rw1.2[j] = tx at k1' k2'
            refine ⟨rfl, _, rfl, _, rfl, pa, _, rfl, .inr (SqT.of (get_new hpa5 hD4)), rfl, flat_strs e.2.2, ?_⟩
            rw [inV_str]
            refine ⟨_, rfl, ite2 (fun c => ?_) fun c => ?_⟩
            · have c : tx ∉ e.2.2 := by simpa using c
              refine ⟨_, rfl, k1' _ ?_⟩
              rw [List.filter_cons_of_pos (by simpa using c), List.map_append]
              rfl
            · have c : ¬ tx ∉ e.2.2 := by simpa using c
              refine k2' ?_
              rw [List.filter_cons_of_neg (by simpa using c)]
              simp
          · rw [List.length_map, List.take_length]
            have n6 := n5.allocH (o := .lst ((rw1.2.filter fun t => decide (t ∉ e.2.2)).map V.str)) hD4
            have hd61 := get_new (o := .lst ((rw1.2.filter fun t => decide (t ∉ e.2.2)).map V.str)) hd51 hD4
            have hd62 := get_new (o := .lst ((rw1.2.filter fun t => decide (t ∉ e.2.2)).map V.str)) hd52 hD4
            have ew : wholeOf (es.take (i + 1)) = wholeOf (es.take i) + e.1 := by rw [tk, whole_snoc]
            have ef2 := fn_sn rows (es.take i) e
            rw [← tk, hof] at ef2
            refine ⟨D4, _, rfl, .inl (SqL.of upd_same), ?_⟩
            rw [List.length_map]
            refine ⟨rfl, _, rfl, ite2 (fun c => ?_) fun c => ?_⟩
            · have c : ((rw1.2.filter fun t => decide (t ∉ e.2.2)).length : Int) = 0 := by
                have c := of_decide_eq_true c
                injection c
              have c2 : (rw1.2.filter fun t => decide (t ∉ e.2.2)) = [] := List.length_eq_zero_iff.mp (by omega)
              have c3 : rw1.2.all (fun t => decide (t ∈ e.2.2)) = true := List.all_eq_true.mpr fun t ht => by
                have := List.filter_eq_nil_iff.mp c2 t ht
                simpa using this
              rw [if_pos c3] at ef2
              refine ⟨_, rfl, _, rfl, _, _, rfl, rfl, ?_⟩
              exact ⟨_, _, _, _, _, _, k3, ks2, by rw [ef2, ew]; rfl, n6, hd61, kn1, km1, hd62, nd52, km2⟩
            · have c3 : ¬ rw1.2.all (fun t => decide (t ∈ e.2.2)) = true := fun z => c (by
                have : (rw1.2.filter fun t => decide (t ∉ e.2.2)) = [] := List.filter_eq_nil_iff.mpr fun t ht => by
                  have := List.all_eq_true.mp z t ht
                  simpa using this
                rw [this]
                rfl)
              rw [if_neg c3, Int.add_zero] at ef2
              exact ⟨_, _, _, _, _, _, k3, ks2, by rw [ef2, ew], n6, hd61, kn1, km1, hd62, nd52, km2⟩
    · rintro σ H1 ⟨z10, z11, z12, z13, z14, z15, k1, k2, rfl, n1, hd11, nd1, mem1, hd12, nd2, mem2⟩
      rw [lv, List.take_length] at hd11 mem1 hd12 mem2
      rw [lv, List.take_length]
      have hpw1 := n1.gh _ _ hpw
      have tp := sum_pos W.pos W.ne
      have tb : (total ws).natAbs < 2 ^ 140 := W.big
      have hl2 : k2.length ≤ 60 := M.few k2 nd2 fun t ht => (mem2 t).mp ht
      refine ⟨_, rfl, pw, rfl, ⟨_, SqL.of hpw1⟩, fun D1 hD1 => ?_⟩
      refine lcM (ys := (ws.map fun e : Wd => e.2).map V.int) (walk_list (xs := wvs)) (by simp [lw]) (by omega) (fun l => SqL.of (get_new hpw1 hD1)) (fun i y y' l Ky hy hy' hk => ?_) ?_
      · obtain ⟨e, he, t, ta, tb, rfl, ht, rta, rtb⟩ := paired_get prw hy
        have rtb : tb = .int e.2 := rtb
        subst rtb
        rw [List.getElem?_map, List.getElem?_map, he] at hy'
        obtain rfl := (Option.some.inj hy').symm
        exact ⟨rfl, _, rfl, t, _, _, _, rfl, rfl, SqT.of (get_new (n1.gh _ _ ht) hD1), rfl, hk⟩
      have n2 := n1.allocH (o := .lst ((ws.map fun e : Wd => e.2).map V.int)) hD1
      have hd21 := get_new (o := .lst ((ws.map fun e : Wd => e.2).map V.int)) hd11 hD1
      have hd22 := get_new (o := .lst ((ws.map fun e : Wd => e.2).map V.int)) hd12 hD1
      refine ⟨D1, ws.map (fun e : Wd => e.2), rfl, SqL.of upd_same, ?_⟩
      generalize upd H1 D1 (.lst ((ws.map fun e : Wd => e.2).map V.int)) = H2 at n2 hd21 hd22
      have hpw2 := n2.gh _ _ hpw
      refine ⟨_, rfl, pw, rfl, ⟨_, SqL.of hpw2⟩, ?_⟩
      refine for_it (walk_list (xs := wvs)) (fun i σ H' => ∃ (z12 z11 : Option V), σ = [some (.ref a), some (.ref pw), some (.ref pR), some (.int o), some (.int u), some (.ref p), some (.ref d1), some (.ref d2), some (.int (fndOf rows es)), some (.int (wholeOf es)), z10, z11, z12, z13, z14, z15, some (.int (total ws)), none, none] ∧ H' = H2)
        ⟨z12, z11, rfl, rfl⟩ (fun i σ H' _ h => by obtain ⟨z12, z11, rfl, rfl⟩ := h; exact SqL.of hpw2) ?_ ?_
      · rintro i y σ H3 H4 hi ⟨z12', z11', rfl, rfl⟩ ⟨rfl, hv⟩
        obtain ⟨e, he, t, ta, tb', rfl, ht, rta, rtb⟩ := paired_get prw hv
        have rta : ta = .str e.1 := rta
        have rtb : tb' = .int e.2 := rtb
        subst rta rtb
        have hem := List.mem_of_getElem? he
        have gv : (valV (tabK k1 (wrOf es)) (.inr e.1)).getD (.int 0) = .int (wrOf es e.1) := by
          rw [tab_val]
          by_cases h : e.1 ∈ k1
          · rw [if_pos h]
            rfl
          · rw [if_neg h]
            show V.int 0 = _
            rw [wr_none fun z => h ((mem1 _).mpr z)]
        have wl := wr_le M.E.pos e.1
        have wb : (wrOf es e.1).natAbs < 2 ^ 3950 := nat_lt_two (by omega) M.b
        have eb : e.2.natAbs < 2 ^ 140 := nat_lt_two (show e.2.natAbs ≤ (total ws).natAbs by have h1 := W.pos e hem; have h2 := mem_le W.pos e hem; omega) tb
        refine ⟨t, _, rfl, SqT.of (n2.gh _ _ ht), rfl, _, _, rfl, _, _, rfl, rfl, ?_⟩
        refine ⟨_, rfl, d1, rfl, .inl ⟨_, Rd.of hd21⟩, _, rfl, _, DGet.k (k := .inr e.1) hd21, ?_⟩
        rw [gv]
        refine ⟨_, rfl, _, _, rfl, rfl, mulx_ok wb tb (by decide), _, rfl, _, rfl, _, _, rfl, rfl, mulx_ok eb M.b (by decide), rfl, _, rfl, itF (show ¬ (!decide (V.int (wrOf es e.1 * total ws) = V.int (e.2 * wholeOf es))) = true by rw [hwr e hem]; simp) ?_⟩
        exact ⟨_, _, rfl, rfl⟩
      · rintro σ H3 ⟨z12', z11', rfl, rfl⟩
        refine ⟨_, rfl, d2, _, rfl, hd22, fun q hq => ?_⟩
        have ek : (tabK k2 (accOf es)).map (fun kv => kV kv.1) = k2.map V.str := by
          unfold tabK
          rw [List.map_map]
          rfl
        rw [ek]
        have n3 := n2.allocH (o := .lst (k2.map V.str)) hq
        have hq3 : upd H3 q (.lst (k2.map V.str)) q = some (.lst (k2.map V.str)) := upd_same
        have hd32 := get_new (o := .lst (k2.map V.str)) hd22 hq
        generalize upd H3 q (.lst (k2.map V.str)) = H4 at n3 hq3 hd32
        refine ⟨q, rfl, ⟨_, SqL.of hq3⟩, ?_⟩
        refine for_it (walk_list (xs := k2.map V.str)) (fun i σ H' => ∃ (z15' : Option V), σ = [some (.ref a), some (.ref pw), some (.ref pR), some (.int o), some (.int u), some (.ref p), some (.ref d1), some (.ref d2), some (.int (fndOf rows es)), some (.int (wholeOf es)), z10, z11', z12', z13, z14, z15', some (.int (total ws)), none, none] ∧ H' = H4)
          ⟨z15, rfl, rfl⟩ (fun i σ H' _ h => by obtain ⟨z15', rfl, rfl⟩ := h; exact SqL.of hq3) ?_ ?_
        · rintro i y σ H5 H6 hi ⟨z15', rfl, rfl⟩ ⟨rfl, hv⟩
          have hi' : i < k2.length := by simpa using hi
          rw [List.getElem?_map, List.getElem?_eq_getElem hi'] at hv
          have hv := (Option.some.inj hv).symm
          have hv : y = .str k2[i] := hv
          have hm : k2[i] ∈ k2 := List.getElem_mem hi'
          generalize k2[i] = t at hv hm
          subst hv
          have dg := DGet.k (k := .inr t) hd32
          rw [tab_val, if_pos hm] at dg
          have ab := M.acc t
          refine ⟨_, rfl, _, rfl, d2, _, rfl, dg, _, rfl, _, _, rfl, rfl, mulx_ok ab.2 bu (by decide), _, rfl, _, rfl, _, _, rfl, rfl, mulx_ok bo M.b (by decide), _, _, rfl, rfl, _, rfl, itF (by simp; exact hac t) ?_⟩
          exact ⟨_, rfl, rfl⟩
        · rintro σ H5 ⟨z15', rfl, rfl⟩
          refine ⟨_, rfl, _, rfl, ?_, fun pz hz => ?_⟩
          · simp [sizeLine_eq]
          exact k _ _ _ (n3.alloc (o := .lst _) hz) ⟨pz, rfl, upd_same⟩
end
end Mk

-- K7
set_option Elab.async false
set_option linter.all false
set_option maxRecDepth 100000
set_option maxHeartbeats 4000000
set_option exponentiation.threshold 20000
namespace Mk
open PySem PySem.Spec PyProof.Rows L2
open C8 (InsC call_isC)
theorem cap_lam (q : Rat) : cap q ≤ q := by
  unfold cap
  by_cases h : q < 1
  · rw [if_pos h]
    exact Rat.le_refl
  · rw [if_neg h]
    exact Rat.not_lt.mp h
theorem whole_big {B : Nat} : ∀ {es : List Ent}, (∀ e ∈ es, e.1.natAbs < B) → (wholeOf es).natAbs ≤ es.length * B
  | [], _ => by simp [wholeOf]
  | e :: es, h => by
    have h1 := whole_big (B := B) (es := es) fun a ha => h a (List.mem_cons_of_mem _ ha)
    have h2 := h e List.mem_cons_self
    have h3 : wholeOf (e :: es) = e.1 + wholeOf es := rfl
    rw [h3, List.length_cons, Nat.add_mul]
    omega
/-- what the marking of a best row is known for -/
structure MkF (ws : List Wd) (rows : List Row) (es : List Ent) (o u : Int) (Vl : Rat) : Prop where
  M : Mok es
  l1 : 1 ≤ es.length
  l2 : es.length ≤ 2 * ws.length
  inn : ∀ e ∈ es, ∃ d ∈ ws, d.1 = e.2.1
  wr : ∀ e ∈ ws, wrOf es e.1 * total ws = e.2 * wholeOf es
  ac : ∀ t, accOf es t * u ≤ o * wholeOf es
  fd : (fndOf rows es : Rat) = Vl * (wholeOf es : Rat)
theorem mk_facts {ws : List Wd} {rows : List Row} {es : List Ent} {o u : Int} {Vl c : Rat} {x : Str → Rat} (I : Inst ws rows) (hu : 0 < u) (pri : Pri ws rows (cap ((o : Rat) / (u : Rat))) x Vl) (m : MkOk ws rows x es c) : MkF ws rows es o u Vl := by
  have W := I.W
  have tp := sum_pos W.pos W.ne
  have tr := int_pos_rat tp
  have ur := int_pos_rat hu
  have h : ∀ e ∈ ws, 0 ≤ x e.1 ∧ 0 ≤ restOf ws x e := fun e he => by
    refine ⟨pri.nn e he, ?_⟩
    have := le_div_of tr (pri.le e he)
    unfold restOf
    grind
  have len : es.length = (kxOf ws rows x).length := by
    have := congrArg List.length m.key
    rw [List.length_map, List.length_map] at this
    exact this
  have l16 := kx_len (rows := rows) (x := x) I.n8
  have own : ∀ e ∈ ws, ∃ r ∈ rows, r.1 = e.1 ∧ ofR rows e.1 = r.2 := fun e he => by
    obtain ⟨r, hr, hre⟩ := List.mem_map.mp (I.has e he)
    exact ⟨r, hr, hre, by rw [← hre]; exact ofR_eq I.R.nd hr⟩
  have key : ∀ e ∈ es, (∃ d ∈ ws, d.1 = e.2.1) ∧ (e.2.2 = [] ∨ ∃ r ∈ rows, e.2.2 = r.2) := fun e he => by
    have h1 : (e.2.1, e.2.2) ∈ (kxOf ws rows x).map fun z : Kx => (z.1, z.2.1) := by
      rw [← m.key]
      exact List.mem_map.mpr ⟨e, he, rfl⟩
    obtain ⟨z, hz, e1⟩ := List.mem_map.mp h1
    injection e1 with e1 e2
    unfold kxOf at hz
    rcases List.mem_append.mp hz with q | q
    · obtain ⟨d, hd, rfl⟩ := List.mem_map.mp q
      have hd := (List.mem_filter.mp hd).1
      obtain ⟨r, hr, hre, ho⟩ := own d hd
      refine ⟨⟨d, hd, e1⟩, .inr ⟨r, hr, ?_⟩⟩
      rw [← e2]
      exact ho
    · obtain ⟨d, hd, rfl⟩ := List.mem_map.mp q
      have hd := (List.mem_filter.mp hd).1
      exact ⟨⟨d, hd, e1⟩, .inl e2.symm⟩
  have ew := m.whole h W
  have wp : 0 < wholeOf es := by
    have := m.c0
    rw [← ew] at this
    exact Rat.intCast_pos.mp this
  have wr := int_pos_rat wp
  have l1 : 1 ≤ es.length := by
    cases es with
    | nil => exact absurd wp (by decide)
    | cons a b => simp
  have lk : (kxOf ws rows x).length ≤ 2 * ws.length := by
    unfold kxOf firsts rests
    rw [List.length_append, List.length_map, List.length_map]
    have h1 := List.length_filter_le (fun e : Wd => decide (0 < x e.1)) ws
    have h2 := List.length_filter_le (fun e : Wd => decide (0 < restOf ws x e)) ws
    omega
  have Mk0 : Mok es := by
    refine ⟨⟨fun e he => (m.pos e he).1, fun e he => ?_, by omega⟩, wp, ?_, fun l nd hl => ?_⟩
    · rcases (key e he).2 with q | ⟨r, hr, q⟩
      · rw [q]
        exact ⟨List.Pairwise.nil, by simp⟩
      · rw [q]
        exact ⟨(I.R.row r hr).1, (I.R.row r hr).2.2⟩
    · have h1 := whole_big (B := 2 ^ 3900) fun e he => (m.pos e he).2
      refine Nat.lt_of_le_of_lt h1 ?_
      have : es.length * 2 ^ 3900 ≤ 2 ^ 4 * 2 ^ 3900 := Nat.mul_le_mul_right _ (by omega)
      rw [← Nat.pow_add] at this
      exact Nat.lt_of_le_of_lt this (Nat.pow_lt_pow_right (by decide) (by decide))
    · have := I.few l nd fun t ht => by
        obtain ⟨e, he, h2⟩ := hl t ht
        rcases (key e he).2 with q | ⟨r, hr, q⟩
        · rw [q] at h2
          cases h2
        · exact ⟨r, hr, by rw [← q]; exact h2⟩
      omega
  refine ⟨Mk0, l1, by omega, fun e he => (key e he).1, fun e he => ?_, fun t => ?_, ?_⟩
  · have := m.written h W he
    exact Rat.intCast_inj.mp (by rw [Rat.intCast_mul, Rat.intCast_mul]; exact this)
  · refine int_of_rat ?_
    rw [Rat.intCast_mul, Rat.intCast_mul, m.accused h, ew]
    have h1 := Rat.le_trans (pri.rd t) (cap_lam _)
    have h2 := Rat.mul_le_mul_of_nonneg_right h1 (Rat.le_of_lt ur)
    have h3 := div_mul_same (a := (o : Rat)) (int_ne_rat (show u ≠ 0 by omega))
    rw [h3] at h2
    have h4 := Rat.mul_le_mul_of_nonneg_right h2 (Rat.le_of_lt m.c0)
    grind
  · rw [m.found h (fun e he => by
      obtain ⟨r, hr, hre, ho⟩ := own e he
      rw [ho, ← hre]
      exact (I.R.row r hr).2.1), ew, pri.val, Rat.mul_comm]
theorem MkF.frc {ws : List Wd} {rows : List Row} {es : List Ent} {o u : Int} {Vl : Rat} (f : MkF ws rows es o u Vl) : Frc Vl (fndOf rows es) (wholeOf es) := by
  obtain ⟨a, b⟩ := wIf_nn (p := fun a l => (ofR rows a).all fun t => decide (t ∈ l)) f.M.E.pos
  have a : 0 ≤ fndOf rows es := a
  have b : fndOf rows es ≤ wholeOf es := b
  have c := f.M.p
  have d : (wholeOf es).natAbs < 2 ^ 60000 := Nat.lt_trans f.M.b (Nat.pow_lt_pow_right (by decide) (by decide))
  exact ⟨c, f.fd, nat_lt_two (by omega) d, d⟩
end Mk

-- K8
set_option Elab.async false
set_option linter.all false
set_option maxRecDepth 100000
set_option maxHeartbeats 4000000
set_option exponentiation.threshold 20000
namespace Mk
open PySem PySem.Spec PyProof.Rows L2
open C8 (InsC call_isC)
theorem MkF.le {ws : List Wd} {rows : List Row} {es : List Ent} {o u : Int} {Vl : Rat} (f : MkF ws rows es o u Vl) (hu : 0 < u) (t : Str) : (accOf es t : Rat) / (wholeOf es : Rat) ≤ (o : Rat) / (u : Rat) := by
  have wr := int_pos_rat f.M.p
  have ur := int_pos_rat hu
  refine le_div_of ur ?_
  have h1 := int_le_rat (f.ac t)
  rw [Rat.intCast_mul, Rat.intCast_mul] at h1
  have h2 : (accOf es t : Rat) / (wholeOf es : Rat) * (u : Rat) = (accOf es t : Rat) * (u : Rat) / (wholeOf es : Rat) := by
    rw [Rat.div_def, Rat.div_def]
    grind
  rw [h2]
  exact div_le_of wr h1
theorem MkF.div {ws : List Wd} {rows : List Row} {es : List Ent} {o u : Int} {Vl : Rat} (f : MkF ws rows es o u Vl) : (fndOf rows es : Rat) / (wholeOf es : Rat) = Vl := by
  have := int_ne_rat (show wholeOf es ≠ 0 by have := f.M.p; omega)
  rw [f.fd]
  grind
theorem MkF.cross {ws : List Wd} {rows : List Row} {es : List Ent} {o u : Int} {Vl : Rat} (f : MkF ws rows es o u Vl) : Vl.num * wholeOf es = fndOf rows es * (Vl.den : Int) := by
  refine Rat.intCast_inj.mp ?_
  rw [Rat.intCast_mul, Rat.intCast_mul, f.fd, num_eq Vl]
  grind
section
variable {P : Program} {w : World} {K : PySem.W.Frag} {mg : Str → Option Value} {base : Heap}
def spMet (K : PySem.W.Frag) : Sp := fun vs H Q _ => ∃ (G : Hp) (sv cv wv rwv : V) (ws : List Wd) (rows : List Row) (o u : Int), vs = [sv, cv, wv, rwv, .int o, .int u] ∧ Same G H ∧ rSrc K G sv ws ∧ rCh K G cv rows ∧ rWds G wv ws ∧ rRows G rwv rows ∧
  Inst ws rows ∧ Aln ws rows ∧ 0 < o ∧ 0 < u ∧ o.natAbs < 2 ^ 140 ∧ u.natAbs < 2 ^ 140 ∧ ∀ G' H', Nw nM G H G' H' → Q (.bl true) H'
theorem sc__law_met : FnScope ["_law_source_here", "_law_changed", "_law_words_here", "_law_rows_here", "_law_over", "_law_under_here", "_law_level_here", "_law_marking", "_law_counts_here", "_law_due", "_law_told", "_law_share"] ["_law_source_here", "_law_changed", "_law_words_here", "_law_rows_here", "_law_over", "_law_under_here"] (defScope s__law_met) := ⟨rfl, rfl, rfl, by decide +kernel, rfl, by decide +kernel, by decide +kernel⟩
theorem ok__law_met (T : Tx K mg) : Ok P w K mg base 10 (He.ga K "_law_met") ["_law_source_here", "_law_changed", "_law_words_here", "_law_rows_here", "_law_over", "_law_under_here"] (spMet K) := by
  refine ok_mk (f__law_met T) (df_kp (f__law_met T)) sc__law_met (fun _ _ _ _ _ _ us hl => match us, hl with | [_, _, _, _, _, _], _ => rfl) (fun vs H Q E h => ?_) (fun cdv A outer s H vs Q E hr h => ?_)
  · obtain ⟨G, sv, cv, wv, rwv, ws, rows, o, u, rfl, _⟩ := h
    rfl
  · obtain ⟨G, sv, cv, wv, rwv, ws, rows, o, u, rfl, sm, rs, rc, rw0, rr, I, al, ho, hu, bo, bu, k⟩ := h
    refine ⟨_, (pss_cons (ps_set (i := 6) sc__law_met.nd rfl (Or.inl rfl) (pe_k (k_Share T) (ok_Share_init T) (hr.mono (by decide)) rfl (g_Share T) (pa_cons (pv 4) (pa_cons (pv 5) pa_nil))))
      (pss_cons (ps_set (i := 7) sc__law_met.nd rfl (Or.inl rfl) (pe_c (ok_best_marking T) (hr.mono (by decide)) rfl (g_best_marking T) (pa_cons (pv 0) (pa_cons (pv 1) (pa_cons (pv 6) pa_nil)))))
      (pss_cons (ps_if (PW.pt (pw_or (pt_not (pt_val (pe_callB (call_isC (in_Marking T)) (by rfl) (b_isinstance T) (by decide +kernel) (pa_cons (pv 7) (pa_cons (pe_glob (v := .ref (He.ga K "Marking")) rfl (g_Marking T) rfl) pa_nil))))) (pw_or1 (pt_cmpR op_notN (pe_c (ok_seen_at T) (hr.mono (by decide)) rfl (g_seen_at T) (pa_cons (pv 0) (pa_cons (pv 7) pa_nil))) pe_non (nomark _)))))
        (pss_one (ps_ret pe_bl))
        pss_nil)
      (pss_cons (ps_set (i := 8) sc__law_met.nd rfl (Or.inl rfl) (pe_c (ok__law_counts T) (hr.mono (by decide)) rfl (g__law_counts T) (pa_cons (pv 7) (pa_cons (pv 2) (pa_cons (pv 3) (pa_cons (pv 4) (pa_cons (pv 5) pa_nil)))))))
      (pss_cons (ps_set (i := 9) sc__law_met.nd rfl (Or.inl rfl) (pe_c (ok__law_worth T) (hr.mono (by decide)) rfl (g__law_worth T) (pa_cons (pv 0) (pa_cons (pv 1) (pa_cons (pe_lst (pa_cons (pv 4) (pa_cons (pv 5) pa_nil))) (pa_cons (pv 2) (pa_cons (pv 3) pa_nil)))))))
      (pss_cons (ps_if (PW.pt (pw_or (pt_cmpR op_isN (pv 8) pe_non (nomark _)) (pw_or (pt_cmpR op_isN (pv 9) pe_non (nomark _)) (pw_or1 (pt_cmpR op_ne (pe_op op_mulX (pe_ix ix_list (pv 8) pe_int (fun _ _ => rfl)) (pe_ix ix_list (pv 9) pe_int (fun _ _ => rfl))) (pe_op op_mulX (pe_ix ix_list (pv 9) pe_int (fun _ _ => rfl)) (pe_ix ix_list (pv 8) pe_int (fun _ _ => rfl))) (nomark _))))))
        (pss_one (ps_ret pe_bl))
        pss_nil)
      (pss_cons (ps_if (PW.pt (pw_or (pt_cmpR op_notN (pe_c (ok_accused_at T) (hr.mono (by decide)) rfl (g_accused_at T) (pa_cons (pv 7) (pa_cons (pv 6) pa_nil))) pe_non (nomark _)) (pw_or1 (pt_cmpR op_notN (pe_c (ok_accused_at T) (hr.mono (by decide)) rfl (g_accused_at T) (pa_cons (pv 7) (pa_cons (pe_c (ok_accused_most T) (hr.mono (by decide)) rfl (g_accused_most T) (pa_cons (pv 7) pa_nil)) pa_nil))) pe_non (nomark _)))))
        (pss_one (ps_ret pe_bl))
        pss_nil)
      (pss_cons (ps_set (i := 10) sc__law_met.nd rfl (Or.inl rfl) (pe_lst (pa_cons (pe_c (ok_found_share T) (hr.mono (by decide)) rfl (g_found_share T) (pa_cons (pv 1) (pa_cons (pv 7) pa_nil))) (pa_cons (pe_c (ok_worth T) (hr.mono (by decide)) rfl (g_worth T) (pa_cons (pv 0) (pa_cons (pv 1) (pa_cons (pv 6) pa_nil)))) pa_nil))))
      (pss_cons (ps_for PassesOwn.never rfl (pi_list (pv 10)) (pg_name (i := 11) sc__law_met.nd rfl (Or.inl rfl))
      (pss_one (ps_if (PW.pt (pw_or (pt_not (pt_val (pe_c (ok__law_good T) (hr.mono (by decide)) rfl (g__law_good T) (pa_cons (pv 11) pa_nil)))) (pw_or1 (pt_cmpR op_ne (pe_op op_mulX (pe_f (c_Share T) (n_Share_over T) (pv 11)) (pe_ix ix_list (pv 8) pe_int (fun _ _ => rfl))) (pe_op op_mulX (pe_ix ix_list (pv 8) pe_int (fun _ _ => rfl)) (pe_f (c_Share T) (n_Share_under T) (pv 11))) (nomark _)))))
        (pss_one (ps_ret pe_bl))
        pss_nil)))
      (pss_one (ps_ret (pe_c (ok__law_is T) (hr.mono (by decide)) rfl (g__law_is T) (pa_cons (pe_c (ok_gap T) (hr.mono (by decide)) rfl (g_gap T) (pa_cons (pv 0) (pa_cons (pv 1) (pa_cons (pv 6) (pa_cons (pv 7) pa_nil))))) (pa_cons pe_int (pa_cons pe_int pa_nil))))))))))))))), ?_⟩
    have W := I.W
    have ub : u.natAbs < 2 ^ 9000 := Nat.lt_trans bu (Nat.pow_lt_pow_right (by decide) (by decide))
    have lb : Bq 140 ((o : Rat) / (u : Rat)) := bq_of hu bo bu
    have lp : 0 < (o : Rat) / (u : Rat) := by
      have h1 := int_pos_rat ho
      have h2 := int_pos_rat hu
      rw [Rat.div_def]
      exact Rat.mul_pos h1 (Rat.inv_pos.mpr h2)
    refine ⟨_, rfl, _, rfl, ?_⟩
    intro x1 dx1 hx1 hd1 ne1
    refine sh_new1 (M := nM) hx1 hd1 ne1 hu ub (Nw.refl sm) fun G1 H1 n1 r1 => ⟨rfl, ?_⟩
    have m1 := n1.gg
    have p1 : PreI K G1 H1 sv cv (.ref x1) ws rows ((o : Rat) / (u : Rat)) := ⟨n1.gh, Mono.mono m1 rs, Mono.mono m1 rc, r1, I, lb, lp⟩
    refine ⟨_, rfl, _, rfl, _, rfl, G1, sv, cv, .ref x1, ws, rows, _, rfl, p1, fun x Vl es c pri val mk v2 G2 H2 n2 r2 => ?_⟩
    have F := mk_facts I hu pri mk
    have p2 := p1.mono n2
    obtain ⟨a, dx, pe, evs, rfl, ha, hpe, pre⟩ := id r2
    have hin : ∀ e ∈ es, e.2.1 ∈ ws.map (·.1) := fun e he => by
      obtain ⟨d, hd, q⟩ := F.inn e he
      exact List.mem_map.mpr ⟨d, hd, q⟩
    have hinr : ∀ e ∈ es, e.2.1 ∈ rows.map (·.1) := fun e he => by
      obtain ⟨d, hd, q⟩ := F.inn e he
      rw [← q]
      exact I.has d hd
    have hwr : ∀ e ∈ ws, (wrOf es e.1 : Rat) * (total ws : Rat) = (e.2 : Rat) * (wholeOf es : Rat) := fun e he => by
      rw [← Rat.intCast_mul, ← Rat.intCast_mul, F.wr e he]
    refine ⟨_, rfl, a, dx, _, rfl, n2.gh _ _ ha, _, rfl, itF (by simp) ?_⟩
    refine ⟨_, rfl, _, rfl, G2, _, _, ws, es, rfl, n2.gh, p2.s, r2, W, F.M, hin, hwr, fun G3 H3 n3 => ?_⟩
    refine ⟨rfl, _, rfl, itF (by simp) ?_⟩
    have p3 := p2.mono n3
    have m3 := (n1.gg.trans n2.gg).trans n3.gg
    refine ⟨_, rfl, _, rfl, _, rfl, _, rfl, _, rfl, G3, _, _, _, ws, rows, es, o, u, rfl, n3.gh, Mono.mono n3.gg r2, Mono.mono m3 rw0, Mono.mono m3 rr, W, I.R, F.M, I.n8, F.l1, F.l2, F.inn, I.has, bo, bu, F.wr, F.ac, fun v4 G4 H4 n4 r4 => ?_⟩
    have p4 := p3.mono n4
    have m4 := m3.trans n4.gg
    refine ⟨_, rfl, _, rfl, _, rfl, _, rfl, len_ok (show 2 ≤ 100000 by decide), fun pl hpl => ?_⟩
    have n5 := (Nw.refl (M := nM) n4.gh).allocH (o := .lst [.int o, .int u]) hpl
    have hpl5 : upd H4 pl (.lst [.int o, .int u]) pl = some (.lst [.int o, .int u]) := upd_same
    refine ⟨_, rfl, _, rfl, ?_⟩
    generalize upd H4 pl (.lst [.int o, .int u]) = H5 at n5 hpl5
    refine ⟨G4, sv, cv, _, _, pl, ws, rows, o, u, rfl, n5.gh, hpl5, p4.s, p4.c, Mono.mono m4 rw0, Mono.mono m4 rr, I, al, ho, hu, bo, bu, fun Vl' S C val' fr v6 G6 H6 n6 r6 => ?_⟩
    obtain rfl := Val.uniq W val val'
    have n56 := n5.trans n6
    have p6 := p4.mono n56
    have m6 := m4.trans n56.gg
    obtain ⟨q4, rfl, hq4⟩ := id r4
    obtain ⟨q6, rfl, hq6⟩ := id r6
    have q4H := n56.gh _ _ (n56.gg _ _ hq4)
    have q6H := n56.gh _ _ hq6
    have fc := F.frc
    refine ⟨_, rfl, rfl, _, rfl, itF (by simp) ?_⟩
    refine ⟨_, rfl, rfl, _, rfl, itF (by simp) ?_⟩
    refine ⟨_, rfl, q4, _, _, .int (fndOf rows es), rfl, rfl, SqL.of q4H, rfl, _, rfl, q6, _, _, .int C, rfl, rfl, SqL.of q6H, rfl, _, _, rfl, rfl, frc_x fc fr, ?_⟩
    refine ⟨_, rfl, q6, _, _, .int S, rfl, rfl, SqL.of q6H, rfl, _, rfl, q4, _, _, .int (wholeOf es), rfl, rfl, SqL.of q4H, rfl, _, _, rfl, rfl, frc_x fr fc, ?_⟩
    have e0 := frc_eq fc fr
    refine ⟨rfl, _, rfl, itF (show ¬ (!decide (V.int (fndOf rows es * C) = V.int (S * wholeOf es))) = true by rw [e0]; simp) ?_⟩
    have r26 : rMk K G6 (.ref a) es := Mono.mono ((n3.gg.trans n4.gg).trans n56.gg) r2
    refine ⟨_, rfl, _, rfl, G6, _, _, es, _, rfl, n6.gh, r26, p6.l, F.M, lb.mono (by decide), F.le hu, fun G7 H7 n7 => ?_⟩
    have p7 := p6.mono n7
    have m7 := m6.trans n7.gg
    have r27 : rMk K G7 (.ref a) es := Mono.mono n7.gg r26
    refine ⟨rfl, _, rfl, itF (by simp) ?_⟩
    refine ⟨_, rfl, _, rfl, G7, _, es, rfl, n7.gh, r27, F.M, fun q hq bq v8 G8 H8 n8' r8 => ?_⟩
    refine ⟨G8, _, _, es, q, rfl, n8'.gh, Mono.mono n8'.gg r27, r8, F.M, bq.mono (by decide), hq, fun G9 H9 n9 => ?_⟩
    refine ⟨rfl, _, rfl, itF (by simp) ?_⟩
    have n79 := n8'.trans n9
    have p9 := p7.mono n79
    have r29 : rMk K G9 (.ref a) es := Mono.mono n79.gg r27
    refine ⟨_, rfl, _, rfl, G9, _, _, es, rows, rfl, n9.gh, p9.c, r29, F.M, I.R, hinr, fun v10 G10 H10 n10 r10 => ?_⟩
    rw [F.div] at r10
    have p10 := p9.mono n10
    refine ⟨_, rfl, _, rfl, _, rfl, G10, _, _, _, ws, rows, _, rfl, p10, fun V2 val2 bV v11 G11 H11 n11 r11 => ?_⟩
    obtain rfl := Val.uniq W val val2
    have p11 := p10.mono n11
    have r10' : rSh K G11 v10 Vl := Mono.mono n11.gg r10
    refine ⟨len_ok (show 2 ≤ 100000 by decide), fun pt hpt => ?_⟩
    have n12 := (Nw.refl (M := nM) n11.gh).allocH (o := .lst [v10, v11]) hpt
    have hpt2 : upd H11 pt (.lst [v10, v11]) pt = some (.lst [v10, v11]) := upd_same
    generalize upd H11 pt (.lst [v10, v11]) = H12 at n12 hpt2
    have nn := (((n56.trans n7).trans n79).trans (n10.trans n11)).trans n12
    have q4T := nn.gh _ _ (nn.gg _ _ hq4)
    refine ⟨_, rfl, pt, rfl, ⟨_, SqL.of hpt2⟩, ?_⟩
    refine for_it (walk_list (xs := [v10, v11])) (fun i σ H' => ∃ (z : Option V), σ = [some sv, some cv, some wv, some rwv, some (.int o), some (.int u), some (.ref x1), some (.ref a), some (.ref q4), some (.ref q6), some (.ref pt), z] ∧ H' = H12)
      ⟨none, rfl, rfl⟩ (fun i σ H' _ h => by obtain ⟨z, rfl, rfl⟩ := h; exact SqL.of hpt2) ?_ ?_
    · rintro i y σ H13 H14 hi ⟨z, rfl, rfl⟩ ⟨rfl, hv⟩
      have ry : rSh K G11 y Vl := by
        have : y = v10 ∨ y = v11 := by
          have := List.mem_of_getElem? hv
          simpa using this
        rcases this with q | q
        · rw [q]; exact r10'
        · rw [q]; exact r11
      obtain ⟨b, bdx, rfl, hb⟩ := id ry
      have hbH := n12.gh _ _ hb
      refine ⟨_, rfl, G11, _, Vl, rfl, n12.gh, ry, _, rfl, itF (by simp) ?_⟩
      have wb := F.M.b
      have fb : (fndOf rows es).natAbs < 2 ^ 60000 := fc.2.2.1
      refine ⟨_, rfl, b, bdx, _, _, rfl, hbH, rfl, _, rfl, q4, _, _, .int (wholeOf es), rfl, rfl, SqL.of q4T, rfl, _, _, rfl, rfl, mulx_ok bV.1 wb (by decide), ?_⟩
      refine ⟨_, rfl, q4, _, _, .int (fndOf rows es), rfl, rfl, SqL.of q4T, rfl, _, rfl, b, bdx, _, _, rfl, hbH, rfl, _, _, rfl, rfl, mulx_ok fb (den_bq bV) (by decide), ?_⟩
      refine ⟨rfl, _, rfl, itF (show ¬ (!decide (V.int (Vl.num * wholeOf es) = V.int (fndOf rows es * (Vl.den : Int)))) = true by rw [F.cross]; simp) ?_⟩
      exact ⟨_, rfl, rfl⟩
    · rintro σ H13 ⟨z, rfl, rfl⟩
      have p12 := p11.mono n12
      have r212 : rMk K G11 (.ref a) es := Mono.mono (n10.gg.trans n11.gg) r29
      refine ⟨_, rfl, _, rfl, _, rfl, _, rfl, G11, _, _, _, _, ws, rows, _, es, Vl, rfl, p12, r212, F.M, hin, hwr, F.le hu, fun V3 val3 => Val.uniq W val3 val, F.div, fun v14 G14 H14 n14 r14 => ?_⟩
      refine ⟨G14, _, rfl, n14.gh, r14, ?_⟩
      exact k _ _ ((((n1.trans n2).trans n3).trans n4).trans (nn.trans n14))
end
end Mk

-- N1
set_option Elab.async false
set_option linter.all false
set_option maxRecDepth 100000
set_option maxHeartbeats 4000000
set_option exponentiation.threshold 20000
namespace Mk
open PySem PySem.Spec PyProof.Rows L2
open C8 (InsC call_isC)
theorem total_perm {es ws : List Wd} (p : es.Perm ws) : total es = total ws := by
  induction p with
  | nil => rfl
  | cons x _ ih =>
    unfold total at *
    rw [List.map_cons, List.map_cons, List.sum_cons, List.sum_cons, ih]
  | swap x y l =>
    unfold total
    rw [List.map_cons, List.map_cons, List.map_cons, List.map_cons, List.sum_cons, List.sum_cons, List.sum_cons, List.sum_cons]
    omega
  | trans _ _ a b => rw [a, b]
section
variable {P : Program} {w : World} {K : PySem.W.Frag} {mg : Str → Option Value} {base : Heap}
def spTabI (K : PySem.W.Frag) : Sp := fun vs H Q _ => ∃ (x dx : Addr) (G : Hp) (v : V) (es ws : List Wd), vs = [.ref x, v] ∧ Same G H ∧ H x = some (.ins (He.ga K "Table") dx []) ∧ G x = none ∧ rLst (rPr rStr rInt) G v es ∧ (es.map (·.1)).Nodup ∧ (∀ e ∈ es, 1 ≤ e.2) ∧ es.length ≤ 60 ∧ es.Perm ws ∧ Ini (rTab K) x G H ws Q
theorem sc_Table_init : FnScope ["self", "pairs", "weights", "at", "text", "weight"] ["self", "pairs"] (defScope s_Table_init) := ⟨rfl, rfl, rfl, by decide +kernel, rfl, by decide +kernel, by decide +kernel⟩
theorem ok_Table_init (T : Tx K mg) : Ok P w K mg base 2 (He.ma K (He.ga K "Table") "__init__") ["self", "pairs"] (spTabI K) := by
  refine ok_mk (f_Table_init T) (df_kp (f_Table_init T)) sc_Table_init (fun _ _ _ _ _ _ us hl => match us, hl with | [_, _], _ => rfl) (fun vs H Q E h => ?_) (fun cdv A outer s H vs Q E hr h => ?_)
  · obtain ⟨x, dx, G, v, es, ws, rfl, _⟩ := h
    rfl
  · obtain ⟨x, dx, G, v, es, ws, rfl, sm, hx, gx, ⟨p, vs, rfl, hp, pr⟩, nd, pos, few, pm, k⟩ := h
    refine ⟨_, (pss_cons (ps_set (i := 2) sc_Table_init.nd rfl (Or.inl rfl) pe_dnewK)
      (pss_cons (ps_for PassesOwn.never rfl (pi_enumX (by rfl) (b_enumerate T) (pa_cons (pv 1) pa_nil)) (pg_tup rfl (pgs_cons (pg_name (i := 3) sc_Table_init.nd rfl (Or.inl rfl)) (pgs_cons (pg_tup rfl (pgs_cons (pg_name (i := 4) sc_Table_init.nd rfl (Or.inl rfl)) (pgs_cons (pg_name (i := 5) sc_Table_init.nd rfl (Or.inl rfl)) pgs_nil))) pgs_nil)))
      (pss_cons (ps_if (PW.pt (pw_or (pt_not (pt_val (pe_c (ok__is_integer T) (hr.mono (by decide)) rfl (g__is_integer T) (pa_cons (pv 5) pa_nil)))) (pw_or (pt_cmpR op_lt (pv 5) pe_int (nomark _)) (pw_or1 (pt_cmp (pc_din (hu_of hr) (pv 4) (pv 2)))))))
        (pss_one ps_never)
        pss_nil)
      (pss_one (ps_dput (hu_of hr) (pv 2) (pv 4) (pv 5) rfl))))
      (pss_cons (ps_f (c_Table T) (n_Table_weights T) (pv 0) (pv 2))
      (pss_one (ps_f (c_Table T) (n_Table_whole T) (pv 0) (pe_callB (cr_sumV rfl) (by rfl) (b_sum T) (by decide +kernel) (pa_cons (pe_bm0 PySem.F.plainAttrs_dict PySem.F.slot_dict_values PySem.F.type_dict_values mt_vals (pv 2)) pa_nil))))))), ?_⟩
    intro d hd
    have gd := sm.free hd
    have hpH := sm _ _ hp
    have lv := paired_len pr
    have n0 : Nw nM G H G (upd H d (.dK [])) := (Nw.refl sm).allocH hd
    refine ⟨_, rfl, .lst p, vs, rfl, Rd.of (get_new hpH hd), ?_⟩
    refine for_it (walk_enumX (q := .lst p) (xs := vs)) (fun i σ H' => ∃ (z3 z4 z5 : Option V), σ = [some (.ref x), some (.ref p), some (.ref d), z3, z4, z5] ∧ Nw nM G H G H' ∧ H' d = some (.dK ((es.take i).map kWd)))
      ⟨none, none, none, rfl, n0, upd_same⟩ (fun i σ H' _ h => by obtain ⟨z3, z4, z5, rfl, n, _⟩ := h; exact Rd.of (n.gh _ _ hp)) ?_ ?_
    · rintro i y σ H1 H2 hi ⟨z3, z4, z5, rfl, n1, hd1⟩ ⟨T1, y1, y2, rfl, hT1, rfl, e1, e2⟩
      have e1 := (Option.some.inj e1).symm
      subst e1
      obtain ⟨e, hei, t0, ta, tb, rfl, ht0, rta, rtb⟩ := paired_get pr e2
      have rta : ta = .str e.1 := rta
      have rtb : tb = .int e.2 := rtb
      subst rta rtb
      have hem := List.mem_of_getElem? hei
      have n2 := n1.allocH (o := .tup [.int (i : Nat), .ref t0]) hT1
      have hd2 := get_new (o := .tup [.int (i : Nat), .ref t0]) hd1 hT1
      have hT2 : upd H1 T1 (.tup [.int (i : Nat), .ref t0]) T1 = some (.tup [.int (i : Nat), .ref t0]) := upd_same
      generalize upd H1 T1 (.tup [.int (i : Nat), .ref t0]) = H2 at n2 hd2 hT2
      refine ⟨T1, _, rfl, SqT.of hT2, rfl, _, _, rfl, _, _, rfl, t0, _, rfl, SqT.of (n2.gh _ _ ht0), rfl, _, _, rfl, _, _, rfl, rfl, rfl, ?_⟩
      have hi2 : i < es.length := by rw [← lv]; exact hi
      have hp1 := pos e hem
      have hno : valV ((es.take i).map kWd) (.inr e.1) = none := look_no (F := fun (kv : Key × V) (e : Wd) => kv.1 = .inr e.1 ∧ kv.2 = .int e.2) (key := fun e : Wd => e.1) (fun _ _ h => h.1) (wd_paired _) fun hm => by
        obtain ⟨r', hr', e3⟩ := List.mem_map.mp hm
        obtain ⟨j, hj⟩ := List.getElem?_of_mem hr'
        have hjl := (List.getElem?_eq_some_iff.mp hj).1
        rw [List.length_take] at hjl
        rw [List.getElem?_take_of_lt (by omega)] at hj
        have e1 : (es.map (·.1))[j]? = (es.map (·.1))[i]? := by rw [List.getElem?_map, List.getElem?_map, hj, hei]; exact congrArg some e3
        have := (List.getElem?_inj (by rw [List.length_map]; omega) nd).mp e1
        omega
      have tk : es.take (i + 1) = es.take i ++ [e] := by rw [List.take_add_one, hei]; rfl
      refine ⟨_, rfl, e.2, rfl, _, rfl, itF (by simp) ?_⟩
      refine ⟨_, rfl, _, _, rfl, rfl, _, rfl, itF (by simp; omega) ?_⟩
      refine ⟨_, rfl, _, rfl, d, _, rfl, DGet.k (k := .inr e.1) hd2, _, rfl, itF (by rw [hno]; simp) ?_⟩
      refine ⟨_, rfl, _, rfl, _, rfl, d, _, rfl, DPut.k (k := .inr e.1) hd2 (by rw [List.length_map, List.length_take, sizeLine_eq]; omega), ?_⟩
      refine ⟨_, _, _, rfl, n2.putH hd gd, ?_⟩
      rw [upd_same, putK_new _ hno, tk, List.map_append]
      rfl
    · rintro σ H1 ⟨z3, z4, z5, rfl, n1, hd1⟩
      rw [lv, List.take_length] at hd1
      have hx1 := n1.hh _ _ (fun z => z) hx
      have nxd : x ≠ d := ne_of_none hx hd
      refine ⟨_, rfl, _, rfl, x, dx, _, rfl, hx1, by decide, ?_⟩
      have n2 := (n1.sub (M := fun c => c = x)).putM (o := .ins (He.ga K "Table") dx [("weights", .ref d)]) rfl (n1.loc hx gx)
      have hd2 : upd H1 x (.ins (He.ga K "Table") dx [("weights", .ref d)]) d = some (.dK (es.map kWd)) := by rw [upd_ne (Ne.symm nxd)]; exact hd1
      have hx2 : upd H1 x (.ins (He.ga K "Table") dx [("weights", .ref d)]) x = some (.ins (He.ga K "Table") dx [("weights", .ref d)]) := upd_same
      refine ⟨_, rfl, tyD hd2, d, _, rfl, rfl, hd2, fun pv hpv => ?_⟩
      have n3 := n2.allocH (o := valsO pv d) hpv
      have hd3 := get_new (o := valsO pv d) hd2 hpv
      have hv3 : upd (upd H1 x (.ins (He.ga K "Table") dx [("weights", .ref d)])) pv (valsO pv d) pv = some (valsO pv d) := upd_same
      have hx3 := get_new (o := valsO pv d) hx2 hpv
      have ev : (es.map kWd).map (·.2) = (es.map fun e : Wd => e.2).map V.int := by
        rw [List.map_map, List.map_map]
        rfl
      refine ⟨pv, d, _, es.map (fun e : Wd => e.2), rfl, hv3, hd3, ev, _, rfl, x, dx, _, rfl, hx3, show (1 : Nat) < 1000 by decide, ?_⟩
      have et : (es.map fun e : Wd => e.2).sum = total ws := total_perm pm
      rw [et]
      have gx3 : upd G d (.dK (es.map kWd)) x = none := by rw [upd_ne nxd]; exact gx
      have n4 := (n3.frz hd hd3).putM (o := .ins (He.ga K "Table") dx (tabF d (total ws))) rfl gx3
      refine k _ _ _ n4 gx3 upd_same ⟨x, dx, d, rfl, upd_same, es, ?_, pm⟩
      rw [upd_ne (Ne.symm nxd)]
      exact upd_same
end
end Mk

-- N2
set_option Elab.async false
set_option linter.all false
set_option maxRecDepth 100000
set_option maxHeartbeats 4000000
set_option exponentiation.threshold 20000
namespace Mk
open PySem PySem.Spec PyProof.Rows L2
open C8 (InsC call_isC)
/-! ### the draws -/
/-- the state of the draws at a: the script's numbers, where it stands -/
def StAt (G H : Hp) (a : Addr) : Prop := G a = none ∧ ∃ (l : Addr) (ns : List Int) (i1 i2 i3 i4 : Int), H a = some (.lst [.ref l, .int i1, .int i2, .int i3, .int i4]) ∧ G l = some (.lst (ns.map V.int)) ∧ ns.length ≤ 1000 ∧ 0 ≤ i1 ∧ 0 ≤ i2 ∧ 0 ≤ i4 ∧ i4 < 2147483647
section
variable {P : Program} {w : World} {K : PySem.W.Frag} {mg : Str → Option Value} {base : Heap}
def spDraw : Sp := fun vs H Q _ => ∃ (G : Hp) (a : Addr) (lim : Int), vs = [.ref a, .int lim] ∧ Same G H ∧ StAt G H a ∧ lim.natAbs < 2 ^ 200 ∧
  ∀ r H', 0 ≤ r → r < (if lim < 2 then 1 else lim) → Nw (fun c => c = a) G H G H' → StAt G H' a → Q (.int r) H'
theorem sc__law_draw : FnScope ["_law_state", "_law_limit", "_law_cell", "_law_got"] ["_law_state", "_law_limit"] (defScope s__law_draw) := ⟨rfl, rfl, rfl, by decide +kernel, rfl, by decide +kernel, by decide +kernel⟩
theorem ok__law_draw (T : Tx K mg) : Ok P w K mg base 1 (He.ga K "_law_draw") ["_law_state", "_law_limit"] spDraw := by
  refine ok_mk (f__law_draw T) (df_kp (f__law_draw T)) sc__law_draw (fun _ _ _ _ _ _ us hl => match us, hl with | [_, _], _ => rfl) (fun vs H Q E h => ?_) (fun cdv A outer s H vs Q E hr h => ?_)
  · obtain ⟨G, a, lim, rfl, _⟩ := h
    rfl
  · obtain ⟨G, a, lim, rfl, sm, st, bl, k⟩ := h
    refine ⟨_, (C8.pss_cut (ps_if (pt_cmpR op_lt (pv 1) pe_int (nomark _))
        (pss_one (ps_set (i := 1) sc__law_draw.nd rfl (Or.inl rfl) pe_int))
        pss_nil)
      (C8.pss_cut (ps_if (PW.pt (pw_and (pt_cmpR op_eq (pe_ix ix_list (pv 0) pe_int (fun _ _ => rfl)) pe_int (nomark _)) (pw_and1 (pt_cmpR op_lt (pe_ix ix_list (pv 0) pe_int (fun _ _ => rfl)) (pe_callB call_len_seq (by rfl) (b_len T) (by decide +kernel) (pa_cons (pe_ix ix_list (pv 0) pe_int (fun _ _ => rfl)) pa_nil)) (nomark _)))))
        (pss_cons (ps_set (i := 2) sc__law_draw.nd rfl (Or.inl rfl) (pe_callB call_abs (by rfl) (b_abs T) (by decide +kernel) (pa_cons (pe_callTy call_int1 (by rfl) (b_int T) (by decide +kernel) (pa_cons (pe_ix ix_list (pe_ix ix_list (pv 0) pe_int (fun _ _ => rfl)) (pe_ix ix_list (pv 0) pe_int (fun _ _ => rfl)) (fun _ _ => rfl)) pa_nil)) pa_nil)))
      (pss_cons (ps_asg (pe_op op_add (pe_ix ix_list (pv 0) pe_int (fun _ _ => rfl)) pe_int) (pg_sub (pv 0) pe_int set_list))
      (pss_cons (ps_asg pe_int (pg_sub (pv 0) pe_int set_list))
      (pss_one (ps_if (pt_cmpR op_ge (pv 2) (pe_op op_pow pe_int pe_int) (nomark _))
        (pss_cons (ps_asg (pv 2) (pg_sub (pv 0) pe_int set_list))
      (pss_one (ps_asg pe_int (pg_sub (pv 0) pe_int set_list))))
        (pss_one (ps_asg (pe_op op_mod (pe_callTy call_int1 (by rfl) (b_int T) (by decide +kernel) (pa_cons (pe_op op_add (pe_op op_add (pe_op op_mulX (pe_ix ix_list (pv 0) pe_int (fun _ _ => rfl)) pe_int) (pv 2)) (pe_ix ix_list (pv 0) pe_int (fun _ _ => rfl))) pa_nil)) pe_int) (pg_sub (pv 0) pe_int set_list))))))))
        pss_nil)
      (pss_cons (ps_if (pt_cmpR op_gt (pe_ix ix_list (pv 0) pe_int (fun _ _ => rfl)) pe_int (nomark _))
        (pss_cons (ps_set (i := 3) sc__law_draw.nd rfl (Or.inl rfl) (pe_op op_mod (pe_callTy call_int1 (by rfl) (b_int T) (by decide +kernel) (pa_cons (pe_ix ix_list (pv 0) pe_int (fun _ _ => rfl)) pa_nil)) (pv 1)))
      (pss_cons (ps_asg (pe_op op_fdivW (pe_ix ix_list (pv 0) pe_int (fun _ _ => rfl)) (pv 1)) (pg_sub (pv 0) pe_int set_list))
      (pss_cons (ps_asg (pe_op op_sub (pe_ix ix_list (pv 0) pe_int (fun _ _ => rfl)) pe_int) (pg_sub (pv 0) pe_int set_list))
      (pss_cons (ps_if (PW.pt (pw_or (pt_cmpR op_eq (pe_ix ix_list (pv 0) pe_int (fun _ _ => rfl)) pe_int (nomark _)) (pw_or1 (pt_cmpR op_eq (pe_ix ix_list (pv 0) pe_int (fun _ _ => rfl)) pe_int (nomark _)))))
        (pss_cons (ps_asg pe_int (pg_sub (pv 0) pe_int set_list))
      (pss_one (ps_asg pe_int (pg_sub (pv 0) pe_int set_list))))
        pss_nil)
      (pss_one (ps_ret (pv 3)))))))
        pss_nil)
      (pss_cons (ps_asg (pe_callB (call_max2 rfl) (by rfl) (b_max T) (by decide +kernel) (pa_cons pe_int (pa_cons (pe_op op_sub (pe_ix ix_list (pv 0) pe_int (fun _ _ => rfl)) pe_int) pa_nil))) (pg_sub (pv 0) pe_int set_list))
      (pss_cons (ps_asg (pe_op op_mod (pe_callTy call_int1 (by rfl) (b_int T) (by decide +kernel) (pa_cons (pe_op op_add (pe_op op_mulX (pe_ix ix_list (pv 0) pe_int (fun _ _ => rfl)) pe_int) pe_int) pa_nil)) pe_int) (pg_sub (pv 0) pe_int set_list))
      (pss_one (ps_ret (pe_op op_mod (pe_callTy call_int1 (by rfl) (b_int T) (by decide +kernel) (pa_cons (pe_op op_mod (pe_callTy call_int1 (by rfl) (b_int T) (by decide +kernel) (pa_cons (pe_op op_add (pe_op op_mulX (pe_ix ix_list (pv 0) pe_int (fun _ _ => rfl)) pe_int) pe_int) pa_nil)) pe_int) pa_nil)) (pv 1))))))))), ?_⟩
    obtain ⟨ga, l, ns, i1, i2, i3, i4, ha, hl, ll, p1, p2, p4, q4⟩ := st
    refine ⟨fun σ H' => σ = [some (.ref a), some (.int (if lim < 2 then 1 else lim)), none, none] ∧ H' = H, ⟨_, rfl, _, _, rfl, rfl, _, rfl, ite2 (fun c => ?_) fun c => ?_⟩, ?_⟩
    · have c : lim < 2 := of_decide_eq_true c
      rw [if_pos c]
      exact ⟨rfl, rfl⟩
    · have c : ¬ lim < 2 := by simpa using c
      rw [if_neg c]
      exact ⟨rfl, rfl⟩
    rintro σ H0 ⟨rfl, rfl⟩
    have m1 : 0 < (if lim < 2 then 1 else lim) := by split <;> omega
    have bm : (if lim < 2 then 1 else lim).natAbs < 2 ^ 200 := by split; decide; exact bl
    generalize (if lim < 2 then 1 else lim) = m at k m1 bm
    refine ⟨fun σ H' => ∃ (z : Option V) (i1 i2 i3 i4 : Int), σ = [some (.ref a), some (.int m), z, none] ∧ Nw (fun c => c = a) G H0 G H' ∧ H' a = some (.lst [.ref l, .int i1, .int i2, .int i3, .int i4]) ∧ 0 ≤ i1 ∧ 0 ≤ i2 ∧ 0 ≤ i4 ∧ i4 < 2147483647, ?_, ?_⟩
    · have hlH := sm _ _ hl
      have n0 : Nw (fun c => c = a) G H0 G H0 := Nw.refl sm
      refine ⟨_, rfl, a, _, _, .int i3, rfl, rfl, SqL.of ha, rfl, rfl, _, rfl, ite2 (fun c => ?_) fun c => ?_⟩
      · refine ⟨_, rfl, a, _, _, .int i1, rfl, rfl, SqL.of ha, rfl, _, rfl, a, _, _, .ref l, rfl, rfl, SqL.of ha, rfl, l, _, rfl, .inl (SqL.of hlH), _, _, rfl, rfl, _, rfl, ite2 (fun c => ?_) fun c => ?_⟩
        · obtain ⟨n, rfl⟩ := Int.eq_ofNat_of_zero_le p1
          have c : (n : Int) < ((ns.map V.int).length : Nat) := of_decide_eq_true c
          have cn : n < ns.length := by rw [List.length_map] at c; omega
          have e1 : ns[n]? = some ns[n] := List.getElem?_eq_getElem cn
          generalize ns[n] = q at e1
          refine ⟨_, rfl, a, _, _, .ref l, rfl, rfl, SqL.of ha, rfl, _, rfl, a, _, _, .int n, rfl, rfl, SqL.of ha, rfl, l, _, _, .int q, rfl, rfl, SqL.of hlH, by rw [at_nat (by rw [List.length_map]; exact cn), List.getElem?_map, e1]; rfl, .inl ⟨_, rfl, _, rfl, ?_⟩⟩
          have pc : 0 ≤ (if q < 0 then -q else q) := by split <;> omega
          generalize (if q < 0 then -q else q) = cell at pc
          have n1 := n0.putM (o := .lst [.ref l, .int (n + 1), .int i2, .int i3, .int i4]) rfl ga
          have h1 : upd H0 a (.lst [.ref l, .int (n + 1), .int i2, .int i3, .int i4]) a = some (.lst [.ref l, .int (n + 1), .int i2, .int i3, .int i4]) := upd_same
          refine ⟨_, rfl, a, _, _, .int n, rfl, rfl, SqL.of ha, rfl, _, _, rfl, rfl, _, rfl, a, _, _, 1, rfl, rfl, ha, rfl, ?_⟩
          have n2 := n1.putM (o := .lst [.ref l, .int (n + 1), .int i2, .int 4, .int i4]) rfl ga
          refine ⟨_, rfl, a, _, _, 3, rfl, rfl, h1, rfl, ?_⟩
          have h2 : upd (upd H0 a (.lst [.ref l, .int (n + 1), .int i2, .int i3, .int i4])) a (.lst [.ref l, .int (n + 1), .int i2, .int 4, .int i4]) a = some (.lst [.ref l, .int (n + 1), .int i2, .int 4, .int i4]) := upd_same
          refine ⟨_, rfl, _, _, rfl, rfl, ⟨by decide, by decide, by decide⟩, _, _, rfl, rfl, _, rfl, ite2 (fun c => ?_) fun c => ?_⟩
          · have n3 := n2.putM (o := .lst [.ref l, .int (n + 1), .int cell, .int 4, .int i4]) rfl ga
            have h3 : upd (upd (upd H0 a (.lst [.ref l, .int (n + 1), .int i2, .int i3, .int i4])) a (.lst [.ref l, .int (n + 1), .int i2, .int 4, .int i4])) a (.lst [.ref l, .int (n + 1), .int cell, .int 4, .int i4]) a = some (.lst [.ref l, .int (n + 1), .int cell, .int 4, .int i4]) := upd_same
            have n4 := n3.putM (o := .lst [.ref l, .int (n + 1), .int cell, .int 60, .int i4]) rfl ga
            refine ⟨_, rfl, _, rfl, a, _, _, 2, rfl, rfl, h2, rfl, _, rfl, a, _, _, 3, rfl, rfl, h3, rfl, ?_⟩
            exact ⟨some (.int cell), n + 1, cell, 60, i4, rfl, n4, upd_same, by omega, pc, p4, q4⟩
          · refine ⟨_, rfl, a, _, _, .int i4, rfl, rfl, SqL.of h2, rfl, _, _, rfl, rfl, mulx_ok (a := 40) (b := 20) (by omega) (by decide) (by decide), _, rfl, _, _, rfl, rfl, _, rfl, a, _, _, .int (n + 1), rfl, rfl, SqL.of h2, rfl, _, _, rfl, rfl, .inl ⟨_, rfl, _, _, rfl, rfl, (show (0 : Int) < 2147483647 by decide), _, rfl, a, _, _, 4, rfl, rfl, h2, rfl, ?_⟩⟩
            have n3 := n2.putM (o := .lst [.ref l, .int (n + 1), .int i2, .int 4, .int ((i4 * 48271 + cell + (n + 1)) % 2147483647)]) rfl ga
            have b1 := Int.emod_nonneg (i4 * 48271 + cell + (n + 1)) (show (2147483647 : Int) ≠ 0 by decide)
            have b2 := Int.emod_lt_of_pos (i4 * 48271 + cell + (n + 1)) (show (0 : Int) < 2147483647 by decide)
            exact ⟨some (.int cell), n + 1, i2, 4, _, rfl, n3, upd_same, by omega, p2, b1, b2⟩
        · exact ⟨none, i1, i2, i3, i4, rfl, n0, ha, p1, p2, p4, q4⟩
      · exact ⟨none, i1, i2, i3, i4, rfl, n0, ha, p1, p2, p4, q4⟩
    · rintro σ H1 ⟨z, i1, i2, i3, i4, rfl, n1, ha1, p1, p2, p4, q4⟩
      refine ⟨_, rfl, a, _, _, .int i2, rfl, rfl, SqL.of ha1, rfl, _, _, rfl, rfl, _, rfl, ite2 (fun c => ?_) fun c => ?_⟩
      · have c : 0 < i2 := of_decide_eq_true c
        refine ⟨_, rfl, a, _, _, .int i2, rfl, rfl, SqL.of ha1, rfl, .inl ⟨i2, rfl, _, rfl, _, _, rfl, rfl, m1, ?_⟩⟩
        have r0 := Int.emod_nonneg i2 (show m ≠ 0 by omega)
        have r1 := Int.emod_lt_of_pos i2 m1
        have n2 := n1.putM (o := .lst [.ref l, .int i1, .int (i2 / m), .int i3, .int i4]) rfl ga
        have d0 : 0 ≤ i2 / m := Int.ediv_nonneg p2 (by omega)
        have h2 : upd H1 a (.lst [.ref l, .int i1, .int (i2 / m), .int i3, .int i4]) a = some (.lst [.ref l, .int i1, .int (i2 / m), .int i3, .int i4]) := upd_same
        refine ⟨_, rfl, a, _, _, .int i2, rfl, rfl, SqL.of ha1, rfl, _, rfl, _, _, rfl, rfl, wide_div (b := 200) m1 bm (by decide) (by decide), _, rfl, a, _, _, 2, rfl, rfl, ha1, rfl, ?_⟩
        have n3 := n2.putM (o := .lst [.ref l, .int i1, .int (i2 / m), .int (i3 - 1), .int i4]) rfl ga
        have h3 : upd (upd H1 a (.lst [.ref l, .int i1, .int (i2 / m), .int i3, .int i4])) a (.lst [.ref l, .int i1, .int (i2 / m), .int (i3 - 1), .int i4]) a = some (.lst [.ref l, .int i1, .int (i2 / m), .int (i3 - 1), .int i4]) := upd_same
        refine ⟨_, rfl, a, _, _, .int i3, rfl, rfl, SqL.of h2, rfl, _, _, rfl, rfl, _, rfl, a, _, _, 3, rfl, rfl, h2, rfl, ?_⟩
        have fin : ∀ (x y : Int), 0 ≤ x → ∀ H', Nw (fun c => c = a) G H0 G H' → H' a = some (.lst [.ref l, .int i1, .int x, .int y, .int i4]) → Q (.int (i2 % m)) H' := fun x y hx H' n h => k _ _ r0 r1 n ⟨ga, l, ns, i1, x, y, i4, h, hl, ll, p1, hx, p4, q4⟩
        have n4 := n3.putM (o := .lst [.ref l, .int i1, .int 0, .int (i3 - 1), .int i4]) rfl ga
        have h4 : upd (upd (upd H1 a (.lst [.ref l, .int i1, .int (i2 / m), .int i3, .int i4])) a (.lst [.ref l, .int i1, .int (i2 / m), .int (i3 - 1), .int i4])) a (.lst [.ref l, .int i1, .int 0, .int (i3 - 1), .int i4]) a = some (.lst [.ref l, .int i1, .int 0, .int (i3 - 1), .int i4]) := upd_same
        have n5 := n4.putM (o := .lst [.ref l, .int i1, .int 0, .int 0, .int i4]) rfl ga
        refine ⟨_, rfl, a, _, _, .int (i2 / m), rfl, rfl, SqL.of h3, rfl, rfl, _, rfl, ite2 (fun c => ?_) fun c => ?_⟩
        · refine ⟨_, rfl, a, _, _, 2, rfl, rfl, h3, rfl, _, rfl, a, _, _, 3, rfl, rfl, h4, rfl, _, rfl, ?_⟩
          exact fin 0 0 (Int.le_refl _) _ n5 upd_same
        · refine ⟨_, rfl, a, _, _, .int (i3 - 1), rfl, rfl, SqL.of h3, rfl, rfl, _, rfl, ite2 (fun c => ?_) fun c => ?_⟩
          · refine ⟨_, rfl, a, _, _, 2, rfl, rfl, h3, rfl, _, rfl, a, _, _, 3, rfl, rfl, h4, rfl, _, rfl, ?_⟩
            exact fin 0 0 (Int.le_refl _) _ n5 upd_same
          · exact ⟨_, rfl, fin _ _ d0 _ n3 h3⟩
      · have n2 := n1.putM (o := .lst [.ref l, .int i1, .int i2, .int (if i3 - 1 > 0 then i3 - 1 else 0), .int i4]) rfl ga
        have h2 : upd H1 a (.lst [.ref l, .int i1, .int i2, .int (if i3 - 1 > 0 then i3 - 1 else 0), .int i4]) a = some (.lst [.ref l, .int i1, .int i2, .int (if i3 - 1 > 0 then i3 - 1 else 0), .int i4]) := upd_same
        refine ⟨_, rfl, a, _, _, .int i3, rfl, rfl, SqL.of ha1, rfl, _, _, rfl, rfl, 0, i3 - 1, rfl, _, rfl, a, _, _, 3, rfl, rfl, ha1, rfl, ?_⟩
        have b1 := Int.emod_nonneg (i4 * 48271 + 12345) (show (2147483647 : Int) ≠ 0 by decide)
        have b2 := Int.emod_lt_of_pos (i4 * 48271 + 12345) (show (0 : Int) < 2147483647 by decide)
        have n3 := n2.putM (o := .lst [.ref l, .int i1, .int i2, .int (if i3 - 1 > 0 then i3 - 1 else 0), .int ((i4 * 48271 + 12345) % 2147483647)]) rfl ga
        have h3 : upd (upd H1 a (.lst [.ref l, .int i1, .int i2, .int (if i3 - 1 > 0 then i3 - 1 else 0), .int i4])) a (.lst [.ref l, .int i1, .int i2, .int (if i3 - 1 > 0 then i3 - 1 else 0), .int ((i4 * 48271 + 12345) % 2147483647)]) a = some (.lst [.ref l, .int i1, .int i2, .int (if i3 - 1 > 0 then i3 - 1 else 0), .int ((i4 * 48271 + 12345) % 2147483647)]) := upd_same
        refine ⟨_, rfl, a, _, _, .int i4, rfl, rfl, SqL.of h2, rfl, _, _, rfl, rfl, mulx_ok (a := 40) (b := 20) (by omega) (by decide) (by decide), _, _, rfl, rfl, .inl ⟨_, rfl, _, _, rfl, rfl, (show (0 : Int) < 2147483647 by decide), _, rfl, a, _, _, 4, rfl, rfl, h2, rfl, ?_⟩⟩
        refine ⟨_, rfl, a, _, _, .int ((i4 * 48271 + 12345) % 2147483647), rfl, rfl, SqL.of h3, rfl, _, _, rfl, rfl, mulx_ok (a := 40) (b := 20) (by omega) (by decide) (by decide), _, _, rfl, rfl, .inl ⟨_, rfl, _, _, rfl, rfl, (show (0 : Int) < 2147483399 by decide), .inl ⟨_, rfl, _, rfl, _, _, rfl, rfl, m1, ?_⟩⟩⟩
        exact k _ _ (Int.emod_nonneg _ (by omega)) (Int.emod_lt_of_pos _ m1) n3 ⟨ga, l, ns, i1, i2, _, _, h3, hl, ll, p1, p2, b1, b2⟩
end
end Mk

-- N3
set_option Elab.async false
set_option linter.all false
set_option maxRecDepth 100000
set_option maxHeartbeats 4000000
set_option exponentiation.threshold 20000
namespace Mk
open PySem PySem.Spec PyProof.Rows L2
open C8 (InsC call_isC)
section
variable {P : Program} {w : World} {K : PySem.W.Frag} {mg : Str → Option Value} {base : Heap}
def spWide : Sp := fun vs H Q _ => ∃ (G : Hp) (a : Addr), vs = [.ref a] ∧ Same G H ∧ StAt G H a ∧ ∀ r H', 0 ≤ r → r < 10 ^ 40 → Nw (fun c => c = a) G H G H' → StAt G H' a → Q (.int r) H'
theorem sc__law_wide : FnScope ["_law_state", "_law_number", "_law_k", "_law_limit"] ["_law_state"] (defScope s__law_wide) := ⟨rfl, rfl, rfl, by decide +kernel, rfl, by decide +kernel, by decide +kernel⟩
theorem ok__law_wide (T : Tx K mg) : Ok P w K mg base 2 (He.ga K "_law_wide") ["_law_state"] spWide := by
  refine ok_mk (f__law_wide T) (df_kp (f__law_wide T)) sc__law_wide (fun _ _ _ _ _ _ us hl => match us, hl with | [_], _ => rfl) (fun vs H Q E h => ?_) (fun cdv A outer s H vs Q E hr h => ?_)
  · obtain ⟨G, a, rfl, _⟩ := h
    rfl
  · obtain ⟨G, a, rfl, sm, st, k⟩ := h
    refine ⟨_, (pss_cons (ps_set (i := 1) sc__law_wide.nd rfl (Or.inl rfl) pe_int)
      (pss_cons (ps_for PassesOwn.never rfl (pi_range1 (by rfl) (b_range T) (pa_cons pe_int pa_nil)) (pg_name (i := 2) sc__law_wide.nd rfl (Or.inl rfl))
      (pss_one (ps_set (i := 1) sc__law_wide.nd rfl (Or.inl rfl) (pe_op op_add (pe_op op_mulX (pv 1) (pe_op op_pow pe_int pe_int)) (pe_c (ok__law_draw T) (hr.mono (by decide)) rfl (g__law_draw T) (pa_cons (pv 0) (pa_cons (pe_op op_pow pe_int pe_int) pa_nil)))))))
      (pss_cons (ps_set (i := 3) sc__law_wide.nd rfl (Or.inl rfl) pe_int)
      (pss_cons (ps_for PassesOwn.never rfl (pi_range1 (by rfl) (b_range T) (pa_cons (pe_c (ok__law_draw T) (hr.mono (by decide)) rfl (g__law_draw T) (pa_cons (pv 0) (pa_cons pe_int pa_nil))) pa_nil)) (pg_name (i := 2) sc__law_wide.nd rfl (Or.inl rfl))
      (pss_one (ps_set (i := 3) sc__law_wide.nd rfl (Or.inl rfl) (pe_op op_mulX (pv 3) pe_int))))
      (pss_one (ps_ret (pe_op op_mod (pe_callTy call_int1 (by rfl) (b_int T) (by decide +kernel) (pa_cons (pv 1) pa_nil)) (pv 3)))))))), ?_⟩
    refine ⟨_, rfl, by decide, by decide, ?_⟩
    have wk : Walk (Itr 0 ((5 : Int)).toNat) 5 (fun _ => True) (YFn fun i => .int (0 + (i : Nat))) := walk_range
    refine for_it wk (fun i σ H' => ∃ (z : Option V) (x : Int), σ = [some (.ref a), some (.int x), z, none] ∧ Nw (fun c => c = a) G H G H' ∧ StAt G H' a ∧ 0 ≤ x ∧ x < 2 ^ (32 * i))
      ⟨none, 0, rfl, Nw.refl sm, st, by decide, by decide⟩ (fun _ _ _ _ _ => trivial) ?_ ?_
    · rintro i v σ H1 H2 hi ⟨z, x, rfl, n1, st1, x0, x1⟩ ⟨rfl, rfl⟩
      have xb : x.natAbs < 2 ^ 200 := by
        have h1 : x < 2 ^ 128 := Int.lt_of_lt_of_le x1 (by
          have : i = 0 ∨ i = 1 ∨ i = 2 ∨ i = 3 ∨ i = 4 := by omega
          rcases this with rfl | rfl | rfl | rfl | rfl <;> decide)
        omega
      refine ⟨_, rfl, _, _, rfl, rfl, ⟨by decide, by decide, by decide⟩, _, _, rfl, rfl, mulx_ok (b := 40) xb (by decide) (by decide), ?_⟩
      refine ⟨_, rfl, _, _, rfl, rfl, ⟨by decide, by decide, by decide⟩, G, a, _, rfl, n1.gh, st1, by decide, fun r H3 r0 r1 n3 st3 => ?_⟩
      have r1 : r < 1000000000 := r1
      refine ⟨_, _, rfl, rfl, some _, _, rfl, n1.trans n3, st3, ?_, ?_⟩
      · show 0 ≤ x * 1000000000 + r
        omega
      · show x * 1000000000 + r < _
        rw [Nat.mul_add, Int.pow_add]
        generalize (2 : Int) ^ (32 * i) = p at x1
        show _ < p * 4294967296
        omega
    · rintro σ H1 ⟨z, x, rfl, n1, st1, x0, x1⟩
      have xb : x.natAbs < 2 ^ 200 := by
        have h1 : x < 2 ^ 160 := x1
        omega
      refine ⟨_, rfl, G, a, _, rfl, n1.gh, st1, by decide, fun d H2 d0 d1 n2 st2 => ?_⟩
      have d1 : d < 41 := d1
      obtain ⟨n, rfl⟩ := Int.eq_ofNat_of_zero_le d0
      have n12 := n1.trans n2
      refine ⟨_, rfl, by omega, by omega, ?_⟩
      have wk2 : Walk (Itr 0 ((n : Int)).toNat) n (fun _ => True) (YFn fun i => .int (0 + (i : Nat))) := by rw [Int.toNat_natCast]; exact walk_range
      refine for_it wk2 (fun i σ H' => ∃ (z : Option V), σ = [some (.ref a), some (.int x), z, some (.int (10 ^ i))] ∧ H' = H2)
        ⟨z, rfl, rfl⟩ (fun _ _ _ _ _ => trivial) ?_ ?_
      · rintro i v σ H3 H4 hi ⟨z', rfl, rfl⟩ ⟨rfl, rfl⟩
        have pb : ((10 : Int) ^ i).natAbs < 2 ^ 200 := by
          rw [Int.natAbs_pow]
          exact Nat.lt_of_le_of_lt (Nat.pow_le_pow_right (by decide) (show i ≤ 40 by omega)) (by decide)
        refine ⟨_, rfl, _, _, rfl, rfl, mulx_ok (b := 10) pb (by decide) (by decide), some (.int (0 + (i : Nat))), ?_, rfl⟩
        rw [Int.pow_succ]
        rfl
      · rintro σ H3 ⟨z', rfl, rfl⟩
        have pp : (0 : Int) < 10 ^ n := Int.pow_pos (by decide)
        refine ⟨_, rfl, .inl ⟨_, rfl, _, rfl, _, _, rfl, rfl, pp, ?_⟩⟩
        refine k _ _ (Int.emod_nonneg _ (by omega)) (Int.lt_of_lt_of_le (Int.emod_lt_of_pos _ pp) ?_) n12 st2
        have : (10 : Nat) ^ n ≤ 10 ^ 40 := Nat.pow_le_pow_right (by decide) (by omega)
        exact_mod_cast this
end
end Mk

-- N4
set_option Elab.async false
set_option linter.all false
set_option maxRecDepth 100000
set_option maxHeartbeats 4000000
set_option exponentiation.threshold 20000
namespace Mk
open PySem PySem.Spec PyProof.Rows L2
open C8 (InsC call_isC)
section
variable {P : Program} {w : World} {K : PySem.W.Frag} {mg : Str → Option Value} {base : Heap}
/-- a text of 94 signs -/
def spSgn : Sp := fun vs H Q _ => vs = [] ∧ ∀ z : Str, z.length = 94 → Q (.str z) H
theorem sc__law_signs : FnScope [] [] (defScope s__law_signs) := ⟨rfl, rfl, rfl, by decide +kernel, rfl, by decide +kernel, by decide +kernel⟩
theorem ok__law_signs (T : Tx K mg) : Ok P w K mg base 1 (He.ga K "_law_signs") [] spSgn := by
  refine ok_mk (f__law_signs T) (df_kp (f__law_signs T)) sc__law_signs (fun _ _ _ _ _ _ us hl => match us, hl with | [], _ => rfl) (fun vs H Q E h => ?_) (fun cdv A outer s H vs Q E hr h => ?_)
  · obtain ⟨rfl, _⟩ := h
    rfl
  · obtain ⟨rfl, k⟩ := h
    refine ⟨_, (pss_one (ps_ret pe_str)), ?_⟩
    exact k _ (by decide +kernel)
def spWt : Sp := fun vs H Q _ => ∃ (G : Hp) (a : Addr) (kd : Int), vs = [.ref a, .int kd] ∧ Same G H ∧ StAt G H a ∧ ∀ r H', 1 ≤ r → r < 10 ^ 40 → Nw (fun c => c = a) G H G H' → StAt G H' a → Q (.int r) H'
theorem sc__law_weight : FnScope ["_law_state", "_law_kind"] ["_law_state", "_law_kind"] (defScope s__law_weight) := ⟨rfl, rfl, rfl, by decide +kernel, rfl, by decide +kernel, by decide +kernel⟩
theorem ok__law_weight (T : Tx K mg) : Ok P w K mg base 3 (He.ga K "_law_weight") ["_law_state", "_law_kind"] spWt := by
  refine ok_mk (f__law_weight T) (df_kp (f__law_weight T)) sc__law_weight (fun _ _ _ _ _ _ us hl => match us, hl with | [_, _], _ => rfl) (fun vs H Q E h => ?_) (fun cdv A outer s H vs Q E hr h => ?_)
  · obtain ⟨G, a, kd, rfl, _⟩ := h
    rfl
  · obtain ⟨G, a, kd, rfl, sm, st, k⟩ := h
    refine ⟨_, (pss_cons (ps_if (pt_cmpR op_lt (pv 1) pe_int (nomark _))
        (pss_one (ps_ret (pe_op op_add pe_int (pe_c (ok__law_draw T) (hr.mono (by decide)) rfl (g__law_draw T) (pa_cons (pv 0) (pa_cons pe_int pa_nil))))))
        pss_nil)
      (pss_cons (ps_if (pt_cmpR op_lt (pv 1) pe_int (nomark _))
        (pss_one (ps_ret (pe_op op_add pe_int (pe_c (ok__law_draw T) (hr.mono (by decide)) rfl (g__law_draw T) (pa_cons (pv 0) (pa_cons pe_int pa_nil))))))
        pss_nil)
      (pss_cons (ps_if (pt_cmpR op_eq (pv 1) pe_int (nomark _))
        (pss_one (ps_ret (pe_op op_add pe_int (pe_op op_mulX pe_int (pe_c (ok__law_draw T) (hr.mono (by decide)) rfl (g__law_draw T) (pa_cons (pv 0) (pa_cons pe_int pa_nil)))))))
        pss_nil)
      (pss_one (ps_ret (pe_callB (call_max2 rfl) (by rfl) (b_max T) (by decide +kernel) (pa_cons pe_int (pa_cons (pe_c (ok__law_wide T) (hr.mono (by decide)) rfl (g__law_wide T) (pa_cons (pv 0) pa_nil)) pa_nil)))))))), ?_⟩
    refine ⟨_, rfl, _, _, rfl, rfl, _, rfl, ite2 (fun c => ?_) fun c => ?_⟩
    · refine ⟨_, rfl, G, a, _, rfl, sm, st, by decide, fun r H1 r0 r1 n1 st1 => ⟨_, _, rfl, rfl, ?_⟩⟩
      have r1 : r < 4 := r1
      exact k _ _ (by omega) (by omega) n1 st1
    refine ⟨_, rfl, _, _, rfl, rfl, _, rfl, ite2 (fun c => ?_) fun c => ?_⟩
    · refine ⟨_, rfl, G, a, _, rfl, sm, st, by decide, fun r H1 r0 r1 n1 st1 => ⟨_, _, rfl, rfl, ?_⟩⟩
      have r1 : r < 20 := r1
      exact k _ _ (by omega) (by omega) n1 st1
    refine ⟨_, rfl, rfl, _, rfl, ite2 (fun c => ?_) fun c => ?_⟩
    · refine ⟨_, rfl, G, a, _, rfl, sm, st, by decide, fun r H1 r0 r1 n1 st1 => ?_⟩
      have r1 : r < 6 := r1
      refine ⟨_, _, rfl, rfl, mulx_ok (a := 10) (b := 10) (by decide) (by omega) (by decide), _, _, rfl, rfl, ?_⟩
      exact k _ _ (by omega) (by omega) n1 st1
    · refine ⟨_, rfl, G, a, rfl, sm, st, fun r H1 r0 r1 n1 st1 => ⟨1, r, rfl, ?_⟩⟩
      refine k _ _ ?_ ?_ n1 st1
      · split <;> omega
      · split
        · exact r1
        · decide
end
end Mk

-- N5
set_option Elab.async false
set_option linter.all false
set_option maxRecDepth 100000
set_option maxHeartbeats 4000000
set_option exponentiation.threshold 20000
namespace Mk
open PySem PySem.Spec PyProof.Rows L2
open C8 (InsC call_isC)
section
variable {P : Program} {w : World} {K : PySem.W.Frag} {mg : Str → Option Value} {base : Heap}
def spTxt : Sp := fun vs H Q _ => ∃ (G : Hp) (a : Addr) (most : Int), vs = [.ref a, .int most] ∧ Same G H ∧ StAt G H a ∧ 0 ≤ most ∧ most ≤ 10 ∧ ∀ (z : Str) H', z.length ≤ 10 → Nw (fun c => c = a) G H G H' → StAt G H' a → Q (.str z) H'
theorem sc__law_text : FnScope ["_law_state", "_law_most", "_law_kind", "_law_size", "_law_signs_here", "_law_text_here", "_law_k"] ["_law_state", "_law_most"] (defScope s__law_text) := ⟨rfl, rfl, rfl, by decide +kernel, rfl, by decide +kernel, by decide +kernel⟩
theorem ok__law_text (T : Tx K mg) : Ok P w K mg base 2 (He.ga K "_law_text") ["_law_state", "_law_most"] spTxt := by
  refine ok_mk (f__law_text T) (df_kp (f__law_text T)) sc__law_text (fun _ _ _ _ _ _ us hl => match us, hl with | [_, _], _ => rfl) (fun vs H Q E h => ?_) (fun cdv A outer s H vs Q E hr h => ?_)
  · obtain ⟨G, a, most, rfl, _⟩ := h
    rfl
  · obtain ⟨G, a, most, rfl, sm, st, m0, m1, k⟩ := h
    refine ⟨_, (pss_cons (ps_set (i := 2) sc__law_text.nd rfl (Or.inl rfl) (pe_c (ok__law_draw T) (hr.mono (by decide)) rfl (g__law_draw T) (pa_cons (pv 0) (pa_cons pe_int pa_nil))))
      (pss_cons (ps_set (i := 3) sc__law_text.nd rfl (Or.inl rfl) (pe_c (ok__law_draw T) (hr.mono (by decide)) rfl (g__law_draw T) (pa_cons (pv 0) (pa_cons pe_int pa_nil))))
      (pss_cons (ps_set (i := 4) sc__law_text.nd rfl (Or.inl rfl) pe_str)
      (C8.pss_cut (ps_if (pt_cmpR op_eq (pv 2) pe_int (nomark _))
        (pss_one (ps_set (i := 4) sc__law_text.nd rfl (Or.inl rfl) pe_str))
        pss_nil)
      (C8.pss_cut (ps_if (pt_cmpR op_eq (pv 2) pe_int (nomark _))
        (pss_cons (ps_set (i := 4) sc__law_text.nd rfl (Or.inl rfl) (pe_c0 (ok__law_signs T) (hr.mono (by decide)) rfl (g__law_signs T)))
      (pss_one (ps_set (i := 3) sc__law_text.nd rfl (Or.inl rfl) (pe_c (ok__law_draw T) (hr.mono (by decide)) rfl (g__law_draw T) (pa_cons (pv 0) (pa_cons (pe_op op_add (pv 1) pe_int) pa_nil))))))
        pss_nil)
      (pss_cons (ps_set (i := 5) sc__law_text.nd rfl (Or.inl rfl) pe_str)
      (pss_cons (ps_for PassesOwn.never rfl (pi_range1 (by rfl) (b_range T) (pa_cons (pe_callB (call_min2 rfl) (by rfl) (b_min T) (by decide +kernel) (pa_cons (pv 3) (pa_cons (pv 1) pa_nil))) pa_nil)) (pg_name (i := 6) sc__law_text.nd rfl (Or.inl rfl))
      (pss_one (ps_set (i := 5) sc__law_text.nd rfl (Or.inl rfl) (pe_op op_add_str (pv 5) (pe_ix ix_str (pv 4) (pe_c (ok__law_draw T) (hr.mono (by decide)) rfl (g__law_draw T) (pa_cons (pv 0) (pa_cons (pe_callB call_len_str (by rfl) (b_len T) (by decide +kernel) (pa_cons (pv 4) pa_nil)) pa_nil))) (fun _ _ => rfl))))))
      (pss_one (ps_ret (pv 5)))))))))), ?_⟩
    refine ⟨_, rfl, G, a, _, rfl, sm, st, by decide, fun kd H1 k0 k1 n1 st1 => ?_⟩
    refine ⟨_, rfl, G, a, _, rfl, n1.gh, st1, by decide, fun sz H2 s0 s1 n2 st2 => ?_⟩
    have n12 := n1.trans n2
    refine ⟨fun σ H' => ∃ sg : Str, σ = [some (.ref a), some (.int most), some (.int kd), some (.int sz), some (.str sg), none, none] ∧ H' = H2 ∧ 0 < sg.length ∧ sg.length ≤ 94, ⟨_, rfl, rfl, _, rfl, ite2 (fun c => ?_) fun c => ?_⟩, ?_⟩
    · exact ⟨_, rfl, rfl, by decide +kernel, by decide +kernel⟩
    · exact ⟨_, rfl, rfl, by decide +kernel, by decide +kernel⟩
    rintro σ H3 ⟨sg, rfl, rfl, g0, g1⟩
    refine ⟨fun σ H' => ∃ (sg : Str) (sz : Int), σ = [some (.ref a), some (.int most), some (.int kd), some (.int sz), some (.str sg), none, none] ∧ Nw (fun c => c = a) G H G H' ∧ StAt G H' a ∧ 0 ≤ sz ∧ 0 < sg.length ∧ sg.length ≤ 94, ⟨_, rfl, rfl, _, rfl, ite2 (fun c => ?_) fun c => ?_⟩, ?_⟩
    · refine ⟨rfl, fun z hz => ?_⟩
      refine ⟨_, rfl, _, rfl, _, _, rfl, rfl, G, a, _, rfl, n12.gh, st2, by omega, fun r H4 r0 r1 n3 st3 => ?_⟩
      exact ⟨z, r, rfl, n12.trans n3, st3, r0, by omega, by omega⟩
    · exact ⟨sg, sz, rfl, n12, st2, s0, g0, g1⟩
    rintro σ H4 ⟨sg, sz, rfl, n3, st3, z0, g0, g1⟩
    have t0 : 0 ≤ (if most < sz then most else sz) := by split <;> omega
    have t1 : (if most < sz then most else sz) ≤ 10 := by split <;> omega
    refine ⟨_, rfl, _, rfl, sz, most, rfl, ?_⟩
    obtain ⟨n, hn⟩ := Int.eq_ofNat_of_zero_le t0
    rw [hn] at t1 ⊢
    refine ⟨_, rfl, by omega, by omega, ?_⟩
    have wk : Walk (Itr 0 ((n : Int)).toNat) n (fun _ => True) (YFn fun i => .int (0 + (i : Nat))) := by rw [Int.toNat_natCast]; exact walk_range
    refine for_it wk (fun i σ H' => ∃ (z : Option V) (t : Str), σ = [some (.ref a), some (.int most), some (.int kd), some (.int sz), some (.str sg), some (.str t), z] ∧ Nw (fun c => c = a) G H G H' ∧ StAt G H' a ∧ t.length ≤ i)
      ⟨none, _, rfl, n3, st3, by decide⟩ (fun _ _ _ _ _ => trivial) ?_ ?_
    · rintro i v σ H5 H6 hi ⟨z, t, rfl, n4, st4, tl⟩ ⟨rfl, rfl⟩
      refine ⟨_, rfl, _, rfl, _, rfl, _, rfl, sg, rfl, by rw [sizeLine_eq]; omega, G, a, _, rfl, n4.gh, st4, by omega, fun r H7 r0 r1 n5 st5 => ?_⟩
      have r1 : r < sg.length := by
        revert r1
        split <;> intro r1 <;> omega
      obtain ⟨j, rfl⟩ := Int.eq_ofNat_of_zero_le r0
      have hj : j < sg.cps.toList.length := by
        show j < sg.cps.toList.length
        rw [Array.length_toList]
        have : sg.length = sg.cps.size := rfl
        omega
      refine ⟨sg, _, _, rfl, rfl, by rw [sizeLine_eq]; omega, by rw [at_nat hj]; exact List.getElem?_eq_getElem hj, ?_⟩
      refine ⟨t, _, rfl, rfl, ?_, ?_⟩
      · rw [sizeLine_eq]
        show t.length + 1 ≤ _
        omega
      · refine ⟨_, _, rfl, n4.trans n5, st5, ?_⟩
        have tl : t.cps.size ≤ i := tl
        show (t.cps ++ #[_]).size ≤ i + 1
        rw [Array.size_append]
        show t.cps.size + 1 ≤ i + 1
        omega
    · rintro σ H5 ⟨z, t, rfl, n4, st4, tl⟩
      exact ⟨_, rfl, k t _ (by omega) n4 st4⟩
end
end Mk

-- N6
set_option Elab.async false
set_option linter.all false
set_option maxRecDepth 100000
set_option maxHeartbeats 4000000
set_option exponentiation.threshold 20000
namespace Mk
open PySem PySem.Spec PyProof.Rows L2
open C8 (InsC call_isC)
section
variable {P : Program} {w : World} {K : PySem.W.Frag} {mg : Str → Option Value} {base : Heap}
theorem StAt.mono {G G' H : Hp} {a : Addr} (s : Same G G') (h : StAt G H a) (g : G' a = none) : StAt G' H a := by
  obtain ⟨_, l, ns, i1, i2, i3, i4, h1, h2, h3⟩ := h
  exact ⟨g, l, ns, i1, i2, i3, i4, h1, s _ _ h2, h3⟩
theorem StAt.new {G H : Hp} {a p : Addr} {o : HO} (h : StAt G H a) (hp : H p = none) : StAt G (upd H p o) a := by
  obtain ⟨g, l, ns, i1, i2, i3, i4, h1, h2⟩ := h
  exact ⟨g, l, ns, i1, i2, i3, i4, get_new h1 hp, h2⟩
theorem StAt.put {G H : Hp} {a p : Addr} {o : HO} (h : StAt G H a) (hp : p ≠ a) : StAt G (upd H p o) a := by
  obtain ⟨g, l, ns, i1, i2, i3, i4, h1, h2⟩ := h
  exact ⟨g, l, ns, i1, i2, i3, i4, by rw [upd_ne (Ne.symm hp)]; exact h1, h2⟩
theorem slen (x y : Str) : (x ++ y).length = x.length + y.length := Array.size_append ..
/-- a call that draws at a, and gives r -/
def RetS {α : Type} (a : Addr) (G H : Hp) (R : Rep α) (r : α) (Q : VK) : Prop := ∀ v G' H', Nw (fun c => c = a) G H G' H' → R G' v r → StAt G' H' a → Q v H'
def spTxs : Sp := fun vs H Q _ => ∃ (G : Hp) (a : Addr) (many : Int), vs = [.ref a, .int many, .int 10] ∧ Same G H ∧ StAt G H a ∧ 0 ≤ many ∧ many ≤ 8 ∧ ∀ ts : List Str, ts.Nodup → (ts.length : Int) ≤ many → (0 < many → ts ≠ []) → RetS a G H (rLf V.str) ts Q
theorem sc__law_texts : FnScope ["_law_state", "_law_many", "_law_most", "_law_one_place", "_law_base", "_law_place", "_law_found", "_law_k", "_law_text_here"] ["_law_state", "_law_many", "_law_most"] (defScope s__law_texts) := ⟨rfl, rfl, rfl, by decide +kernel, rfl, by decide +kernel, by decide +kernel⟩
theorem ok__law_texts (T : Tx K mg) : Ok P w K mg base 3 (He.ga K "_law_texts") ["_law_state", "_law_many", "_law_most"] spTxs := by
  refine ok_mk (f__law_texts T) (df_kp (f__law_texts T)) sc__law_texts (fun _ _ _ _ _ _ us hl => match us, hl with | [_, _, _], _ => rfl) (fun vs H Q E h => ?_) (fun cdv A outer s H vs Q E hr h => ?_)
  · obtain ⟨G, a, many, rfl, _⟩ := h
    rfl
  · obtain ⟨G, a, many, rfl, sm, st, m0, m1, k⟩ := h
    refine ⟨_, (pss_cons (ps_set (i := 3) sc__law_texts.nd rfl (Or.inl rfl) (pe_cmpR op_eq (pe_c (ok__law_draw T) (hr.mono (by decide)) rfl (g__law_draw T) (pa_cons (pv 0) (pa_cons pe_int pa_nil))) pe_int (nomark _)))
      (pss_cons (ps_set (i := 4) sc__law_texts.nd rfl (Or.inl rfl) (pe_c (ok__law_text T) (hr.mono (by decide)) rfl (g__law_text T) (pa_cons (pv 0) (pa_cons (pe_op op_sub (pv 2) pe_int) pa_nil))))
      (pss_cons (ps_set (i := 5) sc__law_texts.nd rfl (Or.inl rfl) (pe_c (ok__law_draw T) (hr.mono (by decide)) rfl (g__law_draw T) (pa_cons (pv 0) (pa_cons (pe_op op_add (pe_callB call_len_str (by rfl) (b_len T) (by decide +kernel) (pa_cons (pv 4) pa_nil)) pe_int) pa_nil))))
      (pss_cons (ps_set (i := 6) sc__law_texts.nd rfl (Or.inl rfl) (pe_lst pa_nil))
      (pss_cons (ps_for PassesOwn.never rfl (pi_range1 (by rfl) (b_range T) (pa_cons (pv 1) pa_nil)) (pg_name (i := 7) sc__law_texts.nd rfl (Or.inl rfl))
      (C8.pss_cut (ps_if (pt_val (pv 3))
        (pss_one (ps_set (i := 8) sc__law_texts.nd rfl (Or.inl rfl) (pe_op op_add_str (pe_op op_add_str (pe_slice sl_str (pv 4) po_none (po_some (pv 5))) (pe_ix ix_str (pe_c0 (ok__law_signs T) (hr.mono (by decide)) rfl (g__law_signs T)) (pe_c (ok__law_draw T) (hr.mono (by decide)) rfl (g__law_draw T) (pa_cons (pv 0) (pa_cons pe_int pa_nil))) (fun _ _ => rfl))) (pe_slice sl_str (pv 4) (po_some (pe_op op_add (pv 5) pe_int)) po_none))))
        (pss_one (ps_set (i := 8) sc__law_texts.nd rfl (Or.inl rfl) (pe_c (ok__law_text T) (hr.mono (by decide)) rfl (g__law_text T) (pa_cons (pv 0) (pa_cons (pv 2) pa_nil))))))
      (pss_one (ps_if (pt_cmpR op_notIn_seq (pv 8) (pv 6) (by rfl))
        (pss_one (ps_expr (pe_bm PySem.F.plainAttrs_list PySem.F.slot_list_append PySem.F.type_list_append mt_append (pv 6) (pa_cons (pv 8) pa_nil))))
        pss_nil))))
      (pss_one (ps_ret (pv 6)))))))), ?_⟩
    refine ⟨_, rfl, G, a, _, rfl, sm, st, by decide, fun r H1 r0 r1 n1 st1 => ?_⟩
    refine ⟨rfl, _, rfl, _, rfl, _, _, rfl, rfl, G, a, _, rfl, n1.gh, st1, by decide, by decide, fun bs H2 bl n2 st2 => ?_⟩
    have n12 := n1.trans n2
    refine ⟨_, rfl, _, rfl, bs, rfl, by rw [sizeLine_eq]; omega, _, _, rfl, rfl, G, a, _, rfl, n2.gh, st2, by omega, fun pl H3 p0 p1 n3 st3 => ?_⟩
    have n13 := n12.trans n3
    refine ⟨Nat.zero_le _, fun D hD => ?_⟩
    have hD0 : H D = none := n13.free hD
    have gD : G D = none := sm.free hD0
    obtain ⟨n, rfl⟩ := Int.eq_ofNat_of_zero_le m0
    refine ⟨_, rfl, _, rfl, by omega, by omega, ?_⟩
    have wk : Walk (Itr 0 ((n : Int)).toNat) n (fun _ => True) (YFn fun i => .int (0 + (i : Nat))) := by rw [Int.toNat_natCast]; exact walk_range
    obtain ⟨bb, hbb⟩ : ∃ bb, bb = decide (V.int r = V.int 0) := ⟨_, rfl⟩
    rw [← hbb]
    refine for_it wk (fun i σ H' => ∃ (z7 z8 : Option V) (ts : List Str), σ = [some (.ref a), some (.int n), some (.int 10), some (.bl bb), some (.str bs), some (.int pl), some (.ref D), z7, z8] ∧ Nw (fun c => c = a) G H G H' ∧ StAt G H' a ∧ H' D = some (.lst (ts.map V.str)) ∧ ts.Nodup ∧ ts.length ≤ i ∧ (0 < i → ts ≠ []))
      ⟨none, none, [], rfl, n13.allocH hD, st3.new hD, upd_same, List.nodup_nil, Nat.le_refl _, fun h => absurd h (by decide)⟩ (fun _ _ _ _ _ => trivial) ?_ ?_
    · rintro i v σ H4 H5 hi ⟨z7, z8, ts, rfl, n4, st4, hD4, nd, tl, tne⟩ ⟨rfl, rfl⟩
      have aD : D ≠ a := fun e => by
        obtain ⟨_, l, ns, i1, i2, i3, i4, h1, _⟩ := st
        rw [e, h1] at hD0
        cases hD0
      refine ⟨fun σ H' => ∃ (z7 : Option V) (t : Str), σ = [some (.ref a), some (.int n), some (.int 10), some (.bl bb), some (.str bs), some (.int pl), some (.ref D), z7, some (.str t)] ∧ Nw (fun c => c = a) G H G H' ∧ StAt G H' a ∧ H' D = some (.lst (ts.map V.str)), ⟨_, rfl, bb, rfl, ite2 (fun c => ?_) fun c => ?_⟩, ?_⟩
      · refine ⟨_, rfl, _, rfl, pl, rfl, bs, rfl, by rw [sizeLine_eq]; omega, rfl, fun z hz => ?_⟩
        refine ⟨_, rfl, G, a, _, rfl, n4.gh, st4, by decide, fun q H6 q0 q1 n5 st5 => ?_⟩
        have q1 : q < 94 := q1
        obtain ⟨j, rfl⟩ := Int.eq_ofNat_of_zero_le q0
        have hj : j < z.cps.toList.length := by
          rw [Array.length_toList]
          have : z.length = z.cps.size := rfl
          omega
        have c1 := cutS_length bs none (some pl)
        have c2 := cutS_length bs (some (pl + 1)) none
        refine ⟨z, _, _, rfl, rfl, by rw [sizeLine_eq]; omega, by rw [at_nat hj]; exact List.getElem?_eq_getElem hj, _, _, rfl, rfl, ?_, ?_⟩
        · rw [sizeLine_eq]
          show (cutS bs none (some pl)).length + 1 ≤ _
          omega
        refine ⟨_, rfl, _, rfl, _, _, rfl, rfl, _, rfl, bs, rfl, by rw [sizeLine_eq]; omega, _, _, rfl, rfl, ?_, ?_⟩
        · rw [sizeLine_eq, slen]
          show (cutS bs none (some pl)).length + 1 + (cutS bs (some (pl + 1)) none).length ≤ _
          omega
        · exact ⟨_, _, rfl, n4.trans n5, st5, n5.hh _ _ aD hD4⟩
      · refine ⟨_, rfl, _, rfl, G, a, _, rfl, n4.gh, st4, by decide, by decide, fun t H6 tl2 n5 st5 => ?_⟩
        exact ⟨_, t, rfl, n4.trans n5, st5, n5.hh _ _ aD hD4⟩
      · rintro σ H6 ⟨z7', t, rfl, n5, st5, hD5⟩
        refine ⟨_, rfl, _, rfl, D, _, rfl, .inl (SqL.of hD5), rfl, flat_strs ts, ?_⟩
        rw [inV_str]
        refine ⟨_, rfl, ite2 (fun c => ?_) fun c => ?_⟩
        · have c : t ∉ ts := by simpa using c
          refine ⟨_, rfl, tyL hD5, _, rfl, D, ts.map V.str, _, rfl, rfl, hD5, by rw [List.length_map, sizeLine_eq]; omega, ?_⟩
          refine ⟨_, _, ts ++ [t], rfl, n5.putH hD0 gD, st5.put aD, ?_, ?_, by rw [List.length_append, List.length_singleton]; omega, fun _ e => by simp at e⟩
          · rw [List.map_append]
            exact upd_same
          · exact List.nodup_append.mpr ⟨nd, by simp, fun x hx y hy e => c (by rw [← List.mem_singleton.mp hy, ← e]; exact hx)⟩
        · have c : t ∈ ts := by simpa using c
          exact ⟨_, _, ts, rfl, n5, st5, hD5, nd, by omega, fun _ e => by rw [e] at c; cases c⟩
    · rintro σ H4 ⟨z7, z8, ts, rfl, n4, st4, hD4, nd, tl, tne⟩
      have aD : D ≠ a := fun e => by
        obtain ⟨_, l, ns, i1, i2, i3, i4, h1, _⟩ := st
        rw [e, h1] at hD0
        cases hD0
      have g4 : upd G D (.lst (ts.map V.str)) a = none := by rw [upd_ne (Ne.symm aD)]; exact st4.1
      have n5 := n4.frz hD0 hD4
      refine ⟨_, rfl, k ts nd (by omega) (fun h => tne (by omega)) _ _ _ n5 ⟨D, rfl, upd_same⟩ (st4.mono n5.gg g4)⟩
end
end Mk

-- N7
set_option Elab.async false
set_option linter.all false
set_option maxRecDepth 100000
set_option maxHeartbeats 4000000
set_option exponentiation.threshold 20000
namespace Mk
open PySem PySem.Spec PyProof.Rows L2
open C8 (InsC call_isC)
section
variable {P : Program} {w : World} {K : PySem.W.Frag} {mg : Str → Option Value} {base : Heap}
/-- pairs: 1 to 8, distinct texts, weights of at most 40 digits -/
def spPai : Sp := fun vs H Q _ => ∃ (G : Hp) (a : Addr), vs = [.ref a, .int 8] ∧ Same G H ∧ StAt G H a ∧ ∀ es : List Wd, (es.map (·.1)).Nodup → es.length ≤ 8 → es ≠ [] → (∀ e ∈ es, 1 ≤ e.2 ∧ e.2 < 10 ^ 40) → RetS a G H (rLst (rPr rStr rInt)) es Q
theorem sc__law_pairs : FnScope ["_law_state", "_law_most", "_law_many", "_law_kind", "_law_text_here"] ["_law_state", "_law_most"] (defScope s__law_pairs) := ⟨rfl, rfl, rfl, by decide +kernel, rfl, by decide +kernel, by decide +kernel⟩
theorem ok__law_pairs (T : Tx K mg) : Ok P w K mg base 4 (He.ga K "_law_pairs") ["_law_state", "_law_most"] spPai := by
  refine ok_mk (f__law_pairs T) (df_kp (f__law_pairs T)) sc__law_pairs (fun _ _ _ _ _ _ us hl => match us, hl with | [_, _], _ => rfl) (fun vs H Q E h => ?_) (fun cdv A outer s H vs Q E hr h => ?_)
  · obtain ⟨G, a, rfl, _⟩ := h
    rfl
  · obtain ⟨G, a, rfl, sm, st, k⟩ := h
    refine ⟨_, (pss_cons (ps_set (i := 2) sc__law_pairs.nd rfl (Or.inl rfl) (pe_op op_add pe_int (pe_c (ok__law_draw T) (hr.mono (by decide)) rfl (g__law_draw T) (pa_cons (pv 0) (pa_cons (pe_callB (call_min2 rfl) (by rfl) (b_min T) (by decide +kernel) (pa_cons pe_int (pa_cons (pe_op op_sub (pv 1) pe_int) pa_nil))) pa_nil)))))
      (C8.pss_cut (ps_if (pt_cmpR op_eq (pe_c (ok__law_draw T) (hr.mono (by decide)) rfl (g__law_draw T) (pa_cons (pv 0) (pa_cons pe_int pa_nil))) pe_int (nomark _))
        (pss_one (ps_set (i := 2) sc__law_pairs.nd rfl (Or.inl rfl) (pe_op op_add pe_int (pe_c (ok__law_draw T) (hr.mono (by decide)) rfl (g__law_draw T) (pa_cons (pv 0) (pa_cons (pv 1) pa_nil))))))
        pss_nil)
      (pss_cons (ps_set (i := 3) sc__law_pairs.nd rfl (Or.inr rfl) (pe_c (ok__law_draw T) (hr.mono (by decide)) rfl (g__law_draw T) (pa_cons (pv 0) (pa_cons pe_int pa_nil))))
      (pss_one (ps_ret (pe_lc (own := [("_law_text_here", 4)]) (g := (gName 4)) (tt := tYes) rfl sc__law_pairs.nd (pi_list (pe_c (ok__law_texts T) (hr.mono (by decide)) rfl (g__law_texts T) (pa_cons (pv 0) (pa_cons (pv 2) (pa_cons pe_int pa_nil))))) (blkOk_by (N := ["_law_state", "_law_most", "_law_many", "_law_kind", "_law_text_here"]) (sc := defScope s__law_pairs) (by decide +kernel)) (fun _ _ _ _ _ => (pg_name (i := 4) sc__law_pairs.nd rfl (Or.inl rfl))) (fun _ _ _ _ _ => pts_nil) (fun _ _ _ _ _ => (pe_tup (pa_cons (pv 4) (pa_cons (pe_c (ok__law_weight T) (hr.mono (by decide)) rfl (g__law_weight T) (pa_cons (pv 0) (pa_cons (pv 3) pa_nil))) pa_nil)))))))))), ?_⟩
    refine ⟨_, rfl, _, rfl, _, _, rfl, rfl, 4, 7, rfl, G, a, _, rfl, sm, st, by decide, fun r H1 r0 r1 n1 st1 => ⟨_, _, rfl, rfl, ?_⟩⟩
    have r1 : r < 4 := r1
    refine ⟨fun σ H' => ∃ m : Int, σ = [some (.ref a), some (.int 8), some (.int m), none, none] ∧ 1 ≤ m ∧ m ≤ 8 ∧ Nw (fun c => c = a) G H G H' ∧ StAt G H' a, ⟨_, rfl, G, a, _, rfl, n1.gh, st1, by decide, fun q H2 q0 q1 n2 st2 => ⟨rfl, _, rfl, ite2 (fun c => ?_) fun c => ?_⟩⟩, ?_⟩
    · refine ⟨_, rfl, _, rfl, G, a, _, rfl, n2.gh, st2, by decide, fun p H3 p0 p1 n3 st3 => ⟨_, _, rfl, rfl, ?_⟩⟩
      have p1 : p < 8 := p1
      exact ⟨1 + p, rfl, by omega, by omega, (n1.trans n2).trans n3, st3⟩
    · exact ⟨2 + r, rfl, by omega, by omega, n1.trans n2, st2⟩
    rintro σ H2 ⟨m, rfl, l1, l2, n2, st2⟩
    refine ⟨_, rfl, G, a, _, rfl, n2.gh, st2, by decide, fun kd H3 k0 k1 n3 st3 => ?_⟩
    have n23 := n2.trans n3
    refine ⟨_, rfl, _, rfl, G, a, m, rfl, n3.gh, st3, by omega, by omega, fun ts nd tl tne v G4 H4 n4 r4 st4 => ?_⟩
    obtain ⟨p, rfl, hp⟩ := r4
    have n24 := n23.trans n4
    refine ⟨p, rfl, ⟨_, SqL.of (n4.gh _ _ hp)⟩, fun D hD => ?_⟩
    have aD : D ≠ a := fun e => by
      obtain ⟨_, l, ns, i1, i2, i3, i4, h1, _⟩ := st4
      rw [e, h1] at hD
      cases hD
    refine lc_I (walk_list (xs := ts.map V.str)) (M := fun c => c = a) (rPr rStr rInt) (fun i ys Gc Hc => ys.map (·.1) = ts.take i ∧ (∀ e ∈ ys, 1 ≤ e.2 ∧ e.2 < 10 ^ 40) ∧ StAt Gc Hc a) hD n4.gh (by rw [List.length_map]; omega) (fun i ys Gc Hc o _ h => ⟨h.1, h.2.1, h.2.2.put aD⟩) ⟨rfl, fun e he => (by cases he), st4.put aD⟩ (fun Gc Hc n => SqL.of (n.gh _ _ (n.gg _ _ hp))) aD (fun i x ys Gc Hc H' Ky Kn hi n h y k1 k2 => ?_) (fun ys vs Gc Hc n h hDc gD pr => ?_)
    · obtain ⟨rfl, hx⟩ := y
      rw [List.length_map] at hi
      have hri : ts[i]? = some ts[i] := List.getElem?_eq_getElem hi
      rw [List.getElem?_map, hri] at hx
      have hx := (Option.some.inj hx).symm
      have hx : x = .str ts[i] := hx
      subst hx
      obtain ⟨h1, h2, h3⟩ := h
      have tk : ts.take (i + 1) = ts.take i ++ [ts[i]] := by rw [List.take_add_one, hri]; rfl
      generalize ts[i] = t at hri tk
      refine ⟨rfl, yes_ok ?_⟩
      refine ⟨_, rfl, _, rfl, _, rfl, Gc, a, kd, rfl, n.gh, h3, fun r H6 r1 r2 n6 st6 => ⟨len_ok (show 2 ≤ 100000 by decide), fun q hq => ?_⟩⟩
      have aq : q ≠ a := fun e => by
        obtain ⟨_, l, ns, i1, i2, i3, i4, g1, _⟩ := st6
        rw [e, g1] at hq
        cases hq
      have n7 := n6.alloc (o := .tup [.str t, .int r]) hq
      refine k1 _ _ (upd Gc q (.tup [.str t, .int r])) (t, r) n7 ⟨q, _, _, rfl, upd_same, rfl, rfl⟩ ⟨?_, fun e he => ?_, (st6.new hq).mono n7.gg (by rw [upd_ne (Ne.symm aq)]; exact h3.1)⟩
      · rw [List.map_append, h1, tk]
        rfl
      · rcases List.mem_append.mp he with z | z
        · exact h2 e z
        · rw [List.mem_singleton.mp z]
          exact ⟨r1, r2⟩
    · obtain ⟨h1, h2, h3⟩ := h
      rw [List.length_map, List.take_length] at h1
      have el : ys.length = ts.length := by rw [← h1, List.length_map]
      have hD0 : H D = none := n24.free hD
      have n5 := (n24.trans n).frz hD0 hDc
      refine k ys (by rw [h1]; exact nd) (by omega) (fun e => tne (by omega) (by rw [← h1, e]; rfl)) h2 _ _ _ n5 ⟨D, vs, rfl, upd_same, paired_mono (R := rPr rStr rInt) (same_new gD) pr⟩ (h3.mono (same_new gD) ?_)
      rw [upd_ne (Ne.symm aD)]
      exact h3.1
end
end Mk

-- W1
set_option Elab.async false
set_option linter.all false
set_option maxRecDepth 100000
set_option maxHeartbeats 4000000
set_option exponentiation.threshold 20000
namespace Mk
open PySem PySem.Spec PyProof.Rows L2
open C8 (InsC call_isC)
/-! ### the words of a machine -/
/-- a machine as it is drawn -/
structure Spc where
  al : Str
  st : Int
  rows : List (List (Int × Int))
  len : Int
abbrev MRow : Type := List (Int × Int)
def alOf (k : Nat) : Str := cutS "abc" none (some (k : Int))
structure RowOk (k : Nat) (m : Int) (r : MRow) : Prop where
  len : r.length = k
  q : ∀ q ∈ r, 0 ≤ q.1 ∧ q.1 ≤ 4 ∧ 0 ≤ q.2 ∧ q.2 < m
  pos : 1 ≤ (r.map (·.1)).sum
structure SpOk (s : Spc) (k : Nat) (m : Int) : Prop where
  k1 : 1 ≤ k
  k3 : k ≤ 3
  m1 : 1 ≤ m
  m2 : m ≤ 2
  al : s.al = alOf k
  many : (s.rows.length : Int) = m
  rows : ∀ r ∈ s.rows, RowOk k m r
  st0 : 0 ≤ s.st
  st1 : s.st < m
  len0 : 0 ≤ s.len
  len3 : s.len ≤ 3
def rowT (r : MRow) : Int := (r.map (·.1)).sum
def lcmI (a b : Int) : Int := (Int.lcm a b : Nat)
def unitL (u : Int) (rs : List MRow) : Int := rs.foldl (fun u r => lcmI u (rowT r)) u
abbrev Bg : Type := Str × Int × Int
def letters (z : Str) : List Str := z.cps.toList.map fun c => ⟨#[c]⟩
def grow1 (c : Int) (b : Bg) (p : Str × (Int × Int)) : Option Bg := if 0 < p.2.1 then some (b.1 ++ p.1, b.2.1 * p.2.1 * c, p.2.2) else none
def growR (c : Int) (ls : List Str) (r : MRow) (b : Bg) : List Bg := (ls.zip r).filterMap (grow1 c b)
def rowAt (rs : List MRow) (i : Int) : MRow := (rs[i.toNat]?).getD []
def grow (u : Int) (ls : List Str) (rs : List MRow) (bs : List Bg) : List Bg := bs.flatMap fun b => growR (u / rowT (rowAt rs b.2.2)) ls (rowAt rs b.2.2) b
def unitS (s : Spc) : Int := unitL 1 s.rows
def bgs (s : Spc) : Nat → List Bg
  | 0 => [("", 1, s.st)]
  | n + 1 => grow (unitS s) (letters s.al) s.rows (bgs s n)
def wdB (b : Bg) : Wd := (b.1, b.2.1)
def mwords (s : Spc) (n : Nat) : List Wd := (bgs s n).map wdB
theorem alOf_ok : ∀ {k : Nat}, 1 ≤ k → k ≤ 3 → (letters (alOf k)).length = k ∧ (letters (alOf k)).Pairwise sLt ∧ ∀ z ∈ letters (alOf k), z.length = 1
  | 0, h, _ => absurd h (by decide)
  | 1, _, _ => by unfold sLt; decide +kernel
  | 2, _, _ => by unfold sLt; decide +kernel
  | 3, _, _ => by unfold sLt; decide +kernel
  | k + 4, _, h => by omega
theorem rowT_le {k : Nat} {m : Int} {r : MRow} (R : RowOk k m r) : rowT r ≤ 4 * k := by
  have h : ∀ l : MRow, (∀ q ∈ l, q.1 ≤ 4) → (l.map (·.1)).sum ≤ 4 * (l.length : Int) := by
    intro l
    induction l with
    | nil => intro _; simp
    | cons q l ih =>
      intro hl
      have h1 := ih fun x hx => hl x (List.mem_cons_of_mem _ hx)
      have h2 := hl q List.mem_cons_self
      rw [List.map_cons, List.sum_cons, List.length_cons]
      omega
  have h1 := h r fun q hq => (R.q q hq).2.1
  rw [R.len] at h1
  exact h1
theorem lcmI_pos {a b : Int} (ha : 0 < a) (hb : 0 < b) : 0 < lcmI a b := by
  have := Int.lcm_pos (show a ≠ 0 by omega) (show b ≠ 0 by omega)
  unfold lcmI
  omega
theorem lcmI_le {a b : Int} (ha : 0 < a) (hb : 0 < b) : lcmI a b ≤ a * b := by
  have h1 : Int.lcm a b ≤ a.natAbs * b.natAbs := Nat.le_of_dvd (Nat.mul_pos (by omega) (by omega)) (Nat.lcm_dvd_mul a.natAbs b.natAbs)
  have h2 : ((a.natAbs * b.natAbs : Nat) : Int) = a * b := by
    rw [Int.natCast_mul, Int.natAbs_of_nonneg (by omega), Int.natAbs_of_nonneg (by omega)]
  unfold lcmI
  omega
theorem dvd_lcmI_left (a b : Int) : a ∣ lcmI a b := Int.dvd_lcm_left a b
theorem dvd_lcmI_right (a b : Int) : b ∣ lcmI a b := Int.dvd_lcm_right a b
theorem unitL_ok : ∀ {rs : List MRow} {u : Int}, 0 < u → (∀ r ∈ rs, 1 ≤ rowT r ∧ rowT r ≤ 12) → 0 < unitL u rs ∧ u ∣ unitL u rs ∧ (∀ r ∈ rs, rowT r ∣ unitL u rs) ∧ unitL u rs ≤ u * 12 ^ rs.length
  | [], u, hu, _ => ⟨hu, Int.dvd_refl u, fun _ h => (by cases h), by simp [unitL]⟩
  | r :: rs, u, hu, h => by
    obtain ⟨h1, h2⟩ := h r List.mem_cons_self
    have p := lcmI_pos hu (show 0 < rowT r by omega)
    obtain ⟨a1, a2, a3, a4⟩ := unitL_ok (rs := rs) p fun x hx => h x (List.mem_cons_of_mem _ hx)
    have e : unitL u (r :: rs) = unitL (lcmI u (rowT r)) rs := rfl
    rw [e]
    refine ⟨a1, Int.dvd_trans (dvd_lcmI_left u (rowT r)) a2, fun x hx => ?_, ?_⟩
    · rcases List.mem_cons.mp hx with rfl | hx
      · exact Int.dvd_trans (dvd_lcmI_right u (rowT x)) a2
      · exact a3 x hx
    · have l1 := lcmI_le hu (show 0 < rowT r by omega)
      have l2 : u * rowT r ≤ u * 12 := Int.mul_le_mul_of_nonneg_left h2 (by omega)
      have hp : (0 : Int) ≤ 12 ^ rs.length := by
        have : (0 : Int) < 12 ^ rs.length := Int.pow_pos (by decide)
        omega
      have l3 : lcmI u (rowT r) * 12 ^ rs.length ≤ u * 12 * 12 ^ rs.length := Int.mul_le_mul_of_nonneg_right (by omega) hp
      rw [List.length_cons, Int.pow_succ]
      have : u * (12 ^ rs.length * 12) = u * 12 * 12 ^ rs.length := by
        rw [Int.mul_assoc, Int.mul_comm (12 ^ rs.length) 12]
      omega
theorem SpOk.unit {s : Spc} {k : Nat} {m : Int} (S : SpOk s k m) : 0 < unitS s ∧ (∀ r ∈ s.rows, rowT r ∣ unitS s) ∧ unitS s ≤ 144 := by
  have k3 := S.k3
  obtain ⟨a1, _, a3, a4⟩ := unitL_ok (rs := s.rows) (u := 1) (by decide) fun r hr => by
    have h1 := (S.rows r hr).pos
    have h2 := rowT_le (S.rows r hr)
    exact ⟨h1, by omega⟩
  refine ⟨a1, a3, ?_⟩
  have hl : s.rows.length ≤ 2 := by have := S.many; have := S.m2; omega
  have h : (12 : Int) ^ s.rows.length ≤ 144 := by
    match s.rows.length, hl with
    | 0, _ => decide
    | 1, _ => decide
    | 2, _ => decide
  unfold unitS
  omega
theorem rowAt_mem {rs : List MRow} {i : Int} (h0 : 0 ≤ i) (h1 : i < rs.length) : rs[i.toNat]? = some (rowAt rs i) ∧ rowAt rs i ∈ rs := by
  have h : i.toNat < rs.length := by omega
  have e : rs[i.toNat]? = some rs[i.toNat] := List.getElem?_eq_getElem h
  unfold rowAt
  rw [e]
  exact ⟨rfl, List.getElem_mem h⟩
/-- the beginnings after n turns -/
structure BgOk (m : Int) (n : Nat) (bs : List Bg) : Prop where
  srt : bs.Pairwise fun a b => sLt a.1 b.1
  each : ∀ b ∈ bs, b.1.length = n ∧ 1 ≤ b.2.1 ∧ 0 ≤ b.2.2 ∧ b.2.2 < m
theorem lex_left : ∀ {x y : List Nat} (z w : List Nat), x.length = y.length → x < y → x ++ z < y ++ w
  | [], [], z, w, _, h => absurd h (List.lt_irrefl _)
  | a :: x, b :: y, z, w, hl, h => by
    rw [List.cons_append, List.cons_append]
    rw [List.cons_lt_cons_iff] at h ⊢
    rcases h with h | ⟨h1, h2⟩
    · exact .inl h
    · exact .inr ⟨h1, lex_left z w (by simpa using hl) h2⟩
  | [], _ :: _, _, _, hl, _ => by simp at hl
  | _ :: _, [], _, _, hl, _ => by simp at hl
theorem toList_app (a b : Str) : (a ++ b).cps.toList = a.cps.toList ++ b.cps.toList := Array.toList_append ..
theorem sLt_app {a b c d : Str} (hl : a.length = b.length) (h : sLt a b) : sLt (a ++ c) (b ++ d) := by
  unfold sLt
  rw [toList_app, toList_app]
  exact lex_left _ _ (by rw [Array.length_toList, Array.length_toList]; exact hl) h
theorem sLt_tail {a c d : Str} (h : sLt c d) : sLt (a ++ c) (a ++ d) := by
  unfold sLt
  rw [toList_app, toList_app]
  exact List.append_left_lt h
theorem zip_srt {ls : List Str} {r : MRow} (hl : ls.length = r.length) (h : ls.Pairwise sLt) : (ls.zip r).Pairwise fun p q => sLt p.1 q.1 := by
  have : ((ls.zip r).map Prod.fst).Pairwise sLt := by rw [List.map_fst_zip (Nat.le_of_eq hl)]; exact h
  exact List.pairwise_map.mp this
theorem mem_zip1 {ls : List Str} {r : MRow} {p : Str × (Int × Int)} (h : p ∈ ls.zip r) : p.1 ∈ ls ∧ p.2 ∈ r := by
  obtain ⟨a, b⟩ := p
  exact List.of_mem_zip h
theorem growR_mem {c : Int} {ls : List Str} {r : MRow} {b x : Bg} (h : x ∈ growR c ls r b) : ∃ l ∈ ls, ∃ q ∈ r, 0 < q.1 ∧ x = (b.1 ++ l, b.2.1 * q.1 * c, q.2) := by
  obtain ⟨p, hp, e⟩ := List.mem_filterMap.mp h
  obtain ⟨h1, h2⟩ := mem_zip1 hp
  unfold grow1 at e
  split at e
  · rename_i hc
    exact ⟨_, h1, _, h2, hc, (Option.some.inj e).symm⟩
  · cases e
theorem strlen (x y : Str) : (x ++ y).length = x.length + y.length := Array.size_append ..
theorem grow_ok {s : Spc} {k : Nat} {m : Int} (S : SpOk s k m) {n : Nat} {bs : List Bg} (B : BgOk m n bs) : BgOk m (n + 1) (grow (unitS s) (letters s.al) s.rows bs) := by
  obtain ⟨l1, l2, l3⟩ := alOf_ok S.k1 S.k3
  obtain ⟨u1, u2, u3⟩ := S.unit
  rw [S.al]
  refine ⟨List.pairwise_flatMap.mpr ⟨fun b hb => ?_, ?_⟩, fun x hx => ?_⟩
  · obtain ⟨_, _, b3, b4⟩ := B.each b hb
    have hr := (rowAt_mem (rs := s.rows) b3 (by have := S.many; omega)).2
    refine List.pairwise_filterMap.mpr ((zip_srt (by rw [l1, (S.rows _ hr).len]) l2).imp fun {p q} h x hx y hy => ?_)
    unfold grow1 at hx hy
    split at hx
    · split at hy
      · obtain rfl := Option.some.inj hx
        obtain rfl := Option.some.inj hy
        exact sLt_tail h
      · cases hy
    · cases hx
  · refine B.srt.imp_of_mem fun {a b} ha hb h x hx y hy => ?_
    obtain ⟨l, _, q, _, _, rfl⟩ := growR_mem hx
    obtain ⟨l', _, q', _, _, rfl⟩ := growR_mem hy
    exact sLt_app (by rw [(B.each a ha).1, (B.each b hb).1]) h
  · obtain ⟨b, hb, hx⟩ := List.mem_flatMap.mp hx
    obtain ⟨b1, b2, b3, b4⟩ := B.each b hb
    have hr := (rowAt_mem (rs := s.rows) b3 (by have := S.many; omega)).2
    obtain ⟨l, hl, q, hq, hp, rfl⟩ := growR_mem hx
    obtain ⟨_, _, q3, q4⟩ := (S.rows _ hr).q q hq
    have dv := u2 _ hr
    have rp := (S.rows _ hr).pos
    have hc : 0 < unitS s / rowT (rowAt s.rows b.2.2) := by
      obtain ⟨c, hc⟩ := dv
      have rp : 0 < rowT (rowAt s.rows b.2.2) := rp
      rw [hc, Int.mul_ediv_cancel_left _ (by omega)]
      rw [hc] at u1
      exact Int.pos_of_mul_pos_right u1 (by omega)
    refine ⟨?_, ?_, q3, q4⟩
    · show (b.1 ++ l).length = _
      rw [strlen, b1, l3 l hl]
    · show 1 ≤ b.2.1 * q.1 * _
      have : 0 < b.2.1 * q.1 := Int.mul_pos (by omega) hp
      have := Int.mul_pos this hc
      omega
theorem bgs_ok {s : Spc} {k : Nat} {m : Int} (S : SpOk s k m) : ∀ n, BgOk m n (bgs s n)
  | 0 => ⟨List.pairwise_singleton _ _, fun b hb => by
    rw [List.mem_singleton.mp hb]
    exact ⟨(show ("" : Str).length = 0 by decide +kernel), Int.le_refl _, S.st0, S.st1⟩⟩
  | n + 1 => grow_ok S (bgs_ok S n)
def wsum (bs : List Bg) : Int := (bs.map (·.2.1)).sum
theorem growR_sum {c : Int} {b : Bg} : ∀ {ls : List Str} {r : MRow}, ls.length = r.length → (∀ q ∈ r, 0 ≤ q.1) → wsum (growR c ls r b) = b.2.1 * rowT r * c
  | [], [], _, _ => by simp [wsum, growR, rowT]
  | l :: ls, q :: r, hl, h => by
    have ih := growR_sum (c := c) (b := b) (ls := ls) (r := r) (by simpa using hl) fun x hx => h x (List.mem_cons_of_mem _ hx)
    have hq := h q List.mem_cons_self
    have er : rowT (q :: r) = q.1 + rowT r := rfl
    have eg : growR c (l :: ls) (q :: r) b = (if 0 < q.1 then [(b.1 ++ l, b.2.1 * q.1 * c, q.2)] else []) ++ growR c ls r b := by
      unfold growR
      rw [List.zip_cons_cons, List.filterMap_cons]
      unfold grow1
      split <;> rename_i h1
      · rw [if_neg (by intro h2; simp [h2] at h1)]
        rfl
      · split at h1
        · rename_i h2
          rw [if_pos h2, ← Option.some.inj h1]
          rfl
        · cases h1
    rw [eg, er]
    unfold wsum at *
    rw [List.map_append, List.sum_append, ih]
    split
    · simp only [List.map_cons, List.map_nil, List.sum_cons, List.sum_nil]
      rw [Int.add_zero, Int.mul_add, Int.add_mul]
    · have : q.1 = 0 := by omega
      simp [this]
  | [], _ :: _, hl, _ => by simp at hl
  | _ :: _, [], hl, _ => by simp at hl
theorem grow_sum {s : Spc} {k : Nat} {m : Int} (S : SpOk s k m) : ∀ {bs : List Bg}, (∀ b ∈ bs, 0 ≤ b.2.2 ∧ b.2.2 < m) → wsum (grow (unitS s) (letters s.al) s.rows bs) = wsum bs * unitS s
  | [], _ => by simp [wsum, grow]
  | b :: bs, h => by
    have ih := grow_sum S (bs := bs) fun x hx => h x (List.mem_cons_of_mem _ hx)
    obtain ⟨b3, b4⟩ := h b List.mem_cons_self
    have hr := (rowAt_mem (rs := s.rows) b3 (by have := S.many; omega)).2
    obtain ⟨l1, _, _⟩ := alOf_ok S.k1 S.k3
    have e1 : grow (unitS s) (letters s.al) s.rows (b :: bs) = growR (unitS s / rowT (rowAt s.rows b.2.2)) (letters s.al) (rowAt s.rows b.2.2) b ++ grow (unitS s) (letters s.al) s.rows bs := by
      unfold grow
      rw [List.flatMap_cons]
    have e2 : ∀ x y : List Bg, wsum (x ++ y) = wsum x + wsum y := fun x y => by unfold wsum; rw [List.map_append, List.sum_append]
    have e3 : wsum (b :: bs) = b.2.1 + wsum bs := rfl
    rw [e1, e2, ih, e3, growR_sum (by rw [S.al, l1, (S.rows _ hr).len]) fun q hq => ((S.rows _ hr).q q hq).1]
    have dv := S.unit.2.1 _ hr
    rw [Int.mul_assoc, Int.mul_ediv_cancel' dv, Int.add_mul]
theorem bgs_sum {s : Spc} {k : Nat} {m : Int} (S : SpOk s k m) : ∀ n, wsum (bgs s n) = unitS s ^ n
  | 0 => by simp [bgs, wsum]
  | n + 1 => by
    show wsum (grow _ _ _ _) = _
    rw [grow_sum S fun b hb => ((bgs_ok S n).each b hb).2.2, bgs_sum S n, Int.pow_succ]
theorem growR_len {c : Int} {ls : List Str} {r : MRow} {b : Bg} : (growR c ls r b).length ≤ ls.length := by
  unfold growR
  refine Nat.le_trans (List.length_filterMap_le _ _) ?_
  rw [List.length_zip]
  exact Nat.min_le_left _ _
theorem grow_len {u : Int} {ls : List Str} {rs : List MRow} : ∀ {bs : List Bg}, (grow u ls rs bs).length ≤ bs.length * ls.length
  | [] => by simp [grow]
  | b :: bs => by
    have ih := grow_len (u := u) (ls := ls) (rs := rs) (bs := bs)
    have h1 := growR_len (c := u / rowT (rowAt rs b.2.2)) (ls := ls) (r := rowAt rs b.2.2) (b := b)
    unfold grow at *
    rw [List.flatMap_cons, List.length_append, List.length_cons, Nat.add_mul, Nat.one_mul]
    omega
theorem bgs_len {s : Spc} {k : Nat} {m : Int} (S : SpOk s k m) : ∀ n, (bgs s n).length ≤ 3 ^ n
  | 0 => by simp [bgs]
  | n + 1 => by
    obtain ⟨l1, _, _⟩ := alOf_ok S.k1 S.k3
    have h := grow_len (u := unitS s) (ls := letters s.al) (rs := s.rows) (bs := bgs s n)
    have h2 := bgs_len S n
    rw [S.al, l1] at h
    have h3 := S.k3
    rw [Nat.pow_succ]
    have h4 : (bgs s n).length * k ≤ 3 ^ n * 3 := Nat.mul_le_mul h2 h3
    have e : bgs s (n + 1) = grow (unitS s) (letters (alOf k)) s.rows (bgs s n) := by rw [← S.al]; rfl
    rw [e]
    omega
theorem mwords_total {s : Spc} {k : Nat} {m : Int} (S : SpOk s k m) (n : Nat) : total (mwords s n) = unitS s ^ n := by
  rw [← bgs_sum S n]
  unfold total mwords wsum
  rw [List.map_map]
  rfl
theorem pow_le3 {u : Int} (h0 : 0 < u) (h : u ≤ 144) : ∀ n : Nat, n ≤ 3 → 0 < u ^ n ∧ u ^ n ≤ 2985984
  | 0, _ => by rw [Int.pow_zero]; omega
  | 1, _ => by rw [Int.pow_succ, Int.pow_zero]; omega
  | 2, _ => by
    rw [Int.pow_succ, Int.pow_succ, Int.pow_zero, Int.one_mul]
    have h1 : u * u ≤ 144 * 144 := Int.mul_le_mul h h (by omega) (by decide)
    have h2 := Int.mul_pos h0 h0
    omega
  | 3, _ => by
    rw [Int.pow_succ, Int.pow_succ, Int.pow_succ, Int.pow_zero, Int.one_mul]
    have h1 : u * u ≤ 144 * 144 := Int.mul_le_mul h h (by omega) (by decide)
    have h2 := Int.mul_pos h0 h0
    have h3 : u * u * u ≤ 144 * 144 * 144 := Int.mul_le_mul h1 h (by omega) (by decide)
    have h4 := Int.mul_pos h2 h0
    omega
  | n + 4, h => by omega
theorem mwords_ok {s : Spc} {k : Nat} {m : Int} (S : SpOk s k m) {n : Nat} (hn : n ≤ 3) : Wds (mwords s n) := by
  have B := bgs_ok S n
  obtain ⟨u1, _, u3⟩ := S.unit
  obtain ⟨p1, p2⟩ := pow_le3 u1 u3 n hn
  have t := mwords_total S n
  have hl := bgs_len S n
  have h27 : (3 : Nat) ^ n ≤ 27 := Nat.pow_le_pow_right (n := 3) (by decide) hn
  refine ⟨?_, fun e he => ?_, ?_, fun e => ?_, ?_⟩
  · unfold mwords
    rw [List.map_map]
    exact List.pairwise_map.mpr B.srt
  · obtain ⟨b, hb, rfl⟩ := List.mem_map.mp he
    exact (B.each b hb).2.1
  · unfold mwords
    rw [List.length_map]
    omega
  · rw [e] at t
    have : total ([] : List Wd) = 0 := rfl
    omega
  · rw [t]
    have : (2985985 : Nat) ≤ 2 ^ 140 := by decide
    omega
theorem mwords_len {s : Spc} {k : Nat} {m : Int} (S : SpOk s k m) (n : Nat) : (mwords s n).length ≤ 3 ^ n := by
  unfold mwords
  rw [List.length_map]
  exact bgs_len S n
end Mk

-- N8
set_option Elab.async false
set_option linter.all false
set_option maxRecDepth 100000
set_option maxHeartbeats 4000000
set_option exponentiation.threshold 20000
namespace Mk
open PySem PySem.Spec PyProof.Rows L2
open C8 (InsC call_isC)
abbrev rMRow : Rep (List (Int × Int)) := rLst (rPr rInt rInt)
def rSpc : Rep Spc := fun G v s => ∃ p q : Addr, v = .ref p ∧ G p = some (.lst [.str s.al, .int s.st, .ref q, .int s.len]) ∧ rLst rMRow G (.ref q) s.rows
instance : Mono rSpc := ⟨fun s ⟨p, q, e, h, r⟩ => ⟨p, q, e, s _ _ h, Mono.mono s r⟩⟩
theorem paired_set {α β : Type} {F : α → β → Prop} {a : α} {b : β} (h : F a b) : ∀ {xs : List α} {ys : List β} (i : Nat), Paired F xs ys → Paired F (xs.set i a) (ys.set i b)
  | _, _, _, .nil => .nil
  | _, _, 0, .cons _ t => .cons h t
  | _, _, i + 1, .cons a t => .cons a (paired_set h i t)
theorem sum_ge0 : ∀ {l : MRow}, (∀ e ∈ l, 0 ≤ e.1) → 0 ≤ (l.map fun e : Int × Int => e.1).sum
  | [], _ => Int.le_refl _
  | e :: l, h => by
    have h1 := h e List.mem_cons_self
    have h2 := sum_ge0 (l := l) fun x hx => h x (List.mem_cons_of_mem _ hx)
    rw [List.map_cons, List.sum_cons]
    omega
theorem sum_ge1 : ∀ {l : MRow} {x : Int × Int}, (∀ e ∈ l, 0 ≤ e.1) → x ∈ l → 1 ≤ x.1 → 1 ≤ (l.map fun e : Int × Int => e.1).sum
  | e :: l, x, h, hx, h1 => by
    have h2 := sum_ge0 (l := l) fun x hx => h x (List.mem_cons_of_mem _ hx)
    have h3 := h e List.mem_cons_self
    rw [List.map_cons, List.sum_cons]
    rcases List.mem_cons.mp hx with rfl | hx
    · omega
    · have := sum_ge1 (l := l) (fun x hx => h x (List.mem_cons_of_mem _ hx)) hx h1
      omega
section
variable {P : Program} {w : World} {K : PySem.W.Frag} {mg : Str → Option Value} {base : Heap}
def spSpec : Sp := fun vs H Q _ => ∃ (G : Hp) (a : Addr), vs = [.ref a] ∧ Same G H ∧ StAt G H a ∧ ∀ s k m, SpOk s k m → RetS a G H rSpc s Q
theorem sc__law_spec : FnScope ["_law_state", "_law_letters", "_law_many", "_law_rows_here", "_law_k", "_law_row", "_law_length", "_law_place", "_law_pair"] ["_law_state"] (defScope s__law_spec) := ⟨rfl, rfl, rfl, by decide +kernel, rfl, by decide +kernel, by decide +kernel⟩
theorem ok__law_spec (T : Tx K mg) : Ok P w K mg base 2 (He.ga K "_law_spec") ["_law_state"] spSpec := by
  refine ok_mk (f__law_spec T) (df_kp (f__law_spec T)) sc__law_spec (fun _ _ _ _ _ _ us hl => match us, hl with | [_], _ => rfl) (fun vs H Q E h => ?_) (fun cdv A outer s H vs Q E hr h => ?_)
  · obtain ⟨G, a, rfl, _⟩ := h
    rfl
  · obtain ⟨G, a, rfl, sm, st, k⟩ := h
    refine ⟨_, (pss_cons (ps_set (i := 1) sc__law_spec.nd rfl (Or.inl rfl) (pe_op op_add pe_int (pe_c (ok__law_draw T) (hr.mono (by decide)) rfl (g__law_draw T) (pa_cons (pv 0) (pa_cons pe_int pa_nil)))))
      (C8.pss_cut (ps_if (pt_cmpR op_eq (pe_c (ok__law_draw T) (hr.mono (by decide)) rfl (g__law_draw T) (pa_cons (pv 0) (pa_cons pe_int pa_nil))) pe_int (nomark _))
        (pss_one (ps_set (i := 1) sc__law_spec.nd rfl (Or.inl rfl) pe_int))
        pss_nil)
      (pss_cons (ps_set (i := 2) sc__law_spec.nd rfl (Or.inr rfl) (pe_op op_add pe_int (pe_c (ok__law_draw T) (hr.mono (by decide)) rfl (g__law_draw T) (pa_cons (pv 0) (pa_cons pe_int pa_nil)))))
      (pss_cons (ps_set (i := 3) sc__law_spec.nd rfl (Or.inl rfl) (pe_lst pa_nil))
      (pss_cons (ps_for PassesOwn.never rfl (pi_range1 (by rfl) (b_range T) (pa_cons (pv 2) pa_nil)) (pg_name (i := 4) sc__law_spec.nd rfl (Or.inl rfl))
      (pss_cons (ps_setLc (i := 5) (own := [("_law_place", 7)]) (g := (gName 7)) (tt := tYes) rfl sc__law_spec.nd rfl rfl (sw_true rfl rfl rfl (by decide +kernel)) (pi_range1 (by rfl) (b_range T) (pa_cons (pv 1) pa_nil)) (blkOk_by (N := ["_law_state", "_law_letters", "_law_many", "_law_rows_here", "_law_k", "_law_row", "_law_length", "_law_place", "_law_pair"]) (sc := defScope s__law_spec) (by decide +kernel)) (fun _ _ _ _ _ => (pg_name (i := 7) sc__law_spec.nd rfl (Or.inl rfl))) (fun _ _ _ _ _ => pts_nil) (fun _ _ _ _ _ => (pe_tup (pa_cons (pe_c (ok__law_draw T) (hr.mono (by decide)) rfl (g__law_draw T) (pa_cons (pv 0) (pa_cons pe_int pa_nil))) (pa_cons (pe_c (ok__law_draw T) (hr.mono (by decide)) rfl (g__law_draw T) (pa_cons (pv 0) (pa_cons (pv 2) pa_nil))) pa_nil)))))
      (C8.pss_cut (ps_if (pt_cmpR op_eq (pe_callB (cr_sum rfl) (by rfl) (b_sum T) (by decide +kernel) (pa_cons (pe_lc (own := [("_law_pair", 8)]) (g := (gName 8)) (tt := tYes) rfl sc__law_spec.nd (pi_list (pv 5)) (blkOk_by (N := ["_law_state", "_law_letters", "_law_many", "_law_rows_here", "_law_k", "_law_row", "_law_length", "_law_place", "_law_pair"]) (sc := defScope s__law_spec) (by decide +kernel)) (fun _ _ _ _ _ => (pg_name (i := 8) sc__law_spec.nd rfl (Or.inl rfl))) (fun _ _ _ _ _ => pts_nil) (fun _ _ _ _ _ => (pe_ix (show IxR _ (rIxT K) from ix_tup) (pv 8) pe_int (fun _ _ => rfl)))) pa_nil)) pe_int (nomark _))
        (pss_one (ps_asg (pe_tup (pa_cons (pe_op op_add pe_int (pe_c (ok__law_draw T) (hr.mono (by decide)) rfl (g__law_draw T) (pa_cons (pv 0) (pa_cons pe_int pa_nil)))) (pa_cons (pe_op op_sub (pv 2) pe_int) pa_nil))) (pg_sub (pv 5) (pe_c (ok__law_draw T) (hr.mono (by decide)) rfl (g__law_draw T) (pa_cons (pv 0) (pa_cons (pv 1) pa_nil))) set_list)))
        pss_nil)
      (pss_one (ps_expr (pe_bm PySem.F.plainAttrs_list PySem.F.slot_list_append PySem.F.type_list_append mt_append (pv 3) (pa_cons (pv 5) pa_nil)))))))
      (pss_cons (ps_set (i := 6) sc__law_spec.nd rfl (Or.inl rfl) (pe_op op_add pe_int (pe_c (ok__law_draw T) (hr.mono (by decide)) rfl (g__law_draw T) (pa_cons (pv 0) (pa_cons pe_int pa_nil)))))
      (C8.pss_cut (ps_if (pt_cmpR op_eq (pe_c (ok__law_draw T) (hr.mono (by decide)) rfl (g__law_draw T) (pa_cons (pv 0) (pa_cons pe_int pa_nil))) pe_int (nomark _))
        (pss_one (ps_set (i := 6) sc__law_spec.nd rfl (Or.inl rfl) pe_int))
        pss_nil)
      (pss_one (ps_ret (pe_lst (pa_cons (pe_slice sl_str pe_str po_none (po_some (pv 1))) (pa_cons (pe_c (ok__law_draw T) (hr.mono (by decide)) rfl (g__law_draw T) (pa_cons (pv 0) (pa_cons (pv 2) pa_nil))) (pa_cons (pv 3) (pa_cons (pv 6) pa_nil)))))))))))))), ?_⟩
    refine ⟨_, rfl, G, a, _, rfl, sm, st, by decide, fun r H1 r0 r1 n1 st1 => ⟨_, _, rfl, rfl, ?_⟩⟩
    have r1 : r < 2 := r1
    refine ⟨fun σ H' => ∃ kk : Nat, σ = [some (.ref a), some (.int kk), none, none, none, none, none, none, none] ∧ 1 ≤ kk ∧ kk ≤ 3 ∧ Nw (fun c => c = a) G H G H' ∧ StAt G H' a, ⟨_, rfl, G, a, _, rfl, n1.gh, st1, by decide, fun q H2 q0 q1 n2 st2 => ⟨rfl, _, rfl, ite2 (fun c => ?_) fun c => ?_⟩⟩, ?_⟩
    · exact ⟨1, rfl, by decide, by decide, n1.trans n2, st2⟩
    · obtain ⟨j, rfl⟩ := Int.eq_ofNat_of_zero_le r0
      exact ⟨2 + j, by rw [Int.natCast_add]; rfl, by omega, by omega, n1.trans n2, st2⟩
    rintro σ H2 ⟨kk, rfl, kk1, kk3, n2, st2⟩
    refine ⟨_, rfl, G, a, _, rfl, n2.gh, st2, by decide, fun m0 H3 m00 m01 n3 st3 => ⟨_, _, rfl, rfl, ?_⟩⟩
    have m01 : m0 < 2 := m01
    have n23 := n2.trans n3
    obtain ⟨m, hm⟩ : ∃ m : Nat, (1 + m0 : Int) = (m : Nat) := ⟨(1 + m0).toNat, by omega⟩
    have m1 : 1 ≤ m := by omega
    have m2 : m ≤ 2 := by omega
    show gName 2 (V.int (1 + m0)) _ H3 _
    rw [hm]
    refine ⟨Nat.zero_le _, fun RL hRL => ?_⟩
    have gRL : H RL = none := n23.free hRL
    have aRL : RL ≠ a := fun e => by
      obtain ⟨_, l, ns, i1, i2, i3, i4, h1, _⟩ := st3
      rw [e, h1] at hRL
      cases hRL
    refine ⟨_, rfl, _, rfl, by omega, by omega, ?_⟩
    have wk : Walk (Itr 0 ((m : Int)).toNat) m (fun _ => True) (YFn fun i => .int (0 + (i : Nat))) := by rw [Int.toNat_natCast]; exact walk_range
    have wk2 : Walk (Itr 0 ((kk : Int)).toNat) kk (fun _ => True) (YFn fun i => .int (0 + (i : Nat))) := by rw [Int.toNat_natCast]; exact walk_range
    refine for_it wk (fun i σ H' => ∃ (z4 z5 : Option V) (Gc : Hp) (vs : List V) (rs : List MRow), σ = [some (.ref a), some (.int kk), some (.int m), some (.ref RL), z4, z5, none, none, none] ∧ Nw (fun c => c = a) G H Gc H' ∧ StAt Gc H' a ∧ H' RL = some (.lst vs) ∧ Gc RL = none ∧ Paired (rMRow Gc) vs rs ∧ rs.length = i ∧ ∀ r ∈ rs, RowOk kk m r)
      ⟨none, none, G, [], [], rfl, n23.allocH hRL, st3.new hRL, upd_same, sm.free gRL, .nil, rfl, fun r h => (by cases h)⟩ (fun _ _ _ _ _ => trivial) ?_ ?_
    · rintro i v σ H4 H5 hi ⟨z4, z5, Gc, vs, rs, rfl, n4, st4, hRL4, gRL4, pr, rl, ro⟩ ⟨rfl, rfl⟩
      refine ⟨_, rfl, _, rfl, by omega, by omega, fun D hD => ?_⟩
      have aD : D ≠ a := fun e => by
        obtain ⟨_, l, ns, i1, i2, i3, i4, h1, _⟩ := st4
        rw [e, h1] at hD
        cases hD
      have nRD : RL ≠ D := ne_of_none hRL4 hD
      refine lc_I wk2 (M := fun c => c = a) (rPr rInt rInt) (fun j ys G1 H1 => ys.length = j ∧ (∀ q ∈ ys, 0 ≤ q.1 ∧ q.1 ≤ 4 ∧ 0 ≤ q.2 ∧ q.2 < (m : Int)) ∧ StAt G1 H1 a) hD n4.gh (by omega) (fun i ys G1 H1 o _ h => ⟨h.1, h.2.1, h.2.2.put aD⟩) ⟨rfl, fun q hq => (by cases hq), st4.put aD⟩ (fun _ _ _ => trivial) aD (fun j x ys G1 H1 H' Ky Kn hj n h y k1 k2 => ?_) (fun ys us G1 H1 n h hDc gD prq => ?_)
      · obtain ⟨rfl, rfl⟩ := y
        obtain ⟨h1, h2, h3⟩ := h
        refine ⟨rfl, yes_ok ?_⟩
        refine ⟨_, rfl, G1, a, 5, rfl, n.gh, h3, by decide, fun q0 H6 r0 r1 n6 st6 => ?_⟩
        refine ⟨_, rfl, _, rfl, G1, a, m, rfl, n6.gh, st6, by omega, fun q1 H7 s0 s1 n7 st7 => ⟨len_ok (show 2 ≤ 100000 by decide), fun q hq => ?_⟩⟩
        have r1 : q0 < 5 := r1
        have s1 : q1 < m := by
          revert s1
          split <;> intro s1 <;> omega
        have aq : q ≠ a := fun e => by
          obtain ⟨_, l, ns, i1, i2, i3, i4, h1, _⟩ := st7
          rw [e, h1] at hq
          cases hq
        have n8 := (n6.trans n7).alloc (o := .tup [.int q0, .int q1]) hq
        refine k1 _ _ (upd G1 q (.tup [.int q0, .int q1])) (q0, q1) n8 ⟨q, _, _, rfl, upd_same, rfl, rfl⟩ ⟨by rw [List.length_append, h1]; rfl, fun e he => ?_, (st7.new hq).mono n8.gg (by rw [upd_ne (Ne.symm aq)]; exact h3.1)⟩
        rcases List.mem_append.mp he with z | z
        · exact h2 e z
        · rw [List.mem_singleton.mp z]
          exact ⟨r0, by omega, s0, s1⟩
      · obtain ⟨h1, h2, h3⟩ := h
        have n5 := n4.trans n
        have hRL5 := n.hh _ _ aRL hRL4
        have gRL5 : G1 RL = none := n.loc hRL4 gRL4
        have pr5 := paired_mono (R := rMRow) n.gg pr
        have hD0 : H D = none := n4.free hD
        have lu := paired_len prq
        refine ⟨fun σ H' => ∃ (z4 : Option V) (Gc : Hp) (us : List V) (ys : MRow), σ = [some (.ref a), some (.int kk), some (.int m), some (.ref RL), z4, some (.ref D), none, none, none] ∧ Nw (fun c => c = a) G H Gc H' ∧ StAt Gc H' a ∧ H' RL = some (.lst vs) ∧ Gc RL = none ∧ Paired (rMRow Gc) vs rs ∧ H' D = some (.lst us) ∧ Gc D = none ∧ Paired (rPr rInt rInt Gc) us ys ∧ RowOk kk m ys, ⟨_, rfl, D, rfl, ⟨_, SqL.of hDc⟩, fun E hE => ?_⟩, ?_⟩
        · refine lcM (ys := (ys.map fun e : Int × Int => e.1).map V.int) (walk_list (xs := us)) (by simp [lu]) (by omega) (fun l => SqL.of (get_new hDc hE)) (fun i y y' l Ky hy hy' hk => ?_) ?_
          · obtain ⟨e, he, t, ta, tb, rfl, ht, rta, rtb⟩ := paired_get prq hy
            have rta : ta = .int e.1 := rta
            subst rta
            rw [List.getElem?_map, List.getElem?_map, he] at hy'
            obtain rfl := (Option.some.inj hy').symm
            exact ⟨rfl, _, rfl, t, _, _, _, rfl, rfl, SqT.of (get_new (n.gh _ _ ht) hE), rfl, hk⟩
          have n6 := n5.allocH (o := .lst ((ys.map fun e : Int × Int => e.1).map V.int)) hE
          have st6 := h3.new (o := .lst ((ys.map fun e : Int × Int => e.1).map V.int)) hE
          have hD6 := get_new (o := .lst ((ys.map fun e : Int × Int => e.1).map V.int)) hDc hE
          have hRL6 := get_new (o := .lst ((ys.map fun e : Int × Int => e.1).map V.int)) hRL5 hE
          have hE6 : upd H1 E (.lst ((ys.map fun e : Int × Int => e.1).map V.int)) E = some (.lst ((ys.map fun e : Int × Int => e.1).map V.int)) := upd_same
          refine ⟨E, ys.map (fun e : Int × Int => e.1), rfl, SqL.of hE6, rfl, _, rfl, ?_⟩
          generalize upd H1 E (.lst ((ys.map fun e : Int × Int => e.1).map V.int)) = H6 at n6 st6 hD6 hRL6
          refine ite2 (fun c => ?_) fun c => ?_
          · refine ⟨_, rfl, G1, a, 4, rfl, n6.gh, st6, by decide, fun r H7 r0 r1 n7 st7 => ⟨_, _, rfl, rfl, ?_⟩⟩
            have r1 : r < 4 := r1
            refine ⟨_, rfl, _, _, rfl, rfl, len_ok (show 2 ≤ 100000 by decide), fun q hq => ?_⟩
            have aq : q ≠ a := fun e => by
              obtain ⟨_, l, ns, i1, i2, i3, i4, h1, _⟩ := st7
              rw [e, h1] at hq
              cases hq
            have hRL7 := n7.hh _ _ aRL hRL6
            have hD7 := n7.hh _ _ aD hD6
            have qRL : RL ≠ q := ne_of_none hRL7 hq
            have qD : D ≠ q := ne_of_none hD7 hq
            have n8 := (n6.trans n7).alloc (o := .tup [.int (1 + r), .int (m - 1)]) hq
            have st8 : StAt (upd G1 q (.tup [.int (1 + r), .int (m - 1)])) (upd H7 q (.tup [.int (1 + r), .int (m - 1)])) a := (st7.new hq).mono (same_new (n6.gh.free (n7.free hq))) (by rw [upd_ne (Ne.symm aq)]; exact st7.1)
            have hRL8 := get_new (o := .tup [.int (1 + r), .int (m - 1)]) hRL7 hq
            have hD8 := get_new (o := .tup [.int (1 + r), .int (m - 1)]) hD7 hq
            have gs : Same G1 (upd G1 q (.tup [.int (1 + r), .int (m - 1)])) := same_new (n6.gh.free (n7.free hq))
            have hq8 : upd G1 q (.tup [.int (1 + r), .int (m - 1)]) q = some (.tup [.int (1 + r), .int (m - 1)]) := upd_same
            have gRL8 : upd G1 q (.tup [.int (1 + r), .int (m - 1)]) RL = none := by rw [upd_ne qRL]; exact gRL5
            have gD8 : upd G1 q (.tup [.int (1 + r), .int (m - 1)]) D = none := by rw [upd_ne qD]; exact gD
            generalize upd G1 q (.tup [.int (1 + r), .int (m - 1)]) = G8 at n8 st8 gs hq8 gRL8 gD8
            generalize upd H7 q (.tup [.int (1 + r), .int (m - 1)]) = H8 at n8 st8 hRL8 hD8
            refine ⟨_, rfl, _, rfl, _, rfl, G8, a, kk, rfl, n8.gh, st8, by omega, fun j H9 j0 j1 n9 st9 => ?_⟩
            obtain ⟨jn, rfl⟩ := Int.eq_ofNat_of_zero_le j0
            have j1 : (jn : Int) < kk := by
              revert j1
              split <;> intro j1 <;> omega
            refine ⟨D, us, jn, jn, rfl, rfl, n9.hh _ _ aD hD8, by unfold ixN; rw [if_pos (by omega), if_pos (by omega)]; rfl, ?_⟩
            have hl : jn < ys.length := by omega
            have nn : ∀ e ∈ ys.set jn (1 + r, (m : Int) - 1), 0 ≤ e.1 ∧ e.1 ≤ 4 ∧ 0 ≤ e.2 ∧ e.2 < (m : Int) := fun e he => by
              rcases List.mem_or_eq_of_mem_set he with z | z
              · exact h2 e z
              · rw [z]
                exact ⟨by show 0 ≤ 1 + r; omega, by show 1 + r ≤ 4; omega, by show 0 ≤ (m : Int) - 1; omega, by show (m : Int) - 1 < m; omega⟩
            refine ⟨_, G8, us.set jn (.ref q), ys.set jn (1 + r, (m : Int) - 1), rfl, (n8.trans n9).putH hD0 gD8, st9.put aD, ?_, gRL8, paired_mono (R := rMRow) gs pr5, upd_same, gD8, paired_set ⟨q, _, _, rfl, hq8, rfl, rfl⟩ jn (paired_mono (R := rPr rInt rInt) gs prq), ⟨by rw [List.length_set]; exact h1, nn, ?_⟩⟩
            · rw [upd_ne nRD]
              exact n9.hh _ _ aRL hRL8
            · exact sum_ge1 (fun e he => (nn e he).1) (List.mem_set hl _) (by show 1 ≤ 1 + r; omega)
          · have c : (ys.map fun e : Int × Int => e.1).sum ≠ 0 := fun e => c (by rw [e]; rfl)
            have nn := sum_ge0 (l := ys) fun e he => (h2 e he).1
            exact ⟨_, G1, us, ys, rfl, n6, st6, hRL6, gRL5, pr5, hD6, gD, prq, ⟨h1, h2, by omega⟩⟩
        · rintro σ H6 ⟨z4, G6, us, ys, rfl, n6, st6, hRL6, gRL6, pr6, hD6, gD6, prq6, rok⟩
          refine ⟨_, rfl, tyL hRL6, _, rfl, RL, vs, _, rfl, rfl, hRL6, by have := paired_len pr6; rw [sizeLine_eq]; omega, ?_⟩
          have n7 := n6.frz hD0 hD6
          have g7 : upd G6 D (.lst us) RL = none := by rw [upd_ne nRD]; exact gRL6
          have gs : Same G6 (upd G6 D (.lst us)) := same_new gD6
          refine ⟨z4, _, upd G6 D (.lst us), vs ++ [.ref D], rs ++ [ys], rfl, n7.putH gRL g7, (st6.mono gs (by rw [upd_ne (Ne.symm aD)]; exact st6.1)).put aRL, upd_same, g7, paired_snoc ⟨D, us, rfl, upd_same, paired_mono (R := rPr rInt rInt) gs prq6⟩ (paired_mono (R := rMRow) gs pr6), by rw [List.length_append, rl]; rfl, fun r hr => ?_⟩
          rcases List.mem_append.mp hr with z | z
          · exact ro r z
          · rw [List.mem_singleton.mp z]
            exact rok
    · rintro σ H4 ⟨z4, z5, Gc, vs, rs, rfl, n4, st4, hRL4, gRL4, pr, rl, ro⟩
      refine ⟨_, rfl, Gc, a, 3, rfl, n4.gh, st4, by decide, fun l0 H5 l00 l01 n5 st5 => ⟨_, _, rfl, rfl, ?_⟩⟩
      have l01 : l0 < 3 := l01
      have hRL5 := n5.hh _ _ aRL hRL4
      refine ⟨fun σ H' => ∃ ln : Int, σ = [some (.ref a), some (.int kk), some (.int m), some (.ref RL), z4, z5, some (.int ln), none, none] ∧ 0 ≤ ln ∧ ln ≤ 3 ∧ Nw (fun c => c = a) G H Gc H' ∧ StAt Gc H' a ∧ H' RL = some (.lst vs), ⟨_, rfl, Gc, a, 6, rfl, n5.gh, st5, by decide, fun q H6 q0 q1 n6 st6 => ⟨rfl, _, rfl, ite2 (fun c => ?_) fun c => ?_⟩⟩, ?_⟩
      · exact ⟨0, rfl, by decide, by decide, (n4.trans n5).trans n6, st6, n6.hh _ _ aRL hRL5⟩
      · exact ⟨1 + l0, rfl, by omega, by omega, (n4.trans n5).trans n6, st6, n6.hh _ _ aRL hRL5⟩
      rintro σ H6 ⟨ln, rfl, ln0, ln3, n6, st6, hRL6⟩
      refine ⟨_, rfl, kk, rfl, _, rfl, by decide +kernel, ?_⟩
      refine ⟨_, rfl, _, rfl, Gc, a, m, rfl, n6.gh, st6, by omega, fun s0 H7 s00 s01 n7 st7 => ⟨_, rfl, _, rfl, len_ok (show 4 ≤ 100000 by decide), fun p hp => ?_⟩⟩
      have s01 : s0 < m := by
        revert s01
        split <;> intro s01 <;> omega
      have hRL7 := n7.hh _ _ aRL hRL6
      have n8 := (n6.trans n7).frz gRL hRL7
      have n9 := n8.alloc (o := .lst [.str (alOf kk), .int s0, .ref RL, .int ln]) hp
      have pRL : RL ≠ p := ne_of_none hRL7 hp
      have ap : p ≠ a := fun e => by
        obtain ⟨_, l, ns, i1, i2, i3, i4, h1, _⟩ := st7
        rw [e, h1] at hp
        cases hp
      have g1 : Same Gc (upd Gc RL (.lst vs)) := same_new gRL4
      have g2 : Same Gc (upd (upd Gc RL (.lst vs)) p (.lst [.str (alOf kk), .int s0, .ref RL, .int ln])) := g1.trans (same_new (by rw [upd_ne (Ne.symm pRL)]; exact n6.gh.free (n7.free hp)))
      refine k ⟨alOf kk, s0, rs, ln⟩ kk m ⟨kk1, kk3, by omega, by omega, rfl, by show (rs.length : Int) = m; rw [rl], ro, s00, s01, ln0, ln3⟩ _ _ _ n9 ⟨p, RL, rfl, upd_same, RL, vs, rfl, by rw [upd_ne pRL]; exact upd_same, paired_mono (R := rMRow) g2 pr⟩ ((st7.new hp).mono g2 ?_)
      rw [upd_ne (Ne.symm ap), upd_ne (Ne.symm aRL)]
      exact st7.1
end
end Mk

-- W2
set_option Elab.async false
set_option linter.all false
set_option maxRecDepth 100000
set_option maxHeartbeats 4000000
set_option exponentiation.threshold 20000
namespace Mk
open PySem PySem.Spec PyProof.Rows L2
open C8 (InsC call_isC)
theorem lcx_eq {u t : Int} (hu : 0 < u) (ht : 0 < t) : u * t / (Int.gcd u t : Nat) = lcmI u t := by
  obtain ⟨x, rfl⟩ := Int.eq_ofNat_of_zero_le (Int.le_of_lt hu)
  obtain ⟨y, rfl⟩ := Int.eq_ofNat_of_zero_le (Int.le_of_lt ht)
  show ((x : Int) * (y : Int)) / ((x.gcd y : Nat) : Int) = ((x.lcm y : Nat) : Int)
  rw [Nat.lcm, Int.natCast_ediv, Int.natCast_mul]
theorem bits1 : ∀ a : Fin 145, 1 ≤ a.val → 1 ≤ Builtin.Int.intBits (a.val : Int) ∧ Builtin.Int.intBits (a.val : Int) < 1000 := by decide +kernel
theorem bits2 : ∀ b : Fin 13, 1 ≤ b.val → (b.val : Int) < 2 * (1 + (Builtin.Int.intBits (b.val : Int) : Int)) + 4 ∧ Builtin.Int.intBits (b.val : Int) < 1000 := by decide +kernel
theorem bits_ok {a b : Int} (a1 : 1 ≤ a) (a2 : a ≤ 144) (b1 : 1 ≤ b) (b2 : b ≤ 12) : b < 2 * ((Builtin.Int.intBits a : Int) + (Builtin.Int.intBits b : Int)) + 4 ∧ Builtin.Int.intBits a < 1000 ∧ Builtin.Int.intBits b < 1000 := by
  obtain ⟨x, rfl⟩ := Int.eq_ofNat_of_zero_le (show 0 ≤ a by omega)
  obtain ⟨y, rfl⟩ := Int.eq_ofNat_of_zero_le (show 0 ≤ b by omega)
  have h1 := bits1 ⟨x, by omega⟩ (by show 1 ≤ x; omega)
  have h2 := bits2 ⟨y, by omega⟩ (by show 1 ≤ y; omega)
  have h1 : 1 ≤ Builtin.Int.intBits (x : Int) ∧ Builtin.Int.intBits (x : Int) < 1000 := h1
  have h2 : (y : Int) < 2 * (1 + (Builtin.Int.intBits (y : Int) : Int)) + 4 ∧ Builtin.Int.intBits (y : Int) < 1000 := h2
  exact ⟨by omega, h1.2, h2.2⟩
theorem unitL_take {rs : List MRow} {i : Nat} {r : MRow} (h : rs[i]? = some r) : unitL 1 (rs.take (i + 1)) = lcmI (unitL 1 (rs.take i)) (rowT r) := by
  rw [List.take_add_one, h]
  unfold unitL
  rw [List.foldl_append]
  rfl
theorem signs_let (z : Str) : signs z = (letters z).map V.str := by
  unfold signs letters
  rw [List.map_map]
  rfl
theorem at_int {α : Type} {xs : List α} {i : Int} (h0 : 0 ≤ i) (h1 : i < xs.length) : atI xs i = xs[i.toNat]? := by
  have e : i = (i.toNat : Int) := (Int.toNat_of_nonneg h0).symm
  have := at_nat (xs := xs) (i := i.toNat) (by omega)
  rw [← e] at this
  exact this
theorem bg_le {s : Spc} {k : Nat} {m : Int} (S : SpOk s k m) {n : Nat} (hn : n ≤ 3) {b : Bg} (h : b ∈ bgs s n) : 1 ≤ b.2.1 ∧ b.2.1 ≤ 2985984 := by
  have W := mwords_ok S hn
  have hb : wdB b ∈ mwords s n := List.mem_map.mpr ⟨b, h, rfl⟩
  have h1 := W.pos _ hb
  have h2 := mem_le W.pos _ hb
  rw [mwords_total S] at h2
  obtain ⟨u1, _, u3⟩ := S.unit
  have h3 := (pow_le3 u1 u3 n hn).2
  exact ⟨h1, Int.le_trans h2 h3⟩
/-- a beginning, as the law keeps it: text, state, weight -/
def rBL : Rep Bg := fun G v b => rTr rStr rInt rInt G v (b.1, b.2.2, b.2.1)
instance : Mono rBL := ⟨fun s h => Mono.mono (R := rTr rStr rInt rInt) s h⟩
theorem grow_take {u : Int} {ls : List Str} {rs : List MRow} {bs : List Bg} {j : Nat} {b : Bg} (h : bs[j]? = some b) : grow u ls rs (bs.take (j + 1)) = grow u ls rs (bs.take j) ++ growR (u / rowT (rowAt rs b.2.2)) ls (rowAt rs b.2.2) b := by
  rw [List.take_add_one, h]
  unfold grow
  rw [List.flatMap_append]
  show _ ++ List.flatMap _ [b] = _
  rw [List.flatMap_singleton]
section
variable {P : Program} {w : World} {K : PySem.W.Frag} {mg : Str → Option Value} {base : Heap}
def spWrd : Sp := fun vs H Q _ => ∃ (G : Hp) (v : V) (s : Spc) (k : Nat) (m : Int) (n : Nat), vs = [v, .int n] ∧ Same G H ∧ rSpc G v s ∧ SpOk s k m ∧ n ≤ 3 ∧ Ret nM G H rWds (mwords s n) Q
theorem sc__law_words : FnScope ["_law_spec_here", "_law_length", "_law_unit", "_law_row", "_law_total", "_law_found", "_law_k", "_law_longer", "_law_text_here", "_law_at", "_law_weight_here", "_law_sign", "_law_pair", "_law_word"] ["_law_spec_here", "_law_length"] (defScope s__law_words) := ⟨rfl, rfl, rfl, by decide +kernel, rfl, by decide +kernel, by decide +kernel⟩
theorem ok__law_words (T : Tx K mg) : Ok P w K mg base 2 (He.ga K "_law_words") ["_law_spec_here", "_law_length"] spWrd := by
  refine ok_mk (f__law_words T) (df_kp (f__law_words T)) sc__law_words (fun _ _ _ _ _ _ us hl => match us, hl with | [_, _], _ => rfl) (fun vs H Q E h => ?_) (fun cdv A outer s H vs Q E hr h => ?_)
  · obtain ⟨G, v, s, k, m, n, rfl, _⟩ := h
    rfl
  · obtain ⟨G, v, sp, kk, m, n, rfl, sm, ⟨p, q, rfl, hp, q', rvs, e, hq, prq⟩, S, hn, k⟩ := h
    obtain rfl := V.ref.inj e
    refine ⟨_, (pss_cons (ps_set (i := 2) sc__law_words.nd rfl (Or.inl rfl) pe_int)
      (pss_cons (ps_for PassesOwn.never rfl (pi_list (pe_ix ix_list (pv 0) pe_int (fun _ _ => rfl))) (pg_name (i := 3) sc__law_words.nd rfl (Or.inl rfl))
      (pss_cons (ps_set (i := 4) sc__law_words.nd rfl (Or.inl rfl) (pe_callB (cr_sum rfl) (by rfl) (b_sum T) (by decide +kernel) (pa_cons (pe_lc (own := [("_law_pair", 12)]) (g := (gName 12)) (tt := tYes) rfl sc__law_words.nd (pi_list (pv 3)) (blkOk_by (N := ["_law_spec_here", "_law_length", "_law_unit", "_law_row", "_law_total", "_law_found", "_law_k", "_law_longer", "_law_text_here", "_law_at", "_law_weight_here", "_law_sign", "_law_pair", "_law_word"]) (sc := defScope s__law_words) (by decide +kernel)) (fun _ _ _ _ _ => (pg_name (i := 12) sc__law_words.nd rfl (Or.inl rfl))) (fun _ _ _ _ _ => pts_nil) (fun _ _ _ _ _ => (pe_ix (show IxR _ (rIxT K) from ix_tup) (pv 12) pe_int (fun _ _ => rfl)))) pa_nil)))
      (pss_one (ps_set (i := 2) sc__law_words.nd rfl (Or.inl rfl) (pe_op op_fdivW (pe_op op_mulX (pv 2) (pv 4)) (pe_c (ok__law_gcd T) (hr.mono (by decide)) rfl (g__law_gcd T) (pa_cons (pv 2) (pa_cons (pv 4) pa_nil))))))))
      (pss_cons (ps_set (i := 5) sc__law_words.nd rfl (Or.inl rfl) (pe_lst (pa_cons (pe_tup (pa_cons pe_str (pa_cons (pe_ix ix_list (pv 0) pe_int (fun _ _ => rfl)) (pa_cons pe_int pa_nil)))) pa_nil)))
      (pss_cons (ps_for PassesOwn.never rfl (pi_range1 (by rfl) (b_range T) (pa_cons (pv 1) pa_nil)) (pg_name (i := 6) sc__law_words.nd rfl (Or.inl rfl))
      (pss_cons (ps_set (i := 7) sc__law_words.nd rfl (Or.inl rfl) (pe_lst pa_nil))
      (pss_cons (ps_for PassesOwn.never rfl (pi_list (pv 5)) (pg_tup rfl (pgs_cons (pg_name (i := 8) sc__law_words.nd rfl (Or.inl rfl)) (pgs_cons (pg_name (i := 9) sc__law_words.nd rfl (Or.inl rfl)) (pgs_cons (pg_name (i := 10) sc__law_words.nd rfl (Or.inl rfl)) pgs_nil))))
      (pss_cons (ps_set (i := 4) sc__law_words.nd rfl (Or.inl rfl) (pe_callB (cr_sum rfl) (by rfl) (b_sum T) (by decide +kernel) (pa_cons (pe_lc (own := [("_law_pair", 12)]) (g := (gName 12)) (tt := tYes) rfl sc__law_words.nd (pi_list (pe_ix ix_list (pe_ix ix_list (pv 0) pe_int (fun _ _ => rfl)) (pv 9) (fun _ _ => rfl))) (blkOk_by (N := ["_law_spec_here", "_law_length", "_law_unit", "_law_row", "_law_total", "_law_found", "_law_k", "_law_longer", "_law_text_here", "_law_at", "_law_weight_here", "_law_sign", "_law_pair", "_law_word"]) (sc := defScope s__law_words) (by decide +kernel)) (fun _ _ _ _ _ => (pg_name (i := 12) sc__law_words.nd rfl (Or.inl rfl))) (fun _ _ _ _ _ => pts_nil) (fun _ _ _ _ _ => (pe_ix (show IxR _ (rIxT K) from ix_tup) (pv 12) pe_int (fun _ _ => rfl)))) pa_nil)))
      (pss_one (ps_for PassesOwn.never rfl (pi_zipX (by rfl) (b_zip T) (pa_cons (pe_ix ix_list (pv 0) pe_int (fun _ _ => rfl)) (pa_cons (pe_ix ix_list (pe_ix ix_list (pv 0) pe_int (fun _ _ => rfl)) (pv 9) (fun _ _ => rfl)) pa_nil))) (pg_tup rfl (pgs_cons (pg_name (i := 11) sc__law_words.nd rfl (Or.inl rfl)) (pgs_cons (pg_name (i := 12) sc__law_words.nd rfl (Or.inl rfl)) pgs_nil)))
      (pss_one (ps_if (pt_cmpR op_gt (pe_ix ix_tup (pv 12) pe_int (fun _ _ => rfl)) pe_int (nomark _))
        (pss_one (ps_expr (pe_bm PySem.F.plainAttrs_list PySem.F.slot_list_append PySem.F.type_list_append mt_append (pv 7) (pa_cons (pe_tup (pa_cons (pe_op op_add_str (pv 8) (pv 11)) (pa_cons (pe_ix ix_tup (pv 12) pe_int (fun _ _ => rfl)) (pa_cons (pe_op op_mulX (pe_op op_mulX (pv 10) (pe_ix ix_tup (pv 12) pe_int (fun _ _ => rfl))) (pe_op op_fdivW (pv 2) (pv 4))) pa_nil)))) pa_nil))))
        pss_nil))))))
      (pss_one (ps_set (i := 5) sc__law_words.nd rfl (Or.inl rfl) (pv 7))))))
      (pss_one (ps_ret (pe_lc (own := [("_law_word", 13)]) (g := (gName 13)) (tt := tYes) rfl sc__law_words.nd (pi_list (pv 5)) (blkOk_by (N := ["_law_spec_here", "_law_length", "_law_unit", "_law_row", "_law_total", "_law_found", "_law_k", "_law_longer", "_law_text_here", "_law_at", "_law_weight_here", "_law_sign", "_law_pair", "_law_word"]) (sc := defScope s__law_words) (by decide +kernel)) (fun _ _ _ _ _ => (pg_name (i := 13) sc__law_words.nd rfl (Or.inl rfl))) (fun _ _ _ _ _ => pts_nil) (fun _ _ _ _ _ => (pe_tup (pa_cons (pe_ix (show IxR _ (rIxT K) from ix_tup) (pv 13) pe_int (fun _ _ => rfl)) (pa_cons (pe_ix (show IxR _ (rIxT K) from ix_tup) (pv 13) pe_int (fun _ _ => rfl)) pa_nil))))))))))), ?_⟩
    have hpH := sm _ _ hp
    have hqH := sm _ _ hq
    obtain ⟨u1, u2, u3⟩ := S.unit
    have mm := S.many
    have m2 := S.m2
    have k3 := S.k3
    have lq := paired_len prq
    have rb : ∀ r ∈ sp.rows, 1 ≤ rowT r ∧ rowT r ≤ 12 := fun r hr => by
      have h1 := (S.rows r hr).pos
      have h2 := rowT_le (S.rows r hr)
      exact ⟨h1, by omega⟩
    refine ⟨_, rfl, p, _, _, .ref q, rfl, rfl, SqL.of hpH, rfl, q, rfl, ⟨_, SqL.of hqH⟩, ?_⟩
    refine for_it (walk_list (xs := rvs)) (fun i σ H' => ∃ (z3 z4 : Option V), σ = [some (.ref p), some (.int n), some (.int (unitL 1 (sp.rows.take i))), z3, z4, none, none, none, none, none, none, none, none, none] ∧ Nw nM G H G H')
      ⟨none, none, rfl, Nw.refl sm⟩ (fun i σ H' _ h => by obtain ⟨z3, z4, rfl, n⟩ := h; exact SqL.of (n.gh _ _ hq)) ?_ ?_
    · rintro i y σ H1 H2 hi ⟨z3, z4, rfl, n1⟩ ⟨rfl, hy⟩
      obtain ⟨r, hri, pr, us, rfl, hpr, prr⟩ := paired_get prq hy
      have hr0 := List.mem_of_getElem? hri
      obtain ⟨b1, b2⟩ := rb r hr0
      have hprH := n1.gh _ _ hpr
      have lu := paired_len prr
      have rl := (S.rows r hr0).len
      refine ⟨_, rfl, pr, rfl, ⟨_, SqL.of hprH⟩, fun E hE => ?_⟩
      refine lcM (ys := (r.map fun e : Int × Int => e.1).map V.int) (walk_list (xs := us)) (by simp [lu]) (by omega) (fun l => SqL.of (get_new hprH hE)) (fun i y y' l Ky hy hy' hk => ?_) ?_
      · obtain ⟨e, he, t, ta, tb, rfl, ht, rta, rtb⟩ := paired_get prr hy
        have rta : ta = .int e.1 := rta
        subst rta
        rw [List.getElem?_map, List.getElem?_map, he] at hy'
        obtain rfl := (Option.some.inj hy').symm
        exact ⟨rfl, _, rfl, t, _, _, _, rfl, rfl, SqT.of (get_new (n1.gh _ _ ht) hE), rfl, hk⟩
      have n2 := n1.allocH (o := .lst ((r.map fun e : Int × Int => e.1).map V.int)) hE
      refine ⟨E, r.map (fun e : Int × Int => e.1), rfl, SqL.of upd_same, ?_⟩
      have pu := unitL_ok (rs := sp.rows.take i) (u := 1) (by decide) fun r hr => rb r (List.mem_of_mem_take hr)
      have pl : unitL 1 (sp.rows.take i) ≤ 144 := by
        have h1 := pu.2.2.2
        have hl : (sp.rows.take i).length ≤ 2 := by rw [List.length_take]; omega
        have h : (12 : Int) ^ (sp.rows.take i).length ≤ 144 := by
          match (sp.rows.take i).length, hl with
          | 0, _ => decide
          | 1, _ => decide
          | 2, _ => decide
        omega
      have bo := bits_ok pu.1 pl b1 b2
      refine ⟨_, rfl, _, rfl, _, _, rfl, rfl, mulx_ok (a := 20) (b := 20) (by omega) (by show (rowT r).natAbs < _; omega) (by decide), ?_⟩
      refine ⟨_, rfl, _, rfl, _, _, rfl, Int.le_of_lt pu.1, by show 0 ≤ rowT r; omega, bo.1, bo.2.1, bo.2.2, ?_⟩
      have gp : 0 < Int.gcd (unitL 1 (sp.rows.take i)) (rowT r) := Int.gcd_pos_of_ne_zero_left _ (by have := pu.1; omega)
      have gl : Int.gcd (unitL 1 (sp.rows.take i)) (rowT r) ≤ 12 := by
        have := Nat.le_of_dvd (show 0 < (rowT r).natAbs by omega) (Nat.gcd_dvd_right (unitL 1 (sp.rows.take i)).natAbs (rowT r).natAbs)
        exact Nat.le_trans this (by omega)
      refine ⟨_, _, rfl, rfl, wide_div (b := 20) (by show (0 : Int) < ((Int.gcd (unitL 1 (sp.rows.take i)) (rowT r) : Nat) : Int); omega) (by show ((Int.gcd (unitL 1 (sp.rows.take i)) (rowT r) : Nat) : Int).natAbs < _; omega) (by decide) (by decide), ?_⟩
      refine ⟨some (.ref pr), some (.int (rowT r)), ?_, n2⟩
      rw [unitL_take hri, ← lcx_eq pu.1 (show 0 < rowT r by omega)]
      rfl
    · rintro σ H1 ⟨z3, z4, rfl, n1⟩
      rw [lq, List.take_length]
      have hu : unitL 1 sp.rows = unitS sp := rfl
      rw [hu]
      refine ⟨_, rfl, p, _, _, .int sp.st, rfl, rfl, SqL.of (n1.gh _ _ hp), rfl, len_ok (show 3 ≤ 100000 by decide), fun t0 ht0 => ⟨len_ok (show 1 ≤ 100000 by decide), fun F0 hF0 => ?_⟩⟩
      have n2 := n1.alloc (o := .tup [.str "", .int sp.st, .int 1]) ht0
      have n3 := n2.alloc (o := .lst [.ref t0]) hF0
      have tF : t0 ≠ F0 := ne_of_none upd_same hF0
      have f3 : upd (upd G t0 (.tup [.str "", .int sp.st, .int 1])) F0 (.lst [.ref t0]) F0 = some (.lst [.ref t0]) := upd_same
      have pf3 : Paired (rBL (upd (upd G t0 (.tup [.str "", .int sp.st, .int 1])) F0 (.lst [.ref t0]))) [.ref t0] (bgs sp 0) := .cons ⟨t0, _, _, _, rfl, by rw [upd_ne tF]; exact upd_same, rfl, rfl, rfl⟩ .nil
      refine ⟨_, rfl, _, rfl, by omega, by omega, ?_⟩
      have wk : Walk (Itr 0 ((n : Int)).toNat) n (fun _ => True) (YFn fun i => .int (0 + (i : Nat))) := by rw [Int.toNat_natCast]; exact walk_range
      refine for_it wk (fun i σ H' => ∃ (z3 z4 z6 z7 z8 z9 z10 z11 z12 : Option V) (f : Addr) (fv : List V) (Gc : Hp), σ = [some (.ref p), some (.int n), some (.int (unitS sp)), z3, z4, some (.ref f), z6, z7, z8, z9, z10, z11, z12, none] ∧ Nw nM G H Gc H' ∧ Gc f = some (.lst fv) ∧ Paired (rBL Gc) fv (bgs sp i))
        ⟨z3, z4, none, none, none, none, none, none, none, F0, _, _, rfl, n3, f3, pf3⟩ (fun _ _ _ _ _ => trivial) ?_ ?_
      · rintro i y σ Hx H4 hi ⟨z3, z4, z6, z7, z8, z9, z10, z11, z12, f, fv, Gc, rfl, n4, hf, prf⟩ ⟨rfl, rfl⟩
        refine ⟨Nat.zero_le _, fun L hL => ?_⟩
        have gL : Gc L = none := n4.gh.free hL
        have n5 := (Nw.refl (M := nM) n4.gh).allocH (o := .lst []) hL
        have lf := paired_len prf
        have bl := bgs_len S i
        have h27 : (3 : Nat) ^ i ≤ 27 := Nat.pow_le_pow_right (n := 3) (by decide) (show i ≤ 3 by omega)
        refine ⟨_, rfl, f, rfl, ⟨_, SqL.of (n5.gh _ _ hf)⟩, ?_⟩
        refine for_it (walk_list (xs := fv)) (fun j σ H' => ∃ (z4 z8 z9 z10 z11 z12 : Option V) (Gd : Hp) (lv : List V), σ = [some (.ref p), some (.int n), some (.int (unitS sp)), z3, z4, some (.ref f), some (.int (0 + (i : Nat))), some (.ref L), z8, z9, z10, z11, z12, none] ∧ Nw nM Gc H4 Gd H' ∧ H' L = some (.lst lv) ∧ Gd L = none ∧ Paired (rBL Gd) lv (grow (unitS sp) (letters sp.al) sp.rows ((bgs sp i).take j)))
          ⟨z4, z8, z9, z10, z11, z12, Gc, [], rfl, n5, upd_same, gL, .nil⟩ (fun j σ H' _ h => by obtain ⟨z4, z8, z9, z10, z11, z12, Gd, lv, rfl, n, _⟩ := h; exact SqL.of (n.gh _ _ (n.gg _ _ hf))) ?_ ?_
        · rintro j y σ Hy H6 hj ⟨z4, z8, z9, z10, z11, z12, Gd, lv, rfl, n6, hL6, gL6, prl⟩ ⟨rfl, hy⟩
          obtain ⟨b, hbj, t, ta, tb, tc, rfl, ht, rta, rtb, rtc⟩ := paired_get prf hy
          have rta : ta = .str b.1 := rta
          have rtb : tb = .int b.2.2 := rtb
          have rtc : tc = .int b.2.1 := rtc
          subst rta rtb rtc
          have hb := List.mem_of_getElem? hbj
          obtain ⟨b1, b2, b3, b4⟩ := (bgs_ok S i).each b hb
          obtain ⟨w1, w2⟩ := bg_le S (show i ≤ 3 by omega) hb
          obtain ⟨hra, hrm⟩ := rowAt_mem (rs := sp.rows) b3 (by omega)
          obtain ⟨rv, hrv, pr, us, rfl, hpr, prr⟩ := paired_get' prq hra
          have gcd : Same G Gd := n4.gg.trans n6.gg
          obtain ⟨r1, r2⟩ := rb _ hrm
          have rl := (S.rows _ hrm).len
          have rq := (S.rows _ hrm).q
          have lu := paired_len prr
          generalize hrr : rowAt sp.rows b.2.2 = r at hra hrm prr r1 r2 rl rq lu
          have hai : atI rvs b.2.2 = some (.ref pr) := by rw [at_int b3 (by omega)]; exact hrv
          have hprH := n6.gh _ _ (gcd _ _ hpr)
          refine ⟨t, _, rfl, SqT.of (n6.gh _ _ (n6.gg _ _ ht)), rfl, _, _, rfl, _, _, rfl, _, _, rfl, rfl, ?_⟩
          refine ⟨_, rfl, p, _, _, .ref q, rfl, rfl, SqL.of (n6.gh _ _ (gcd _ _ hp)), rfl, _, rfl, q, _, _, .ref pr, rfl, rfl, SqL.of (n6.gh _ _ (gcd _ _ hq)), hai, pr, rfl, ⟨_, SqL.of hprH⟩, fun E hE => ?_⟩
          refine lcM (ys := (r.map fun e : Int × Int => e.1).map V.int) (walk_list (xs := us)) (by simp [lu]) (by omega) (fun l => SqL.of (get_new hprH hE)) (fun i y y' l Ky hy hy' hk => ?_) ?_
          · obtain ⟨e, he, t, ta, tb, rfl, ht, rta, rtb⟩ := paired_get prr hy
            have rta : ta = .int e.1 := rta
            subst rta
            rw [List.getElem?_map, List.getElem?_map, he] at hy'
            obtain rfl := (Option.some.inj hy').symm
            exact ⟨rfl, _, rfl, t, _, _, _, rfl, rfl, SqT.of (get_new (n6.gh _ _ (gcd _ _ ht)) hE), rfl, hk⟩
          have n7 := n6.allocH (o := .lst ((r.map fun e : Int × Int => e.1).map V.int)) hE
          have hL7 := get_new (o := .lst ((r.map fun e : Int × Int => e.1).map V.int)) hL6 hE
          refine ⟨E, r.map (fun e : Int × Int => e.1), rfl, SqL.of upd_same, ?_⟩
          have hrT : (r.map (fun e : Int × Int => e.1)).sum = rowT r := rfl
          rw [hrT]
          generalize upd H6 E (.lst ((r.map fun e : Int × Int => e.1).map V.int)) = H7 at n7 hL7
          have hprH := n7.gh _ _ (gcd _ _ hpr)
          obtain ⟨a1, _, a3⟩ := alOf_ok S.k1 S.k3
          rw [← S.al] at a1 a3
          have hc0 : 0 ≤ unitS sp / rowT r ∧ unitS sp / rowT r ≤ 144 := ⟨Int.ediv_nonneg (by omega) (by omega), Int.le_trans (Int.ediv_le_self _ (by omega)) u3⟩
          refine ⟨_, rfl, p, _, _, .str sp.al, rfl, rfl, SqL.of (n7.gh _ _ (gcd _ _ hp)), rfl, _, rfl, p, _, _, .ref q, rfl, rfl, SqL.of (n7.gh _ _ (gcd _ _ hp)), rfl, _, rfl, q, _, _, .ref pr, rfl, rfl, SqL.of (n7.gh _ _ (gcd _ _ hq)), hai, .txt sp.al, .lst pr, signs sp.al, us, rfl, rfl, Rd.of hprH, ?_⟩
          refine for_it (walk_zipX (q1 := .txt sp.al) (q2 := .lst pr) (xs := signs sp.al) (ys := us) (n := kk) (by rw [signs_let, List.length_map, a1, lu, rl, Nat.min_self])) (fun h σ H' => ∃ (z11 z12 : Option V) (Gd : Hp) (lv : List V), σ = [some (.ref p), some (.int n), some (.int (unitS sp)), z3, some (.int (rowT r)), some (.ref f), some (.int (0 + (i : Nat))), some (.ref L), some (.str b.1), some (.int b.2.2), some (.int b.2.1), z11, z12, none] ∧ Nw nM Gc H4 Gd H' ∧ H' L = some (.lst lv) ∧ Gd L = none ∧ lv.length ≤ 27 * 3 + h ∧ Paired (rBL Gd) lv (grow (unitS sp) (letters sp.al) sp.rows ((bgs sp i).take j) ++ (((letters sp.al).zip r).take h).filterMap (grow1 (unitS sp / rowT r) b)))
            ⟨z11, z12, Gd, lv, rfl, n7, hL7, gL6, ?_, by simpa using prl⟩ (fun h σ H' _ hh => by obtain ⟨z11, z12, Gd, lv, rfl, n, _⟩ := hh; exact ⟨rfl, Rd.of (n.gh _ _ (n.gg _ _ (n4.gg _ _ hpr)))⟩) ?_ ?_
          · have h1 := paired_len prl
            have h2 := grow_len (u := unitS sp) (ls := letters sp.al) (rs := sp.rows) (bs := (bgs sp i).take j)
            rw [a1, List.length_take] at h2
            have h3 : min j (bgs sp i).length * kk ≤ 27 * 3 := Nat.mul_le_mul (by omega) k3
            omega
          · rintro h y σ H8 H9 hh ⟨z11, z12, Ge, lv, rfl, n8, hL8, gL8, ll, prl⟩ ⟨T1, y1, y2, rfl, hT1, rfl, e1, e2⟩
            have e1 : (signs sp.al)[h]? = some y1 := e1
            rw [signs_let, List.getElem?_map] at e1
            have hlk : (letters sp.al)[h]? = some ((letters sp.al)[h]'(by omega)) := List.getElem?_eq_getElem (by omega)
            generalize ((letters sp.al)[h]'(by omega)) = l at hlk
            rw [hlk] at e1
            obtain rfl := (Option.some.inj e1).symm
            obtain ⟨q0, hqh, t, ta, tb, rfl, ht2, rta, rtb⟩ := paired_get prr e2
            have rta : ta = .int q0.1 := rta
            have rtb : tb = .int q0.2 := rtb
            subst rta rtb
            obtain ⟨p0, p4, _, _⟩ := rq q0 (List.mem_of_getElem? hqh)
            have l1 := a3 l (List.mem_of_getElem? hlk)
            have n9 := n8.allocH (o := .tup [.str l, .ref t]) hT1
            have hL9 := get_new (o := .tup [.str l, .ref t]) hL8 hT1
            have hT9 : upd H8 T1 (.tup [.str l, .ref t]) T1 = some (.tup [.str l, .ref t]) := upd_same
            generalize upd H8 T1 (.tup [.str l, .ref t]) = H9 at n9 hL9 hT9
            have htH := n9.gh _ _ (n9.gg _ _ (n4.gg _ _ ht2))
            have hz : ((letters sp.al).zip r)[h]? = some (l, q0) := by rw [List.getElem?_zip_eq_some]; exact ⟨hlk, hqh⟩
            refine ⟨T1, _, rfl, SqT.of hT9, rfl, _, _, rfl, _, _, rfl, rfl, ?_⟩
            refine ⟨_, rfl, t, _, _, .int q0.1, rfl, rfl, SqT.of htH, rfl, _, _, rfl, rfl, _, rfl, ite2 (fun c => ?_) fun c => ?_⟩
            · have c : 0 < q0.1 := of_decide_eq_true c
              refine ⟨_, rfl, tyL hL9, _, rfl, _, rfl, _, _, rfl, rfl, by rw [b1, l1, sizeLine_eq]; omega, _, rfl, t, _, _, .int q0.2, rfl, rfl, SqT.of htH, rfl, _, rfl, _, rfl, t, _, _, .int q0.1, rfl, rfl, SqT.of htH, rfl, _, _, rfl, rfl, mulx_ok (a := 30) (b := 10) (by omega) (by omega) (by decide), _, rfl, _, rfl, _, _, rfl, rfl, wide_div (b := 20) (by omega) (by omega) (by decide) (by decide), _, _, rfl, rfl, mulx_ok (a := 40) (b := 10) ?_ (by omega) (by decide), len_ok (show 3 ≤ 100000 by decide), fun N hN => ?_⟩
              · have h1 : b.2.1 * q0.1 ≤ 2985984 * 4 := Int.mul_le_mul w2 p4 (by omega) (by decide)
                have h2 : 0 ≤ b.2.1 * q0.1 := Int.mul_nonneg (by omega) p0
                omega
              have n10 := n9.alloc (o := .tup [.str (b.1 ++ l), .int q0.2, .int (b.2.1 * q0.1 * (unitS sp / rowT r))]) hN
              have LN : L ≠ N := ne_of_none hL9 hN
              have hL10 := get_new (o := .tup [.str (b.1 ++ l), .int q0.2, .int (b.2.1 * q0.1 * (unitS sp / rowT r))]) hL9 hN
              have g10 : upd Ge N (.tup [.str (b.1 ++ l), .int q0.2, .int (b.2.1 * q0.1 * (unitS sp / rowT r))]) L = none := by rw [upd_ne LN]; exact gL8
              have gs : Same Ge (upd Ge N (.tup [.str (b.1 ++ l), .int q0.2, .int (b.2.1 * q0.1 * (unitS sp / rowT r))])) := same_new (n9.gh.free hN)
              refine ⟨L, _, _, rfl, rfl, hL10, by rw [sizeLine_eq]; omega, ?_⟩
              refine ⟨_, _, _, _, rfl, n10.putH hL g10, upd_same, g10, by rw [List.length_append]; show _ + 1 ≤ _; omega, ?_⟩
              rw [List.take_add_one, hz, List.filterMap_append, ← List.append_assoc]
              have ef : List.filterMap (grow1 (unitS sp / rowT r) b) (some (l, q0)).toList = [(b.1 ++ l, b.2.1 * q0.1 * (unitS sp / rowT r), q0.2)] := by
                show List.filterMap _ [(l, q0)] = _
                have : grow1 (unitS sp / rowT r) b (l, q0) = some (b.1 ++ l, b.2.1 * q0.1 * (unitS sp / rowT r), q0.2) := if_pos c
                rw [List.filterMap_cons, this]
                rfl
              rw [ef]
              exact paired_snoc ⟨N, _, _, _, rfl, upd_same, rfl, rfl, rfl⟩ (paired_mono gs prl)
            · have c : ¬ 0 < q0.1 := by simpa using c
              refine ⟨_, _, Ge, lv, rfl, n9, hL9, gL8, by omega, ?_⟩
              have ef : List.filterMap (grow1 (unitS sp / rowT r) b) (some (l, q0)).toList = [] := by
                show List.filterMap _ [(l, q0)] = _
                have : grow1 (unitS sp / rowT r) b (l, q0) = none := if_neg c
                rw [List.filterMap_cons, this]
                rfl
              rw [List.take_add_one, hz, List.filterMap_append, ef, List.append_nil]
              exact prl
          · rintro σ H8 ⟨z11, z12, Ge, lv, rfl, n8, hL8, gL8, ll, prl⟩
            refine ⟨_, _, _, _, _, _, Ge, lv, rfl, n8, hL8, gL8, ?_⟩
            rw [grow_take hbj, hrr]
            have et : List.take kk ((letters sp.al).zip r) = (letters sp.al).zip r := List.take_of_length_le (by rw [List.length_zip, a1, rl]; omega)
            rw [et] at prl
            exact prl
        · rintro σ H6 ⟨z4, z8, z9, z10, z11, z12, Gd, lv, rfl, n6, hL6, gL6, prl⟩
          rw [lf, List.take_length] at prl
          have n7 := n6.frz hL hL6
          have gs : Same Gd (upd Gd L (.lst lv)) := same_new gL6
          exact ⟨_, rfl, _, _, _, _, _, _, _, _, _, L, lv, _, rfl, n4.trans n7, upd_same, paired_mono gs prl⟩
      · rintro σ H4 ⟨z3, z4, z6, z7, z8, z9, z10, z11, z12, f, fv, Gc, rfl, n4, hf, prf⟩
        have bl := bgs_len S n
        have h27 : (3 : Nat) ^ n ≤ 27 := Nat.pow_le_pow_right (n := 3) (by decide) hn
        have lf := paired_len prf
        refine ⟨_, rfl, f, rfl, ⟨_, SqL.of (n4.gh _ _ hf)⟩, fun D hD => ?_⟩
        refine lc_I (walk_list (xs := fv)) (M := nM) (rPr rStr rInt) (fun i ys Gc Hc => ys = ((bgs sp n).take i).map wdB) hD n4.gh (by omega) (fun i ys Gc Hc o _ h => h) rfl (fun Gc Hc n => SqL.of (n.gh _ _ (n.gg _ _ hf))) (fun z => z) (fun i x ys Gd Hc H' Ky Kn hi n5 h y k1 k2 => ?_) (fun ys vs Gd Hc n5 h hDc gD pr => ?_)
        · obtain ⟨rfl, hx⟩ := y
          obtain ⟨b, hbj, t, ta, tb, tc, rfl, ht, rta, rtb, rtc⟩ := paired_get prf hx
          have rta : ta = .str b.1 := rta
          have rtb : tb = .int b.2.2 := rtb
          have rtc : tc = .int b.2.1 := rtc
          subst rta rtb rtc h
          have htH := n5.gh _ _ (n5.gg _ _ ht)
          refine ⟨rfl, yes_ok ?_⟩
          refine ⟨_, rfl, t, _, _, .str b.1, rfl, rfl, SqT.of htH, rfl, _, rfl, t, _, _, .int b.2.1, rfl, rfl, SqT.of htH, rfl, len_ok (show 2 ≤ 100000 by decide), fun N hN => ?_⟩
          refine k1 _ _ _ (wdB b) ((Nw.refl n5.gh).alloc (o := .tup [.str b.1, .int b.2.1]) hN) ⟨N, _, _, rfl, upd_same, rfl, rfl⟩ ?_
          rw [List.take_add_one, hbj, List.map_append]
          rfl
        · subst h
          rw [lf, List.take_length] at pr
          have n6 := (n4.trans n5).frz (n4.free hD) hDc
          exact k _ _ _ n6 ⟨D, vs, rfl, upd_same, paired_mono (R := rPr rStr rInt) (same_new gD) pr⟩
end
end Mk

-- W3
set_option Elab.async false
set_option linter.all false
set_option maxRecDepth 100000
set_option maxHeartbeats 4000000
set_option exponentiation.threshold 20000
namespace Mk
open PySem PySem.Spec PyProof.Rows L2
open C8 (InsC call_isC)
theorem dc_I {J : It} {n : Nat} {Gd : Hp → Prop} {Y : Nat → Hp → V → Hp → Prop} (w : Walk J n Gd Y) {M : Addr → Prop} {G : Hp} {g : TG} {tk tv : TE} {own : List Nat} {σ : L2.St} {H1 : Hp} {D : Addr} {Qd : Hp → Prop}
    (I : Nat → List (Key × V) → Hp → Hp → Prop) (hD : H1 D = none) (s : Same G H1)
    (hI : ∀ i kvs Gc Hc o, I i kvs Gc Hc → I i kvs Gc (upd Hc D o)) (h0 : I 0 [] G (upd H1 D (.dK [])))
    (hG : ∀ Gc Hc, Nw M G H1 Gc Hc → Gd Hc) (hM : ¬ M D)
    (hs : ∀ i x kvs Gc Hc H' (Ky : V → V → Hp → Prop), i < n → Nw M G H1 Gc Hc → I i kvs Gc Hc → Y i Hc x H' →
      (∀ k z H5 G5, Nw M Gc Hc G5 H5 → I (i + 1) (putK kvs k z) G5 H5 → kvs.length < sizeLine → Ky (kV k) z H5) →
      g x (wipe σ own) H' fun σ2 H2 => wipe σ2 own = wipe σ own ∧ tk σ2 H2 fun y H4 => tv σ2 H4 fun z H5 => Ky y z H5)
    (hd : ∀ kvs Gc Hc, Nw M G H1 Gc Hc → I n kvs Gc Hc → Hc D = some (.dK kvs) → Gc D = none → Qd Hc) :
    ∃ W : Nat → Nat → Hp → Prop, (∃ m, W 0 m (upd H1 D (.dK []))) ∧ ∀ i m H, W i m H →
      (J.stop i H ∧ Qd H) ∨ (J.go i H ∧ ∃ Nx : Hp → Prop, (∀ H', Nx H' → ∃ m', m' < m ∧ W (i + 1) m' H') ∧ ∀ x H', J.yld i H x H' → g x (wipe σ own) H' fun σ2 H2 => wipe σ2 own = wipe σ own ∧ tYes σ2 H2 fun b H3 =>
        if b = true then tk σ2 H3 fun y H4 => tv σ2 H4 fun z H5 => ∃ kvs k, y = kV k ∧ H5 D = some (.dK kvs) ∧ kvs.length < sizeLine ∧ Nx (upd H5 D (.dK (putK kvs k z))) else Nx H3) := by
  refine ⟨fun i m Hc => m = n - i ∧ i ≤ n ∧ ∃ kvs Gc, Nw M G H1 Gc Hc ∧ I i kvs Gc Hc ∧ Hc D = some (.dK kvs) ∧ Gc D = none, ⟨n, by simp, Nat.zero_le _, [], G, (Nw.refl s).allocH hD, h0, upd_same, s.free hD⟩, ?_⟩
  rintro i m Hc ⟨rfl, hi, kvs, Gc, nw, hi2, hd2, hg2⟩
  by_cases hlt : i < n
  · refine .inr ⟨w.goes i Hc hlt (hG _ _ nw), fun H' => ∃ kvs Gc, Nw M G H1 Gc H' ∧ I (i + 1) kvs Gc H' ∧ H' D = some (.dK kvs) ∧ Gc D = none, fun H' q => ⟨n - (i + 1), by omega, rfl, hlt, q⟩, fun x H' y => ?_⟩
    have := hs i x kvs Gc Hc H' (fun y z H5 => ∃ kvs' k, y = kV k ∧ H5 D = some (.dK kvs') ∧ kvs'.length < sizeLine ∧ (fun H' => ∃ kvs Gc, Nw M G H1 Gc H' ∧ I (i + 1) kvs Gc H' ∧ H' D = some (.dK kvs) ∧ Gc D = none) (upd H5 D (.dK (putK kvs' k z)))) hlt nw hi2 (w.yields i Hc x H' hlt (hG _ _ nw) y)
      fun k z H5 G5 n5 i5 hl => ⟨kvs, k, rfl, n5.hh D _ hM hd2, hl, putK kvs k z, G5, (nw.trans n5).putH hD (n5.loc hd2 hg2), hI _ _ _ _ _ i5, upd_same, n5.loc hd2 hg2⟩
    exact this
  · have e : i = n := by omega
    subst e
    exact .inl ⟨w.stops Hc (hG _ _ nw), hd kvs Gc Hc nw hi2 hd2 hg2⟩
theorem part_new {u : Int} {ls : List Str} {rs : List MRow} {bs : List Bg} {j h : Nat} {b x : Bg} {p : Str × (Int × Int)} (nd : ((grow u ls rs bs).map (·.1)).Nodup) (hb : bs[j]? = some b) (hz : (ls.zip (rowAt rs b.2.2))[h]? = some p)
    (e : grow1 (u / rowT (rowAt rs b.2.2)) b p = some x) : x.1 ∉ ((grow u ls rs (bs.take j)) ++ ((ls.zip (rowAt rs b.2.2)).take h).filterMap (grow1 (u / rowT (rowAt rs b.2.2)) b)).map (·.1) := by
  have e1 : bs = bs.take (j + 1) ++ bs.drop (j + 1) := (List.take_append_drop _ _).symm
  have e2 : grow u ls rs bs = grow u ls rs (bs.take (j + 1)) ++ grow u ls rs (bs.drop (j + 1)) := by
    conv => lhs; rw [e1]
    unfold grow
    rw [List.flatMap_append]
  have e3 : growR (u / rowT (rowAt rs b.2.2)) ls (rowAt rs b.2.2) b = ((ls.zip (rowAt rs b.2.2)).take h).filterMap (grow1 (u / rowT (rowAt rs b.2.2)) b) ++ (x :: ((ls.zip (rowAt rs b.2.2)).drop (h + 1)).filterMap (grow1 (u / rowT (rowAt rs b.2.2)) b)) := by
    have hl := (List.getElem?_eq_some_iff.mp hz).1
    have he := (List.getElem?_eq_some_iff.mp hz).2
    have := (List.take_append_drop h (ls.zip (rowAt rs b.2.2))).symm
    unfold growR
    conv => lhs; rw [this]
    rw [List.filterMap_append, List.drop_eq_getElem_cons hl, he, List.filterMap_cons, e]
  rw [e2, grow_take hb, e3] at nd
  rw [← List.append_assoc, List.append_assoc, List.cons_append, List.map_append, List.map_cons] at nd
  intro hm
  exact (List.nodup_append.mp nd).2.2 _ hm _ List.mem_cons_self rfl
/-- a beginning, as the machine keeps it -/
def rBD (G : Hp) (kv : Key × V) (b : Bg) : Prop := kv.1 = .inr b.1 ∧ rPr rInt rInt G kv.2 (b.2.1, b.2.2)
theorem rBD_mono {G G' : Hp} (s : Same G G') : ∀ {kvs : List (Key × V)} {bs : List Bg}, Paired (rBD G) kvs bs → Paired (rBD G') kvs bs
  | _, _, .nil => .nil
  | _, _, .cons h t => .cons ⟨h.1, Mono.mono (R := rPr rInt rInt) s h.2⟩ (rBD_mono s t)
abbrev rMRowT : Rep MRow := rTup (rPr rInt rInt)
def awF (al : Str) (st : Int) (q : Addr) (n u wh : Int) : List (Str × V) := [("alphabet", .str al), ("start", .int st), ("rows", .ref q), ("length", .int n), ("unit", .int u), ("whole", .int wh)]
section
variable {P : Program} {w : World} {K : PySem.W.Frag} {mg : Str → Option Value} {base : Heap}
def spAw (K : PySem.W.Frag) : Sp := fun vs H Q _ => ∃ (G : Hp) (x dx q : Addr) (s : Spc) (k : Nat) (m wh : Int) (n : Nat), vs = [.ref x] ∧ Same G H ∧ H x = some (.ins (He.ga K "Machine") dx (awF s.al s.st q n (unitS s) wh)) ∧ rTup rMRowT G (.ref q) s.rows ∧ SpOk s k m ∧ n ≤ 3 ∧
  ∀ d G' H', Nw nM G H G' H' → G' d = some (.dK ((mwords s n).map kWd)) → Q (.ref d) H'
theorem sc_Machine_all_weights : FnScope ["self", "begun", "_", "longer", "text", "weight", "state", "row", "times", "letter", "part", "target"] ["self"] (defScope s_Machine_all_weights) := ⟨rfl, rfl, rfl, by decide +kernel, rfl, by decide +kernel, by decide +kernel⟩
theorem ok_Machine_all_weights (T : Tx K mg) : Ok P w K mg base 1 (He.ma K (He.ga K "Machine") "all_weights") ["self"] (spAw K) := by
  refine ok_mk (f_Machine_all_weights T) (df_kp (f_Machine_all_weights T)) sc_Machine_all_weights (fun _ _ _ _ _ _ us hl => match us, hl with | [_], _ => rfl) (fun vs H Q E h => ?_) (fun cdv A outer s H vs Q E hr h => ?_)
  · obtain ⟨G, x, dx, q, s, k, m, wh, n, rfl, _⟩ := h
    rfl
  · obtain ⟨G, x, dx, q, sp, kk, m, wh, n, rfl, sm, hx, ⟨q', rvs, e, hq, prq⟩, S, hn, k⟩ := h
    obtain rfl := V.ref.inj e
    refine ⟨_, (pss_cons (ps_set (i := 1) sc_Machine_all_weights.nd rfl (Or.inl rfl) (pe_disp (pps_cons pe_str (pe_tup (pa_cons pe_int (pa_cons (pe_f (c_Machine T) (n_Machine_start T) (pv 0)) pa_nil))) pps_nil) (by rfl) (by rfl) (fun z => by cases z) (by decide)))
      (pss_cons (ps_for PassesOwn.never rfl (pi_range1 (by rfl) (b_range T) (pa_cons (pe_f (c_Machine T) (n_Machine_length T) (pv 0)) pa_nil)) (pg_name (i := 2) sc_Machine_all_weights.nd rfl (Or.inl rfl))
      (pss_cons (ps_set (i := 3) sc_Machine_all_weights.nd rfl (Or.inl rfl) pe_dnewK)
      (pss_cons (ps_lock (ps_for PassesOwn.never rfl (pi_items (pv 1)) (pg_tup rfl (pgs_cons (pg_name (i := 4) sc_Machine_all_weights.nd rfl (Or.inl rfl)) (pgs_cons (pg_tup rfl (pgs_cons (pg_name (i := 5) sc_Machine_all_weights.nd rfl (Or.inl rfl)) (pgs_cons (pg_name (i := 6) sc_Machine_all_weights.nd rfl (Or.inl rfl)) pgs_nil))) pgs_nil)))
      (pss_cons (ps_set (i := 7) sc_Machine_all_weights.nd rfl (Or.inl rfl) (pe_ix ix_tup (pe_f (c_Machine T) (n_Machine_rows T) (pv 0)) (pv 6) (fun _ _ => rfl)))
      (pss_cons (ps_set (i := 8) sc_Machine_all_weights.nd rfl (Or.inl rfl) (pe_op op_fdivW (pe_f (c_Machine T) (n_Machine_unit T) (pv 0)) (pe_callB (cr_sum rfl) (by rfl) (b_sum T) (by decide +kernel) (pa_cons (pe_lc (own := [("part", 10), ("_", 2)]) (g := (gTup K 2 (gCons (gName 10) (gCons (gName 2) gNil)))) (tt := tYes) rfl sc_Machine_all_weights.nd (pi_tup (pv 7)) (blkOk_by (N := ["self", "begun", "_", "longer", "text", "weight", "state", "row", "times", "letter", "part", "target"]) (sc := defScope s_Machine_all_weights) (by decide +kernel)) (fun _ _ _ _ _ => (pg_tup rfl (pgs_cons (pg_name (i := 10) sc_Machine_all_weights.nd rfl (Or.inl rfl)) (pgs_cons (pg_name (i := 2) sc_Machine_all_weights.nd rfl (Or.inl rfl)) pgs_nil)))) (fun _ _ _ _ _ => pts_nil) (fun _ _ _ _ _ => (pv 10))) pa_nil))))
      (pss_one (ps_for PassesOwn.never rfl (pi_zipX (by rfl) (b_zip T) (pa_cons (pe_f (c_Machine T) (n_Machine_alphabet T) (pv 0)) (pa_cons (pv 7) pa_nil))) (pg_tup rfl (pgs_cons (pg_name (i := 9) sc_Machine_all_weights.nd rfl (Or.inl rfl)) (pgs_cons (pg_tup rfl (pgs_cons (pg_name (i := 10) sc_Machine_all_weights.nd rfl (Or.inl rfl)) (pgs_cons (pg_name (i := 11) sc_Machine_all_weights.nd rfl (Or.inl rfl)) pgs_nil))) pgs_nil)))
      (pss_one (ps_if (pt_cmpR op_gt (pv 10) pe_int (nomark _))
        (pss_one (ps_dput (hu_of hr) (pv 3) (pe_op op_add_str (pv 4) (pv 9)) (pe_tup (pa_cons (pe_op op_mulX (pe_op op_mulX (pv 5) (pv 10)) (pv 8)) (pa_cons (pv 11) pa_nil))) rfl))
        pss_nil))))))))
      (pss_one (ps_set (i := 1) sc_Machine_all_weights.nd rfl (Or.inl rfl) (pv 3))))))
      (pss_one (ps_ret (pe_lock (pe_dc (own := [("text", 4), ("weight", 5), ("_", 2)]) (g := (gTup K 2 (gCons (gName 4) (gCons (gTup K 2 (gCons (gName 5) (gCons (gName 2) gNil))) gNil)))) (tt := tYes) rfl sc_Machine_all_weights.nd (pi_items (pv 1)) (blkOk_by (N := ["self", "begun", "_", "longer", "text", "weight", "state", "row", "times", "letter", "part", "target"]) (sc := defScope s_Machine_all_weights) (by decide +kernel)) (fun _ _ _ _ _ => (pg_tup rfl (pgs_cons (pg_name (i := 4) sc_Machine_all_weights.nd rfl (Or.inl rfl)) (pgs_cons (pg_tup rfl (pgs_cons (pg_name (i := 5) sc_Machine_all_weights.nd rfl (Or.inl rfl)) (pgs_cons (pg_name (i := 2) sc_Machine_all_weights.nd rfl (Or.inl rfl)) pgs_nil))) pgs_nil)))) (fun _ _ _ _ _ => pts_nil) (fun _ _ _ _ _ => (pv 4)) (fun _ _ _ _ _ => (pv 5)))))))), ?_⟩
    obtain ⟨u1, u2, u3⟩ := S.unit
    have mm := S.many
    have m2 := S.m2
    have k3 := S.k3
    have lq := paired_len prq
    have rb : ∀ r ∈ sp.rows, 1 ≤ rowT r ∧ rowT r ≤ 12 := fun r hr => by
      have h1 := (S.rows r hr).pos
      have h2 := rowT_le (S.rows r hr)
      exact ⟨h1, by omega⟩
    intro d0 hd0
    have gd0 := sm.free hd0
    have n0 := (Nw.refl (M := nM) sm).allocH (o := .dK []) hd0
    have nxd0 : x ≠ d0 := ne_of_none hx hd0
    refine ⟨_, rfl, x, dx, _, _, rfl, get_new hx hd0, rfl, len_ok (show 2 ≤ 100000 by decide), fun t0 ht0 => ?_⟩
    have hd1 : upd H d0 (.dK []) d0 = some (.dK []) := upd_same
    have nd0 : d0 ≠ t0 := ne_of_none hd1 ht0
    have n1 := n0.alloc (o := .tup [.int 1, .int sp.st]) ht0
    have g1 : upd G t0 (.tup [.int 1, .int sp.st]) d0 = none := by rw [upd_ne nd0]; exact gd0
    refine ⟨get_new hd1 ht0, [(.inr "", .ref t0)], rfl, (show 1 ≤ 15 by decide), ?_⟩
    have n2 := n1.putH (o := .dK [(.inr "", .ref t0)]) hd0 g1
    have hx2 := n2.hh _ _ (fun z => z) hx
    refine ⟨_, rfl, x, dx, _, _, rfl, hx2, rfl, _, rfl, by omega, by omega, ?_⟩
    have wk : Walk (Itr 0 ((n : Int)).toNat) n (fun _ => True) (YFn fun i => .int (0 + (i : Nat))) := by rw [Int.toNat_natCast]; exact walk_range
    refine for_it wk (fun i σ H' => ∃ (z2 z3 z4 z5 z6 z7 z8 z9 z10 z11 : Option V) (d : Addr) (kvs : List (Key × V)) (Gc : Hp), σ = [some (.ref x), some (.ref d), z2, z3, z4, z5, z6, z7, z8, z9, z10, z11] ∧ Nw nM G H Gc H' ∧ H d = none ∧ H' d = some (.dK kvs) ∧ Gc d = none ∧ Paired (rBD Gc) kvs (bgs sp i))
      ⟨none, none, none, none, none, none, none, none, none, none, d0, _, _, rfl, n2, hd0, upd_same, g1, .cons ⟨rfl, t0, _, _, rfl, upd_same, rfl, rfl⟩ .nil⟩ (fun _ _ _ _ _ => trivial) ?_ ?_
    · rintro i y σ Hx4 H4 hi ⟨z2, z3, z4, z5, z6, z7, z8, z9, z10, z11, d, kvs, Gc, rfl, n4, hd, hd4, gd4, prf⟩ ⟨rfl, rfl⟩
      intro L hL
      have gL : Gc L = none := n4.gh.free hL
      have hL0 : H L = none := n4.free hL
      have dL : d ≠ L := ne_of_none hd4 hL
      have xd : x ≠ d := ne_of_none hx hd
      have n5 := (Nw.refl (M := fun c => c = d) n4.gh).allocH (o := .dK []) hL
      have lf := paired_len prf
      have bl := bgs_len S i
      have h27 : (3 : Nat) ^ i ≤ 27 := Nat.pow_le_pow_right (n := 3) (by decide) (show i ≤ 3 by omega)
      have Bn := (bgs_ok S (i + 1)).srt
      have nd : ((grow (unitS sp) (letters sp.al) sp.rows (bgs sp i)).map (·.1)).Nodup := (List.pairwise_map.mpr Bn).imp fun q e => by subst e; exact sLt_irr q
      refine ⟨d, .dK kvs, get_new hd4 hL, trivial, fun od => ?_⟩
      have n6 := n5.putM (o := .frz od (.dK kvs)) rfl gd4
      have hL6 : upd (upd H4 L (.dK [])) d (.frz od (.dK kvs)) L = some (.dK []) := by rw [upd_ne (Ne.symm dL)]; exact upd_same
      have hd6 : upd (upd H4 L (.dK [])) d (.frz od (.dK kvs)) d = some (.frz od (.dK kvs)) := upd_same
      generalize upd (upd H4 L (.dK [])) d (.frz od (.dK kvs)) = H6 at n6 hL6 hd6
      refine ⟨_, rfl, d, od, kvs, rfl, hd6, ?_⟩
      refine for_it (walk_items (d := d) (o := od) (kvs := kvs)) (fun j σ H' => ∃ (z4 z5 z6 z7 z8 z9 z10 z11 : Option V) (Gd : Hp) (lv : List (Key × V)), σ = [some (.ref x), some (.ref d), some (.int (0 + (i : Nat))), some (.ref L), z4, z5, z6, z7, z8, z9, z10, z11] ∧ Nw (fun c => c = d) Gc H4 Gd H' ∧ H' d = some (.frz od (.dK kvs)) ∧ H' L = some (.dK lv) ∧ Gd L = none ∧ Paired (rBD Gd) lv (grow (unitS sp) (letters sp.al) sp.rows ((bgs sp i).take j)))
        ⟨z4, z5, z6, z7, z8, z9, z10, z11, Gc, [], rfl, n6, hd6, hL6, gL, .nil⟩ (fun j σ H' _ h => by obtain ⟨z4, z5, z6, z7, z8, z9, z10, z11, Gd, lv, rfl, n, h, _⟩ := h; exact h) ?_ ?_
      · rintro j y σ H7 Hy hj ⟨z4, z5, z6, z7, z8, z9, z10, z11, Gd, lv, rfl, n7, hd7, hL7, gL7, prl⟩ ⟨T1, y1, y2, rfl, hT1, rfl, e1, e2⟩
        have e1 : (kvs[j]?).map (fun kv => kV kv.1) = some y1 := e1
        have e2 : (kvs[j]?).map Prod.snd = some y2 := e2
        cases hkj : kvs[j]? with
        | none => rw [hkj] at e1; cases e1
        | some kv =>
        rw [hkj] at e1 e2
        obtain ⟨b, hbj, ek, t, ta, tb, et, ht, rta, rtb⟩ := paired_get prf hkj
        obtain ⟨kv1, kv2⟩ := kv
        have ek : kv1 = .inr b.1 := ek
        have et : kv2 = .ref t := et
        subst ek et
        obtain rfl : y1 = .str b.1 := (Option.some.inj e1).symm
        obtain rfl : y2 = .ref t := (Option.some.inj e2).symm
        have rta : ta = .int b.2.1 := rta
        have rtb : tb = .int b.2.2 := rtb
        subst rta rtb
        have hb := List.mem_of_getElem? hbj
        obtain ⟨b1, b2, b3, b4⟩ := (bgs_ok S i).each b hb
        obtain ⟨w1, w2⟩ := bg_le S (show i ≤ 3 by omega) hb
        obtain ⟨hra, hrm⟩ := rowAt_mem (rs := sp.rows) b3 (by omega)
        obtain ⟨rv, hrv, pr, us, rfl, hpr, prr⟩ := paired_get' prq hra
        obtain ⟨r1, r2⟩ := rb _ hrm
        have rl := (S.rows _ hrm).len
        have rq := (S.rows _ hrm).q
        have lu := paired_len prr
        have pn := fun (h : Nat) (x : Bg) (p : Str × (Int × Int)) => part_new (u := unitS sp) (ls := letters sp.al) (rs := sp.rows) (h := h) (x := x) (p := p) nd hbj
        have gt := grow_take (u := unitS sp) (ls := letters sp.al) (rs := sp.rows) hbj
        generalize hrr : rowAt sp.rows b.2.2 = r at hra hrm prr r1 r2 rl rq lu pn gt
        have hai : atI rvs b.2.2 = some (.ref pr) := by rw [at_int b3 (by omega)]; exact hrv
        have T1' := hT1
        have n8 := n7.allocH (o := .tup [.str b.1, .ref t]) hT1
        have hd8 := get_new (o := .tup [.str b.1, .ref t]) hd7 hT1
        have hL8 := get_new (o := .tup [.str b.1, .ref t]) hL7 hT1
        have hT8 : upd H7 T1 (.tup [.str b.1, .ref t]) T1 = some (.tup [.str b.1, .ref t]) := upd_same
        have gcd : Same G Gd := n4.gg.trans n7.gg
        refine ⟨T1, _, rfl, SqT.of hT8, rfl, _, _, rfl, _, _, rfl, t, _, rfl, SqT.of (n8.gh _ _ (n7.gg _ _ ht)), rfl, _, _, rfl, _, _, rfl, rfl, rfl, ?_⟩
        have hx8 := n8.hh _ _ (show ¬ x = d from xd) (n4.hh _ _ (fun z => z) hx)
        have hpr8 := n8.gh _ _ (gcd _ _ hpr)
        refine ⟨_, rfl, x, dx, _, _, rfl, hx8, rfl, _, rfl, q, _, _, .ref pr, rfl, rfl, SqT.of (n8.gh _ _ (gcd _ _ hq)), hai, ?_⟩
        have gt8 := fun (a : Addr) o (h : G a = some o) => n8.gh a o (gcd a o h)
        generalize upd H7 T1 (.tup [.str b.1, .ref t]) = H8 at n8 hd8 hL8 hT8 hx8 hpr8 gt8
        refine ⟨_, rfl, x, dx, _, _, rfl, hx8, rfl, _, rfl, pr, rfl, ⟨_, SqT.of hpr8⟩, fun E hE => ?_⟩
        refine lcM (ys := (r.map fun e : Int × Int => e.1).map V.int) (walk_tup (xs := us)) (by simp [lu]) (by omega) (fun l => SqT.of (get_new hpr8 hE)) (fun i y y' l Ky hy hy' hk => ?_) ?_
        · obtain ⟨e, he, t, ta, tb, rfl, ht, rta, rtb⟩ := paired_get prr hy
          have rta : ta = .int e.1 := rta
          subst rta
          rw [List.getElem?_map, List.getElem?_map, he] at hy'
          obtain rfl := (Option.some.inj hy').symm
          exact ⟨t, _, rfl, SqT.of (get_new (gt8 _ _ ht) hE), rfl, _, _, rfl, _, _, rfl, rfl, rfl, _, rfl, hk⟩
        have n9 := n8.allocH (o := .lst ((r.map fun e : Int × Int => e.1).map V.int)) hE
        have hL9 := get_new (o := .lst ((r.map fun e : Int × Int => e.1).map V.int)) hL8 hE
        have hd9 := get_new (o := .lst ((r.map fun e : Int × Int => e.1).map V.int)) hd8 hE
        have hx9 := get_new (o := .lst ((r.map fun e : Int × Int => e.1).map V.int)) hx8 hE
        refine ⟨E, r.map (fun e : Int × Int => e.1), rfl, SqL.of upd_same, ?_⟩
        have hrT : (r.map (fun e : Int × Int => e.1)).sum = rowT r := rfl
        rw [hrT]
        generalize upd H8 E (.lst ((r.map fun e : Int × Int => e.1).map V.int)) = H9 at n9 hL9 hd9 hx9
        obtain ⟨a1, _, a3⟩ := alOf_ok S.k1 S.k3
        rw [← S.al] at a1 a3
        have hc0 : 0 ≤ unitS sp / rowT r ∧ unitS sp / rowT r ≤ 144 := ⟨Int.ediv_nonneg (by omega) (by omega), Int.le_trans (Int.ediv_le_self _ (by omega)) u3⟩
        refine ⟨_, _, rfl, rfl, wide_div (b := 20) (by omega) (by omega) (by decide) (by decide), ?_⟩
        refine ⟨_, rfl, x, dx, _, _, rfl, hx9, rfl, _, rfl, .txt sp.al, .tup pr, signs sp.al, us, rfl, rfl, Rd.of (n9.gh _ _ (gcd _ _ hpr)), ?_⟩
        refine for_it (walk_zipX (q1 := .txt sp.al) (q2 := .tup pr) (xs := signs sp.al) (ys := us) (n := kk) (by rw [signs_let, List.length_map, a1, lu, rl, Nat.min_self])) (fun h σ H' => ∃ (z9 z10 z11 : Option V) (Gd : Hp) (lv : List (Key × V)), σ = [some (.ref x), some (.ref d), some (.int (0 + (i : Nat))), some (.ref L), some (.str b.1), some (.int b.2.1), some (.int b.2.2), some (.ref pr), some (.int (unitS sp / rowT r)), z9, z10, z11] ∧ Nw (fun c => c = d) Gc H4 Gd H' ∧ H' d = some (.frz od (.dK kvs)) ∧ H' L = some (.dK lv) ∧ Gd L = none ∧ lv.length ≤ 27 * 3 + h ∧ Paired (rBD Gd) lv (grow (unitS sp) (letters sp.al) sp.rows ((bgs sp i).take j) ++ (((letters sp.al).zip r).take h).filterMap (grow1 (unitS sp / rowT r) b)))
          ⟨z9, z10, z11, Gd, lv, rfl, n9, hd9, hL9, gL7, ?_, by simpa using prl⟩ (fun h σ H' _ hh => by obtain ⟨z9, z10, z11, Gd, lv, rfl, n, _⟩ := hh; exact ⟨rfl, Rd.of (n.gh _ _ (n.gg _ _ (n4.gg _ _ hpr)))⟩) ?_ ?_
        · have h1 := paired_len prl
          have h2 := grow_len (u := unitS sp) (ls := letters sp.al) (rs := sp.rows) (bs := (bgs sp i).take j)
          rw [a1, List.length_take] at h2
          have h3 : min j (bgs sp i).length * kk ≤ 27 * 3 := Nat.mul_le_mul (by omega) k3
          omega
        · rintro h y σ H10 Hz hh ⟨z9, z10, z11, Ge, lv, rfl, n10, hd10, hL10, gL10, ll, prl⟩ ⟨T2, y1, y2, rfl, hT2, rfl, e1, e2⟩
          have e1 : (signs sp.al)[h]? = some y1 := e1
          rw [signs_let, List.getElem?_map] at e1
          have hlk : (letters sp.al)[h]? = some ((letters sp.al)[h]'(by omega)) := List.getElem?_eq_getElem (by omega)
          generalize ((letters sp.al)[h]'(by omega)) = l at hlk
          rw [hlk] at e1
          obtain rfl := (Option.some.inj e1).symm
          obtain ⟨q0, hqh, t, ta, tb, rfl, ht2, rta, rtb⟩ := paired_get prr e2
          have rta : ta = .int q0.1 := rta
          have rtb : tb = .int q0.2 := rtb
          subst rta rtb
          obtain ⟨p0, p4, _, _⟩ := rq q0 (List.mem_of_getElem? hqh)
          have l1 := a3 l (List.mem_of_getElem? hlk)
          have n11 := n10.allocH (o := .tup [.str l, .ref t]) hT2
          have hL11 := get_new (o := .tup [.str l, .ref t]) hL10 hT2
          have hd11 := get_new (o := .tup [.str l, .ref t]) hd10 hT2
          have hT11 : upd H10 T2 (.tup [.str l, .ref t]) T2 = some (.tup [.str l, .ref t]) := upd_same
          generalize upd H10 T2 (.tup [.str l, .ref t]) = H11 at n11 hL11 hd11 hT11
          have htH := n11.gh _ _ (n11.gg _ _ (n4.gg _ _ ht2))
          have hz : ((letters sp.al).zip r)[h]? = some (l, q0) := by rw [List.getElem?_zip_eq_some]; exact ⟨hlk, hqh⟩
          refine ⟨T2, _, rfl, SqT.of hT11, rfl, _, _, rfl, _, _, rfl, t, _, rfl, SqT.of htH, rfl, _, _, rfl, _, _, rfl, rfl, rfl, ?_⟩
          refine ⟨_, rfl, _, _, rfl, rfl, _, rfl, ite2 (fun c => ?_) fun c => ?_⟩
          · have c : 0 < q0.1 := of_decide_eq_true c
            have eg : grow1 (unitS sp / rowT r) b (l, q0) = some (b.1 ++ l, b.2.1 * q0.1 * (unitS sp / rowT r), q0.2) := if_pos c
            have hno := look_no (F := rBD Ge) (key := fun b : Bg => b.1) (fun _ _ h => h.1) prl (pn h _ _ hz eg)
            have hno : valV lv (.inr (b.1 ++ l)) = none := hno
            refine ⟨_, rfl, _, rfl, _, _, rfl, rfl, mulx_ok (a := 30) (b := 10) (by omega) (by omega) (by decide), _, rfl, _, _, rfl, rfl, mulx_ok (a := 40) (b := 10) ?_ (by omega) (by decide), _, rfl, len_ok (show 2 ≤ 100000 by decide), fun N hN => ?_⟩
            · have h1 : b.2.1 * q0.1 ≤ 2985984 * 4 := Int.mul_le_mul w2 p4 (by omega) (by decide)
              have h2 : 0 ≤ b.2.1 * q0.1 := Int.mul_nonneg (by omega) p0
              omega
            have n12 := n11.alloc (o := .tup [.int (b.2.1 * q0.1 * (unitS sp / rowT r)), .int q0.2]) hN
            have LN : L ≠ N := ne_of_none hL11 hN
            have dN : d ≠ N := ne_of_none hd11 hN
            have hL12 := get_new (o := .tup [.int (b.2.1 * q0.1 * (unitS sp / rowT r)), .int q0.2]) hL11 hN
            have hd12 := get_new (o := .tup [.int (b.2.1 * q0.1 * (unitS sp / rowT r)), .int q0.2]) hd11 hN
            have g12 : upd Ge N (.tup [.int (b.2.1 * q0.1 * (unitS sp / rowT r)), .int q0.2]) L = none := by rw [upd_ne LN]; exact gL10
            have gs : Same Ge (upd Ge N (.tup [.int (b.2.1 * q0.1 * (unitS sp / rowT r)), .int q0.2])) := same_new (n11.gh.free hN)
            refine ⟨_, rfl, _, rfl, _, rfl, _, _, rfl, rfl, by rw [b1, l1, sizeLine_eq]; omega, L, _, rfl, DPut.k (k := .inr (b.1 ++ l)) hL12 (by rw [sizeLine_eq]; omega), ?_⟩
            rw [putK_new _ hno]
            refine ⟨_, _, _, _, _, rfl, n12.putH hL g12, by rw [upd_ne dL]; exact hd12, upd_same, g12, by rw [List.length_append]; show _ + 1 ≤ _; omega, ?_⟩
            rw [List.take_add_one, hz, List.filterMap_append, ← List.append_assoc]
            have ef : List.filterMap (grow1 (unitS sp / rowT r) b) (some (l, q0)).toList = [(b.1 ++ l, b.2.1 * q0.1 * (unitS sp / rowT r), q0.2)] := by
              show List.filterMap _ [(l, q0)] = _
              rw [List.filterMap_cons, eg]
              rfl
            rw [ef]
            exact paired_snoc ⟨rfl, N, _, _, rfl, upd_same, rfl, rfl⟩ (rBD_mono gs prl)
          · have c : ¬ 0 < q0.1 := by simpa using c
            refine ⟨_, _, _, Ge, lv, rfl, n11, hd11, hL11, gL10, by omega, ?_⟩
            have ef : List.filterMap (grow1 (unitS sp / rowT r) b) (some (l, q0)).toList = [] := by
              show List.filterMap _ [(l, q0)] = _
              have : grow1 (unitS sp / rowT r) b (l, q0) = none := if_neg c
              rw [List.filterMap_cons, this]
              rfl
            rw [List.take_add_one, hz, List.filterMap_append, ef, List.append_nil]
            exact prl
        · rintro σ H10 ⟨z9, z10, z11, Ge, lv, rfl, n10, hd10, hL10, gL10, ll, prl⟩
          refine ⟨_, _, _, _, _, _, _, _, Ge, lv, rfl, n10, hd10, hL10, gL10, ?_⟩
          have et : List.take kk ((letters sp.al).zip r) = (letters sp.al).zip r := List.take_of_length_le (by rw [List.length_zip, a1, rl]; omega)
          rw [gt]
          rw [et] at prl
          exact prl
      · rintro σ H7 ⟨z4, z5, z6, z7, z8, z9, z10, z11, Gd, lv, rfl, n7, hd7, hL7, gL7, prl⟩
        rw [lf, List.take_length] at prl
        have gd7 := n7.loc hd4 gd4
        have n8 := n7.putM (o := .dK kvs) rfl gd7
        exact ⟨hd7, _, rfl, _, _, _, _, _, _, _, _, _, _, L, lv, Gd, rfl, n4.thru hd n8, hL0, by rw [upd_ne (Ne.symm dL)]; exact hL7, gL7, prl⟩
    · rintro σ H4 ⟨z2, z3, z4, z5, z6, z7, z8, z9, z10, z11, d, kvs, Gc, rfl, n4, hd, hd4, gd4, prf⟩
      have bl := bgs_len S n
      have h27 : (3 : Nat) ^ n ≤ 27 := Nat.pow_le_pow_right (n := 3) (by decide) hn
      have lf := paired_len prf
      have nd : ((bgs sp n).map (·.1)).Nodup := (List.pairwise_map.mpr (bgs_ok S n).srt).imp fun q e => by subst e; exact sLt_irr q
      refine ⟨d, .dK kvs, hd4, trivial, fun od => ?_⟩
      have n5 := n4.putH (o := .frz od (.dK kvs)) hd gd4
      have hd5 : upd H4 d (.frz od (.dK kvs)) d = some (.frz od (.dK kvs)) := upd_same
      generalize upd H4 d (.frz od (.dK kvs)) = H5 at n5 hd5
      refine ⟨_, rfl, d, od, kvs, rfl, hd5, fun D hD => ?_⟩
      refine dc_I (walk_items (d := d) (o := od) (kvs := kvs)) (M := nM) (G := Gc) (fun i kvs' Gd Hc => kvs' = ((bgs sp n).take i).map fun b => kWd (wdB b)) hD n5.gh (fun i kvs' Gd Hc o h => h) rfl (fun Gd Hc n => n.hh _ _ (fun z => z) hd5) (fun z => z) (fun i y kvs' Gd Hc H' Ky hi n6 h yy k1 => ?_) (fun kvs' Gd Hc n6 h hDc gD => ?_)
      · subst h
        obtain ⟨T1, y1, y2, rfl, hT1, rfl, e1, e2⟩ := yy
        have e1 : (kvs[i]?).map (fun kv => kV kv.1) = some y1 := e1
        have e2 : (kvs[i]?).map Prod.snd = some y2 := e2
        cases hkj : kvs[i]? with
        | none => rw [hkj] at e1; cases e1
        | some kv =>
        rw [hkj] at e1 e2
        obtain ⟨b, hbj, ek, t, ta, tb, et, ht, rta, rtb⟩ := paired_get prf hkj
        obtain ⟨kv1, kv2⟩ := kv
        have ek : kv1 = .inr b.1 := ek
        have et : kv2 = .ref t := et
        subst ek et
        obtain rfl : y1 = .str b.1 := (Option.some.inj e1).symm
        obtain rfl : y2 = .ref t := (Option.some.inj e2).symm
        have rta : ta = .int b.2.1 := rta
        have rtb : tb = .int b.2.2 := rtb
        subst rta rtb
        have hno : valV (((bgs sp n).take i).map fun b => kWd (wdB b)) (.inr b.1) = none := by
          have := look_no (F := fun (kv : Key × V) (e : Wd) => kv.1 = .inr e.1 ∧ kv.2 = .int e.2) (key := fun e : Wd => e.1) (fun _ _ h => h.1) (wd_paired (((bgs sp n).take i).map wdB)) (t := b.1) fun hm => by
            rw [List.map_map] at hm
            obtain ⟨r', hr', e3⟩ := List.mem_map.mp hm
            obtain ⟨j, hj⟩ := List.getElem?_of_mem hr'
            have hjl := (List.getElem?_eq_some_iff.mp hj).1
            rw [List.length_take] at hjl
            rw [List.getElem?_take_of_lt (by omega)] at hj
            have e1 : ((bgs sp n).map (·.1))[j]? = ((bgs sp n).map (·.1))[i]? := by rw [List.getElem?_map, List.getElem?_map, hj, hbj]; exact congrArg some e3
            have := (List.getElem?_inj (by rw [List.length_map]; omega) nd).mp e1
            omega
          rw [List.map_map] at this
          exact this
        refine ⟨T1, _, rfl, SqT.of upd_same, rfl, _, _, rfl, _, _, rfl, t, _, rfl, SqT.of (get_new (n6.gh _ _ (n6.gg _ _ ht)) hT1), rfl, _, _, rfl, _, _, rfl, rfl, rfl, rfl, ?_⟩
        refine ⟨_, rfl, _, rfl, k1 (.inr b.1) _ _ _ ((Nw.refl n6.gh).allocH hT1) ?_ ?_⟩
        · rw [putK_new _ hno, List.take_add_one, hbj, List.map_append]
          rfl
        · rw [List.length_map, List.length_take, sizeLine_eq]
          omega
      · subst h
        rw [lf, List.take_length] at hDc
        have hd6 := n6.hh _ _ (fun z => z) hd5
        have gd6 := n6.loc hd5 gd4
        have dD : d ≠ D := ne_of_none hd5 hD
        have n7 := (n5.trans n6).putH (o := .dK kvs) hd gd6
        have n8 := n7.frz (n5.free hD) (o := .dK ((bgs sp n).map fun b => kWd (wdB b))) (by rw [upd_ne (Ne.symm dD)]; exact hDc)
        refine ⟨hd6, k D _ _ n8 ?_⟩
        have em : (mwords sp n).map kWd = (bgs sp n).map fun b => kWd (wdB b) := by
          unfold mwords
          rw [List.map_map]
          rfl
        rw [em]
        exact upd_same
end
end Mk

-- W4
set_option Elab.async false
set_option linter.all false
set_option maxRecDepth 100000
set_option maxHeartbeats 4000000
set_option exponentiation.threshold 20000
namespace Mk
open PySem PySem.Spec PyProof.Rows L2
open C8 (InsC call_isC)
def rTupOf (K : PySem.W.Frag) : List V → Hp → VK → Prop := fun xs H Q => ∃ p ys, xs = [.ref p] ∧ ((SqL K H p ys ∧ ∀ l, H l = none → Q (.ref l) (upd H l (.tup ys))) ∨ (SqT K H p ys ∧ Q (.ref p) H))
section
variable {P : Program} {w : World} {K : PySem.W.Frag} {mg : Str → Option Value} {base : Heap}
def spMacI (K : PySem.W.Frag) : Sp := fun vs H Q _ => ∃ (x dx : Addr) (G : Hp) (q : Addr) (s : Spc) (k : Nat) (m : Int) (n : Nat), vs = [.ref x, .str s.al, .int s.st, .ref q, .int n] ∧ Same G H ∧ H x = some (.ins (He.ga K "Machine") dx []) ∧ G x = none ∧ rLst rMRow G (.ref q) s.rows ∧ SpOk s k m ∧ n ≤ 3 ∧ Ini (rMac K) x G H (mwords s n) Q
theorem sc_Machine_init : FnScope ["self", "alphabet", "start", "rows", "length", "row", "weight", "state", "_"] ["self", "alphabet", "start", "rows", "length"] (defScope s_Machine_init) := ⟨rfl, rfl, rfl, by decide +kernel, rfl, by decide +kernel, by decide +kernel⟩
theorem ok_Machine_init (T : Tx K mg) : Ok P w K mg base 3 (He.ma K (He.ga K "Machine") "__init__") ["self", "alphabet", "start", "rows", "length"] (spMacI K) := by
  refine ok_mk (f_Machine_init T) (df_kp (f_Machine_init T)) sc_Machine_init (fun _ _ _ _ _ _ us hl => match us, hl with | [_, _, _, _, _], _ => rfl) (fun vs H Q E h => ?_) (fun cdv A outer s H vs Q E hr h => ?_)
  · obtain ⟨x, dx, G, q, s, k, m, n, rfl, _⟩ := h
    rfl
  · obtain ⟨x, dx, G, q, sp, kk, m, n, rfl, sm, hx, gx, ⟨q', rvs, e, hq, prq⟩, S, hn, k⟩ := h
    obtain rfl := V.ref.inj e
    refine ⟨_, (pss_cons (ps_f (c_Machine T) (n_Machine_alphabet T) (pv 0) (pv 1))
      (pss_cons (ps_f (c_Machine T) (n_Machine_start T) (pv 0) (pv 2))
      (pss_cons (ps_f (c_Machine T) (n_Machine_rows T) (pv 0) (pe_callTy call_tuple_of (by rfl) (b_tuple T) (by decide +kernel) (pa_cons (pe_lc (own := [("row", 5)]) (g := (gName 5)) (tt := tYes) rfl sc_Machine_init.nd (pi_list (pv 3)) (blkOk_by (N := ["self", "alphabet", "start", "rows", "length", "row", "weight", "state", "_"]) (sc := defScope s_Machine_init) (by decide +kernel)) (fun _ _ _ _ _ => (pg_name (i := 5) sc_Machine_init.nd rfl (Or.inl rfl))) (fun _ _ _ _ _ => pts_nil) (fun _ _ _ _ _ => (pe_callTy (show CallR _ (.type "tuple") (rTupOf K) from call_tuple_of) (by rfl) (b_tuple T) (by decide +kernel) (pa_cons (pe_lc (own := [("weight", 6), ("state", 7)]) (g := (gTup K 2 (gCons (gName 6) (gCons (gName 7) gNil)))) (tt := tYes) rfl sc_Machine_init.nd (show PI _ _ _ (iList K (tVar 5)) from pi_list (pv 5)) (blkOk_by (N := ["self", "alphabet", "start", "rows", "length", "row", "weight", "state", "_"]) (sc := { kind := .function, names := [(".0", .local), ("row", .local), ("tuple", .globalImplicit)], isGenerator := false, isCoroutine := false }) (by decide +kernel)) (fun _ _ _ _ _ => (pg_tup rfl (pgs_cons (pg_name (i := 6) sc_Machine_init.nd rfl (Or.inl rfl)) (pgs_cons (pg_name (i := 7) sc_Machine_init.nd rfl (Or.inl rfl)) pgs_nil)))) (fun _ _ _ _ _ => pts_nil) (fun _ _ _ _ _ => (pe_tup (pa_cons (pv 6) (pa_cons (pv 7) pa_nil))))) pa_nil)))) pa_nil)))
      (pss_cons (ps_f (c_Machine T) (n_Machine_length T) (pv 0) (pv 4))
      (pss_cons (ps_f (c_Machine T) (n_Machine_unit T) (pv 0) pe_int)
      (pss_cons (ps_for PassesOwn.never rfl (pi_tup (pe_f (c_Machine T) (n_Machine_rows T) (pv 0))) (pg_name (i := 5) sc_Machine_init.nd rfl (Or.inl rfl))
      (pss_one (ps_f (c_Machine T) (n_Machine_unit T) (pv 0) (pe_c (ok_least_multiple T) (hr.mono (by decide)) rfl (g_least_multiple T) (pa_cons (pe_f (c_Machine T) (n_Machine_unit T) (pv 0)) (pa_cons (pe_callB (cr_sum rfl) (by rfl) (b_sum T) (by decide +kernel) (pa_cons (pe_lc (own := [("weight", 6), ("_", 8)]) (g := (gTup K 2 (gCons (gName 6) (gCons (gName 8) gNil)))) (tt := tYes) rfl sc_Machine_init.nd (pi_tup (pv 5)) (blkOk_by (N := ["self", "alphabet", "start", "rows", "length", "row", "weight", "state", "_"]) (sc := defScope s_Machine_init) (by decide +kernel)) (fun _ _ _ _ _ => (pg_tup rfl (pgs_cons (pg_name (i := 6) sc_Machine_init.nd rfl (Or.inl rfl)) (pgs_cons (pg_name (i := 8) sc_Machine_init.nd rfl (Or.inl rfl)) pgs_nil)))) (fun _ _ _ _ _ => pts_nil) (fun _ _ _ _ _ => (pv 6))) pa_nil)) pa_nil))))))
      (pss_cons (ps_f (c_Machine T) (n_Machine_whole T) (pv 0) (pe_c (ok_power T) (hr.mono (by decide)) rfl (g_power T) (pa_cons (pe_f (c_Machine T) (n_Machine_unit T) (pv 0)) (pa_cons (pv 4) pa_nil))))
      (pss_one (ps_f (c_Machine T) (n_Machine_weights T) (pv 0) (pe_m0 (pv 0) (c_Machine T) (m_Machine_all_weights T) (ok_Machine_all_weights T) (hr.mono (by decide)))))))))))), ?_⟩
    obtain ⟨u1, u2, u3⟩ := S.unit
    have mm := S.many
    have m2 := S.m2
    have k3 := S.k3
    have lq := paired_len prq
    have rb : ∀ r ∈ sp.rows, 1 ≤ rowT r ∧ rowT r ≤ 12 := fun r hr => by
      have h1 := (S.rows r hr).pos
      have h2 := rowT_le (S.rows r hr)
      exact ⟨h1, by omega⟩
    refine ⟨_, rfl, _, rfl, x, dx, _, rfl, hx, by decide, ?_⟩
    have n1 := (Nw.refl (M := fun c => c = x) sm).putM (o := .ins (He.ga K "Machine") dx [("alphabet", .str sp.al)]) rfl gx
    have hx1 : upd H x (.ins (He.ga K "Machine") dx [("alphabet", .str sp.al)]) x = some (.ins (He.ga K "Machine") dx [("alphabet", .str sp.al)]) := upd_same
    refine ⟨_, rfl, _, rfl, x, dx, _, rfl, hx1, (show (1 : Nat) < 1000 by decide), ?_⟩
    have n2 := n1.putM (o := .ins (He.ga K "Machine") dx [("alphabet", .str sp.al), ("start", .int sp.st)]) rfl gx
    have hx2 : upd (upd H x (.ins (He.ga K "Machine") dx [("alphabet", .str sp.al)])) x (.ins (He.ga K "Machine") dx [("alphabet", .str sp.al), ("start", .int sp.st)]) x = some (.ins (He.ga K "Machine") dx [("alphabet", .str sp.al), ("start", .int sp.st)]) := upd_same
    have hq2 := n2.gh _ _ hq
    refine ⟨_, rfl, q, rfl, ⟨_, SqL.of hq2⟩, fun D hD => ?_⟩
    refine lc_I (walk_list (xs := rvs)) (M := nM) rMRowT (fun i ys Gc Hc => ys = sp.rows.take i) hD n2.gh (by omega) (fun i ys Gc Hc o _ h => h) rfl (fun Gc Hc n => SqL.of (n.gh _ _ (n.gg _ _ hq))) (fun z => z) (fun i y ys Gc Hc H' Ky Kn hi n3 h yy k1 k2 => ?_) (fun ys vs Gc Hc n3 h hDc gD pr => ?_)
    · subst h
      obtain ⟨rfl, hy⟩ := yy
      obtain ⟨r, hri, pr, us, rfl, hpr, prr⟩ := paired_get prq hy
      have lu := paired_len prr
      have rl := (S.rows r (List.mem_of_getElem? hri)).len
      refine ⟨rfl, yes_ok ?_⟩
      refine ⟨_, rfl, pr, rfl, ⟨_, SqL.of (n3.gh _ _ (n3.gg _ _ hpr))⟩, fun D2 hD2 => ?_⟩
      refine lc_I (walk_list (xs := us)) (M := nM) (rPr rInt rInt) (fun i ys Gc Hc => ys = r.take i) hD2 n3.gh (by omega) (fun i ys Gc Hc o _ h => h) rfl (fun Gd Hd n => SqL.of (n.gh _ _ (n.gg _ _ (n3.gg _ _ hpr)))) (fun z => z) (fun j y ys Gd Hd H' Ky Kn hj n4 h yy k3 k4 => ?_) (fun ys vs Gd Hd n4 h hDd gD2 pr2 => ?_)
      · subst h
        obtain ⟨rfl, hy⟩ := yy
        obtain ⟨q0, hqj, t, ta, tb, rfl, ht, rta, rtb⟩ := paired_get prr hy
        have rta : ta = .int q0.1 := rta
        have rtb : tb = .int q0.2 := rtb
        subst rta rtb
        have htH := n4.gh _ _ (n4.gg _ _ (n3.gg _ _ ht))
        refine ⟨t, _, rfl, SqT.of htH, rfl, _, _, rfl, _, _, rfl, rfl, rfl, yes_ok ?_⟩
        refine ⟨_, rfl, _, rfl, len_ok (show 2 ≤ 100000 by decide), fun N hN => ?_⟩
        refine k3 _ _ _ q0 ((Nw.refl n4.gh).alloc (o := .tup [.int q0.1, .int q0.2]) hN) ⟨N, _, _, rfl, upd_same, rfl, rfl⟩ ?_
        rw [List.take_add_one, hqj]
        rfl
      · subst h
        rw [lu, List.take_length] at pr2
        refine ⟨D2, _, rfl, .inl ⟨SqL.of hDd, fun l hl => ?_⟩⟩
        refine k1 _ _ _ r (n4.alloc (o := .tup vs) hl) ⟨l, vs, rfl, upd_same, paired_mono (R := rPr rInt rInt) (same_new (n4.gh.free hl)) pr2⟩ ?_
        rw [List.take_add_one, hri]
        rfl
    subst h
    rw [lq, List.take_length] at pr
    refine ⟨D, _, rfl, .inl ⟨SqL.of hDc, fun l hl => ?_⟩⟩
    have n4 := (n2.trans n3.sub).alloc (o := .tup vs) hl
    have hx4 := get_new (o := .tup vs) (n3.hh _ _ (fun z => z) hx2) hl
    have gl4 : upd Gc l (.tup vs) l = some (.tup vs) := upd_same
    have pr4 : Paired (rMRowT (upd Gc l (.tup vs))) vs sp.rows := paired_mono (R := rMRowT) (same_new ((n2.trans n3.sub).gh.free hl)) pr
    generalize upd Gc l (.tup vs) = G4 at n4 gl4 pr4
    generalize upd Hc l (.tup vs) = H4 at n4 hx4
    have gx4 := n4.loc hx gx
    refine ⟨_, rfl, x, dx, _, rfl, hx4, (show (2 : Nat) < 1000 by decide), ?_⟩
    have n5 := n4.putM (o := .ins (He.ga K "Machine") dx [("alphabet", .str sp.al), ("start", .int sp.st), ("rows", .ref l)]) rfl gx4
    have hx5 : upd H4 x (.ins (He.ga K "Machine") dx [("alphabet", .str sp.al), ("start", .int sp.st), ("rows", .ref l)]) x = some (.ins (He.ga K "Machine") dx [("alphabet", .str sp.al), ("start", .int sp.st), ("rows", .ref l)]) := upd_same
    refine ⟨_, rfl, _, rfl, x, dx, _, rfl, hx5, (show (3 : Nat) < 1000 by decide), ?_⟩
    have n6 := n5.putM (o := .ins (He.ga K "Machine") dx [("alphabet", .str sp.al), ("start", .int sp.st), ("rows", .ref l), ("length", .int n)]) rfl gx4
    have hx6 : upd (upd H4 x (.ins (He.ga K "Machine") dx [("alphabet", .str sp.al), ("start", .int sp.st), ("rows", .ref l)])) x (.ins (He.ga K "Machine") dx [("alphabet", .str sp.al), ("start", .int sp.st), ("rows", .ref l), ("length", .int n)]) x = some (.ins (He.ga K "Machine") dx [("alphabet", .str sp.al), ("start", .int sp.st), ("rows", .ref l), ("length", .int n)]) := upd_same
    refine ⟨_, rfl, x, dx, _, rfl, hx6, (show (4 : Nat) < 1000 by decide), ?_⟩
    have n7 := n6.putM (o := .ins (He.ga K "Machine") dx [("alphabet", .str sp.al), ("start", .int sp.st), ("rows", .ref l), ("length", .int n), ("unit", .int 1)]) rfl gx4
    have hx7 : upd (upd (upd H4 x (.ins (He.ga K "Machine") dx [("alphabet", .str sp.al), ("start", .int sp.st), ("rows", .ref l)])) x (.ins (He.ga K "Machine") dx [("alphabet", .str sp.al), ("start", .int sp.st), ("rows", .ref l), ("length", .int n)])) x (.ins (He.ga K "Machine") dx [("alphabet", .str sp.al), ("start", .int sp.st), ("rows", .ref l), ("length", .int n), ("unit", .int 1)]) x = some (.ins (He.ga K "Machine") dx [("alphabet", .str sp.al), ("start", .int sp.st), ("rows", .ref l), ("length", .int n), ("unit", .int 1)]) := upd_same
    refine ⟨_, rfl, x, dx, _, _, rfl, hx7, rfl, l, rfl, ⟨_, SqT.of (n7.gh _ _ gl4)⟩, ?_⟩
    have lv := paired_len pr4
    refine for_it (walk_tup (xs := vs)) (fun i σ H' => ∃ (z5 : Option V), σ = [some (.ref x), some (.str sp.al), some (.int sp.st), some (.ref q), some (.int n), z5, none, none, none] ∧ Nw (fun c => c = x) G H G4 H' ∧ H' x = some (.ins (He.ga K "Machine") dx [("alphabet", .str sp.al), ("start", .int sp.st), ("rows", .ref l), ("length", .int n), ("unit", .int (unitL 1 (sp.rows.take i)))]))
      ⟨none, rfl, n7, hx7⟩ (fun i σ H' _ h => by obtain ⟨z5, rfl, n, _⟩ := h; exact SqT.of (n.gh _ _ gl4)) ?_ ?_
    · rintro i y σ Hy H8 hi ⟨z5, rfl, n8, hx8⟩ ⟨rfl, hy⟩
      obtain ⟨r, hri, pr, us, rfl, hpr, prr⟩ := paired_get pr4 hy
      have hr0 := List.mem_of_getElem? hri
      obtain ⟨b1, b2⟩ := rb r hr0
      have hprH := n8.gh _ _ hpr
      have lu := paired_len prr
      have rl := (S.rows r hr0).len
      have pu := unitL_ok (rs := sp.rows.take i) (u := 1) (by decide) fun r hr => rb r (List.mem_of_mem_take hr)
      have pl : unitL 1 (sp.rows.take i) ≤ 144 := by
        have h1 := pu.2.2.2
        have hl : (sp.rows.take i).length ≤ 2 := by rw [List.length_take]; omega
        have h : (12 : Int) ^ (sp.rows.take i).length ≤ 144 := by
          match (sp.rows.take i).length, hl with
          | 0, _ => decide
          | 1, _ => decide
          | 2, _ => decide
        omega
      refine ⟨_, rfl, x, dx, _, _, rfl, hx8, rfl, _, rfl, pr, rfl, ⟨_, SqT.of hprH⟩, fun E hE => ?_⟩
      refine lcM (ys := (r.map fun e : Int × Int => e.1).map V.int) (walk_tup (xs := us)) (by simp [lu]) (by omega) (fun l => SqT.of (get_new hprH hE)) (fun i y y' l Ky hy hy' hk => ?_) ?_
      · obtain ⟨e, he, t, ta, tb, rfl, ht, rta, rtb⟩ := paired_get prr hy
        have rta : ta = .int e.1 := rta
        subst rta
        rw [List.getElem?_map, List.getElem?_map, he] at hy'
        obtain rfl := (Option.some.inj hy').symm
        exact ⟨t, _, rfl, SqT.of (get_new (n8.gh _ _ ht) hE), rfl, _, _, rfl, _, _, rfl, rfl, rfl, _, rfl, hk⟩
      have n9 := n8.allocH (o := .lst ((r.map fun e : Int × Int => e.1).map V.int)) hE
      have hx9 := get_new (o := .lst ((r.map fun e : Int × Int => e.1).map V.int)) hx8 hE
      have p4 : (2 : Nat) ^ 20 ≤ 2 ^ 4000 := Nat.pow_le_pow_right (by decide) (by decide)
      refine ⟨E, r.map (fun e : Int × Int => e.1), rfl, SqL.of upd_same, _, _, rfl, pu.1, (show 0 < rowT r by omega), Nat.lt_of_lt_of_le (show (unitL 1 (sp.rows.take i)).natAbs < 2 ^ 20 by omega) p4, Nat.lt_of_lt_of_le (show (rowT r).natAbs < 2 ^ 20 by omega) p4, ?_⟩
      refine ⟨_, rfl, x, dx, _, rfl, hx9, (show (5 : Nat) < 1000 by decide), ?_⟩
      refine ⟨some (.ref pr), rfl, n9.putM (o := .ins (He.ga K "Machine") dx [("alphabet", .str sp.al), ("start", .int sp.st), ("rows", .ref l), ("length", .int n), ("unit", .int (lcmI (unitL 1 (sp.rows.take i)) (rowT r)))]) rfl gx4, ?_⟩
      rw [unitL_take hri]
      exact upd_same
    · rintro σ H8 ⟨z5, rfl, n8, hx8⟩
      rw [lv, List.take_length] at hx8
      have hx8 : H8 x = some (.ins (He.ga K "Machine") dx [("alphabet", .str sp.al), ("start", .int sp.st), ("rows", .ref l), ("length", .int n), ("unit", .int (unitS sp))]) := hx8
      refine ⟨_, rfl, x, dx, _, _, rfl, hx8, rfl, _, rfl, unitS sp, n, rfl, by omega, Nat.lt_of_lt_of_le (show (unitS sp).natAbs < 2 ^ 20 by omega) (Nat.pow_le_pow_right (by decide) (by decide)), ?_⟩
      refine ⟨_, rfl, x, dx, _, rfl, hx8, (show (5 : Nat) < 1000 by decide), ?_⟩
      have n9 := n8.putM (o := .ins (He.ga K "Machine") dx (awF sp.al sp.st l n (unitS sp) (unitS sp ^ n))) rfl gx4
      have hx9 : upd H8 x (.ins (He.ga K "Machine") dx (awF sp.al sp.st l n (unitS sp) (unitS sp ^ n))) x = some (.ins (He.ga K "Machine") dx (awF sp.al sp.st l n (unitS sp) (unitS sp ^ n))) := upd_same
      refine ⟨_, rfl, x, dx, _, rfl, hx9, rfl, G4, x, dx, l, sp, kk, m, _, n, rfl, n9.gh, hx9, ⟨l, vs, rfl, gl4, pr4⟩, S, hn, fun d G' H' n10 hd => ?_⟩
      have hx10 := n10.hh _ _ (fun z => z) hx9
      have gx10 := n10.loc hx9 gx4
      refine ⟨_, rfl, x, dx, _, rfl, hx10, (show (6 : Nat) < 1000 by decide), ?_⟩
      have n11 := (n9.trans n10.sub).putM (o := .ins (He.ga K "Machine") dx (macF (.str sp.al) (.int sp.st) (.ref l) (.int n) (.int (unitS sp)) d (total (mwords sp n)))) rfl gx10
      have xd : d ≠ x := fun e => by rw [e, gx10] at hd; cases hd
      rw [mwords_total S] at n11
      refine k _ _ _ n11 gx10 upd_same ⟨x, dx, d, _, _, _, _, _, rfl, by rw [mwords_total S]; exact upd_same, _, ?_, List.Perm.refl _⟩
      rw [upd_ne xd]
      exact hd
end
end Mk

-- W5
set_option Elab.async false
set_option linter.all false
set_option maxRecDepth 100000
set_option maxHeartbeats 4000000
set_option exponentiation.threshold 20000
namespace Mk
open PySem PySem.Spec PyProof.Rows L2
open C8 (InsC call_isC)
theorem StAt.keep {G H G' H' : Hp} {a : Addr} (n : Nw nM G H G' H') (h : StAt G H a) : StAt G' H' a := by
  obtain ⟨g, l, ns, i1, i2, i3, i4, h1, h2, h3⟩ := h
  exact ⟨n.loc h1 g, l, ns, i1, i2, i3, i4, n.hh _ _ (fun z => z) h1, n.gg _ _ h2, h3⟩
theorem StAt.ne {G H : Hp} {a p : Addr} (h : StAt G H a) (hp : H p = none) : p ≠ a := fun e => by
  obtain ⟨_, l, ns, i1, i2, i3, i4, h1, _⟩ := h
  rw [e, h1] at hp
  cases hp
theorem total_nn : ∀ {ws : List Wd}, (∀ e ∈ ws, 1 ≤ e.2) → 0 ≤ total ws
  | [], _ => Int.le_refl _
  | e :: ws, h => by
    have h1 := total_nn (ws := ws) fun x hx => h x (List.mem_cons_of_mem _ hx)
    have h2 := h e List.mem_cons_self
    have : total (e :: ws) = e.2 + total ws := rfl
    omega
theorem total_le {B : Int} : ∀ {ws : List Wd}, (∀ e ∈ ws, e.2 ≤ B) → total ws ≤ ws.length * B
  | [], _ => by simp [total]
  | e :: ws, h => by
    have h1 := total_le (ws := ws) fun x hx => h x (List.mem_cons_of_mem _ hx)
    have h2 := h e List.mem_cons_self
    have : total (e :: ws) = e.2 + total ws := rfl
    rw [List.length_cons, Int.natCast_add, Int.add_mul]
    omega
section
variable {P : Program} {w : World} {K : PySem.W.Frag} {mg : Str → Option Value} {base : Heap}
theorem rTab_perm {G : Hp} {v : V} {es ws : List Wd} (p : es.Perm ws) (h : rTab K G v es) : rTab K G v ws := by
  obtain ⟨a, dx, d, rfl, ha, fs, hd, pf⟩ := h
  refine ⟨a, dx, d, rfl, ?_, fs, hd, pf.trans p⟩
  rw [← total_perm p]
  exact ha
theorem si_pr {G : Hp} : ∀ {xs : List V} {ps : List Wd}, Paired (rPr rStr rInt G) xs ps → Paired (isSI G) xs ps
  | _, _, .nil => .nil
  | _, _, .cons ⟨p, a, b, h1, h2, h3, h4⟩ t => .cons ⟨p, h1, by
      have h3 : a = .str _ := h3
      have h4 : b = .int _ := h4
      rw [h3, h4] at h2
      exact h2⟩ (si_pr t)
theorem pr_si {G : Hp} : ∀ {xs : List V} {ps : List Wd}, Paired (isSI G) xs ps → Paired (rPr rStr rInt G) xs ps
  | _, _, .nil => .nil
  | _, _, .cons ⟨t, h1, h2⟩ r => .cons ⟨t, _, _, h1, h2, rfl, rfl⟩ (pr_si r)
/-- sorted(list of pairs), the pairs frozen -/
def rSortSG : List V → Hp → VK → Prop := fun vs H Q => ∃ (G : Hp) (a : Addr) (xs : List V) (ps : List (Str × Int)), vs = [V.ref a] ∧ Same G H ∧ H a = some (.lst xs) ∧ Paired (isSI G) xs ps ∧ (ps.map (·.1)).Nodup ∧ ps.length ≤ 1000 ∧
  ∀ ys qs p, Paired (isSI G) ys qs → qs.Perm ps → Srt (qs.map (·.1)) → H p = none → Q (.ref p) (upd H p (.lst ys))
theorem cr_sortSG {X : Cx} (hu : X.A.units + 65 < cLine) : CallR X (.builtin "sorted") rSortSG := by
  intro pins s σ H vs us Q I r h
  obtain ⟨G, a, xs, ps, rfl, sm, ha, hp, nd, hn, q⟩ := h
  rw [Vals.ref1 r]
  obtain ⟨hz, its, n, rv, ho⟩ := I.hok a _ ha
  have E := each_of hp rv
  have lp : ps.length ≤ sizeLine := by rw [sizeLine_eq]; omega
  have er : PySem.W.EachIs (fun v b => ∃ as, Reads s.heap v (encSI b) as) its ps := E.mono fun v p h => by
    obtain ⟨t, e, ht⟩ := h
    subst e
    obtain ⟨_, its2, rv2, o2, ho2, hc2, n2, hd2⟩ := I.hok t _ (sm _ _ ht)
    match its2, rv2, hd2 with
    | [u1, u2], .cons ⟨t1, e1⟩ (.cons ⟨t2, e2⟩ .nil), hd2 =>
      subst e1 e2
      exact ⟨_, .tuple ho2 hc2 hd2 (.cons (.str _ _) (.cons (.int _ _) .nil))⟩
  have hd : ∀ p ∈ ps, X.A.units + 2 + (encSI p).depth < cLine := fun p _ => by
    have e : (encSI p).depth = 1 := by simp [encSI, PyData.depth, PyData.depthAll]
    rw [e]
    omega
  refine PySem.W.sorted_data (enc := encSI) (bs := ps) (vs := its) ⟨_, ho, rfl, n, rfl⟩ E er (PySem.W.AllAlike.of alikeSI) (PySem.W.Sortable.tuples fun p => ⟨_, _, rfl⟩) lp hd ?_
  · intro out lo eo
    obtain ⟨P1, V1⟩ := of_each eo
    obtain ⟨c, gc⟩ := sortedAll_at s.heap its out.toArray
    have T := PySem.W.sortLe_total (listOrd itemOrd) false fun b => PySem.W.keyToks (encSI b)
    have pm : (ps.mergeSort (PySem.W.dataLe false encSI)).Perm ps := List.mergeSort_perm _ _
    refine ⟨.ref (s.heap.objs.size + 1), upd H (s.heap.objs.size + 1) (.lst (out.map unV)), I.laid (t' := s.toks) (fun _ _ => sortedAll_old) (Nat.le_succ _) ⟨by rw [List.length_map, lo]; exact lp, out, c, V1, gc⟩, rfl, q _ _ _ P1 pm (srt_le ?_ ((pm.map _).nodup_iff.mpr nd)) (I.hok.fresh (Nat.le_succ _))⟩
    rw [List.pairwise_map]
    exact (PySem.W.sort_pairwise T ps).imp fun h => leSI h
def rSW (K : PySem.W.Frag) : Rep (List Wd) := fun G v ws => ∃ p a b, v = .ref p ∧ G p = some (.lst [a, b]) ∧ rSrc K G a ws ∧ rWds G b ws
def spSrcL (K : PySem.W.Frag) : Sp := fun vs H Q _ => ∃ (G : Hp) (a : Addr), vs = [.ref a, .int 8] ∧ Same G H ∧ StAt G H a ∧ ∀ ws, Wds ws → ws.length ≤ 8 → RetS a G H (rSW K) ws Q
theorem sc__law_source : FnScope ["_law_state", "_law_most", "_law_spec_here", "_law_length", "_law_k", "_law_pairs_here"] ["_law_state", "_law_most"] (defScope s__law_source) := ⟨rfl, rfl, rfl, by decide +kernel, rfl, by decide +kernel, by decide +kernel⟩
theorem ok__law_source (T : Tx K mg) : Ok P w K mg base 5 (He.ga K "_law_source") ["_law_state", "_law_most"] (spSrcL K) := by
  refine ok_mk (f__law_source T) (df_kp (f__law_source T)) sc__law_source (fun _ _ _ _ _ _ us hl => match us, hl with | [_, _], _ => rfl) (fun vs H Q E h => ?_) (fun cdv A outer s H vs Q E hr h => ?_)
  · obtain ⟨G, a, rfl, _⟩ := h
    rfl
  · obtain ⟨G, a, rfl, sm, st, k⟩ := h
    refine ⟨_, (pss_cons (ps_if (pt_cmpR op_eq (pe_c (ok__law_draw T) (hr.mono (by decide)) rfl (g__law_draw T) (pa_cons (pv 0) (pa_cons pe_int pa_nil))) pe_int (nomark _))
        (pss_cons (ps_set (i := 2) sc__law_source.nd rfl (Or.inl rfl) (pe_c (ok__law_spec T) (hr.mono (by decide)) rfl (g__law_spec T) (pa_cons (pv 0) pa_nil)))
      (pss_cons (ps_set (i := 3) sc__law_source.nd rfl (Or.inl rfl) (pe_ix ix_list (pv 2) pe_int (fun _ _ => rfl)))
      (pss_cons (ps_for PassesOwn.never rfl (pi_range1 (by rfl) (b_range T) (pa_cons pe_int pa_nil)) (pg_name (i := 4) sc__law_source.nd rfl (Or.inl rfl))
      (pss_one (ps_if (PW.pt (pw_and (pt_cmpR op_gt (pv 3) pe_int (nomark _)) (pw_and1 (pt_cmpR op_gt (pe_callB call_len_seq (by rfl) (b_len T) (by decide +kernel) (pa_cons (pe_c (ok__law_words T) (hr.mono (by decide)) rfl (g__law_words T) (pa_cons (pv 2) (pa_cons (pv 3) pa_nil))) pa_nil)) (pv 1) (nomark _)))))
        (pss_one (ps_set (i := 3) sc__law_source.nd rfl (Or.inl rfl) (pe_op op_sub (pv 3) pe_int)))
        pss_nil)))
      (pss_one (ps_ret (pe_lst (pa_cons (pe_k (k_Machine T) (ok_Machine_init T) (hr.mono (by decide)) rfl (g_Machine T) (pa_cons (pe_ix ix_list (pv 2) pe_int (fun _ _ => rfl)) (pa_cons (pe_ix ix_list (pv 2) pe_int (fun _ _ => rfl)) (pa_cons (pe_ix ix_list (pv 2) pe_int (fun _ _ => rfl)) (pa_cons (pv 3) pa_nil))))) (pa_cons (pe_c (ok__law_words T) (hr.mono (by decide)) rfl (g__law_words T) (pa_cons (pv 2) (pa_cons (pv 3) pa_nil))) pa_nil))))))))
        pss_nil)
      (pss_cons (ps_set (i := 5) sc__law_source.nd rfl (Or.inl rfl) (pe_c (ok__law_pairs T) (hr.mono (by decide)) rfl (g__law_pairs T) (pa_cons (pv 0) (pa_cons (pv 1) pa_nil))))
      (pss_one (ps_ret (pe_lst (pa_cons (pe_k (k_Table T) (ok_Table_init T) (hr.mono (by decide)) rfl (g_Table T) (pa_cons (pv 5) pa_nil)) (pa_cons (pe_callB (cr_sortSG (u65 hr)) (by rfl) (b_sorted T) (by decide +kernel) (pa_cons (pv 5) pa_nil)) pa_nil))))))), ?_⟩
    refine ⟨_, rfl, G, a, 4, rfl, sm, st, by decide, fun r H1 r0 r1 n1 st1 => ⟨rfl, _, rfl, ite2 (fun c => ?_) fun c => ?_⟩⟩
    · refine ⟨_, rfl, G, a, rfl, n1.gh, st1, fun s kk m S v G2 H2 n2 r2 st2 => ?_⟩
      obtain ⟨p, q, rfl, hp, hr2⟩ := id r2
      have n12 := n1.trans n2
      refine ⟨_, rfl, p, _, _, .int s.len, rfl, rfl, SqL.of (n2.gh _ _ hp), rfl, ?_⟩
      obtain ⟨n0, hn0⟩ := Int.eq_ofNat_of_zero_le S.len0
      have hn3 := S.len3
      refine ⟨_, rfl, by decide, by decide, ?_⟩
      refine for_it (n := 3) (walk_range (lo := 0) (n := 3)) (fun i σ H' => ∃ (z4 : Option V) (n : Nat) (Gc : Hp), σ = [some (.ref a), some (.int 8), some (.ref p), some (.int n), z4, none] ∧ Nw (fun c => c = a) G H Gc H' ∧ Same G2 Gc ∧ StAt Gc H' a ∧ n ≤ 3 ∧ ((mwords s n).length ≤ 8 ∨ n + i ≤ 3))
        ⟨none, n0, G2, by rw [← hn0]; rfl, n12, Same.refl _, st2, by omega, .inr (by omega)⟩ (fun _ _ _ _ _ => trivial) ?_ ?_
      · rintro i y σ Hy H3 hi ⟨z4, n, Gc, rfl, n3, g3, st3, l3, al⟩ ⟨rfl, rfl⟩
        refine ⟨_, rfl, _, _, rfl, rfl, _, rfl, ite2 (fun c => ?_) fun c => ?_⟩
        · have c : 0 < (n : Int) := of_decide_eq_true c
          refine ⟨_, rfl, _, rfl, Gc, _, s, kk, m, n, rfl, n3.gh, Mono.mono g3 r2, S, l3, fun v4 G4 H4 n4 r4 => ?_⟩
          obtain ⟨l, vs, rfl, hl, prl⟩ := r4
          have ll := paired_len prl
          have n34 := n3.trans n4.sub
          have st4 := st3.keep n4
          refine ⟨l, vs, rfl, .inl (SqL.of (n4.gh _ _ hl)), _, rfl, _, _, rfl, rfl, _, rfl, ite2 (fun c2 => ?_) fun c2 => ?_⟩
          · have c2 : (8 : Int) < (vs.length : Nat) := of_decide_eq_true c2
            refine ⟨_, rfl, _, _, rfl, rfl, some (.int (0 + (i : Nat))), n - 1, G4, ?_, n34, g3.trans n4.gg, st4, by omega, .inr (by omega)⟩
            rw [show ((n - 1 : Nat) : Int) = (n : Int) - 1 by omega]
            rfl
          · have c2 : ¬ (8 : Int) < (vs.length : Nat) := by simpa using c2
            exact ⟨_, n, G4, rfl, n34, g3.trans n4.gg, st4, l3, .inl (by omega)⟩
        · have c : ¬ 0 < (n : Int) := by simpa using c
          have : n = 0 := by omega
          subst this
          exact ⟨_, 0, Gc, rfl, n3, g3, st3, l3, .inl (Nat.le_trans (mwords_len S 0) (by decide))⟩
      · rintro σ H3 ⟨z4, n, Gc, rfl, n3, g3, st3, l3, al⟩
        have l8 : (mwords s n).length ≤ 8 := by
          rcases al with h | h
          · exact h
          · have : n = 0 := by omega
            subst this
            exact Nat.le_trans (mwords_len S 0) (by decide)
        have hpH := n3.gh _ _ (g3 _ _ hp)
        refine ⟨_, rfl, p, _, _, .str s.al, rfl, rfl, SqL.of hpH, rfl, _, rfl, p, _, _, .int s.st, rfl, rfl, SqL.of hpH, rfl, _, rfl, p, _, _, .ref q, rfl, rfl, SqL.of hpH, rfl, _, rfl, ?_⟩
        intro x dx hx hd ne
        have nr := Nw.refl (M := nM) n3.gh
        refine ⟨x, dx, Gc, q, s, kk, m, n, rfl, (nr.obj hx hd ne).gh, upd_same, n3.gh.free hx, Mono.mono g3 hr2, S, l3, ini_done (M := nM) nr hx hd ne fun G4 H4 n4 r4 => ⟨rfl, ?_⟩⟩
        refine ⟨_, rfl, _, rfl, G4, _, s, kk, m, n, rfl, n4.gh, Mono.mono (g3.trans n4.gg) r2, S, l3, fun v5 G5 H5 n5 r5 => ⟨len_ok (show 2 ≤ 100000 by decide), fun N hN => ?_⟩⟩
        have st5 := (st3.keep n4).keep n5
        have n6 := (n3.trans (n4.trans n5).sub).alloc (o := .lst [.ref x, v5]) hN
        have gs : Same G5 (upd G5 N (.lst [.ref x, v5])) := same_new (n5.gh.free hN)
        refine k (mwords s n) (mwords_ok S l3) l8 _ _ _ n6 ⟨N, _, _, rfl, upd_same, .inr (Mono.mono (R := rMac K) (n5.gg.trans gs) r4), Mono.mono (R := rWds) gs r5⟩ ((st5.new hN).mono gs ?_)
        rw [upd_ne (Ne.symm (st5.ne hN))]
        exact st5.1
    · refine ⟨_, rfl, _, rfl, G, a, rfl, n1.gh, st1, fun es nd l8 ene ew v G2 H2 n2 r2 st2 => ?_⟩
      have n12 := n1.trans n2
      obtain ⟨q, vs, rfl, hq, prv⟩ := id r2
      refine ⟨_, rfl, ?_⟩
      intro x dx hx hd ne
      have nr := Nw.refl (M := nM) n2.gh
      refine ⟨x, dx, G2, _, es, es, rfl, (nr.obj hx hd ne).gh, upd_same, n2.gh.free hx, r2, nd, fun e he => (ew e he).1, by omega, List.Perm.refl _, ini_done (M := nM) nr hx hd ne fun G4 H4 n4 r4 => ⟨rfl, ?_⟩⟩
      have hq4 := n4.gg _ _ hq
      have pr4 := paired_mono (R := rPr rStr rInt) n4.gg prv
      refine ⟨_, rfl, G4, q, vs, es, rfl, n4.gh, n4.gh _ _ hq4, si_pr pr4, nd, by omega, fun ys qs b prs pm srt hb => ?_⟩
      have prs := pr_si prs
      have st4 := st2.keep n4
      have n5 := (n12.trans n4.sub).alloc (o := .lst ys) hb
      have st5 := (st4.new (o := .lst ys) hb).mono (same_new (o := .lst ys) (n4.gh.free hb)) (by rw [upd_ne (Ne.symm (st4.ne hb))]; exact st4.1)
      have g5 : Same G4 (upd G4 b (.lst ys)) := same_new (n4.gh.free hb)
      have hb5 : upd G4 b (.lst ys) b = some (.lst ys) := upd_same
      refine ⟨len_ok (show 2 ≤ 100000 by decide), fun N hN => ?_⟩
      generalize upd G4 b (.lst ys) = G5 at n5 st5 g5 hb5
      have n6 := n5.alloc (o := .lst [.ref x, .ref b]) hN
      have gs : Same G5 (upd G5 N (.lst [.ref x, .ref b])) := same_new (n5.gh.free hN)
      have pos : ∀ e ∈ qs, 1 ≤ e.2 := fun e he => (ew e (pm.mem_iff.mp he)).1
      have lq := pm.length_eq
      have W : Wds qs := ⟨srt, pos, by omega, fun e => by
        rw [e] at lq
        exact ene (List.length_eq_zero_iff.mp lq.symm), by
        have h1 := total_le (ws := qs) fun e he => Int.le_of_lt (ew e (pm.mem_iff.mp he)).2
        have h2 : 0 ≤ total qs := total_nn pos
        have h3 : (qs.length : Int) * 10 ^ 40 ≤ 8 * 10 ^ 40 := Int.mul_le_mul_of_nonneg_right (by omega) (by decide)
        have h4 : (8 * 10 ^ 40 : Int).natAbs < 2 ^ 140 := by decide
        omega⟩
      refine k qs W (by omega) _ _ _ n6 ⟨N, _, _, rfl, upd_same, .inl (rTab_perm pm.symm (Mono.mono (R := rTab K) (g5.trans gs) r4)), ⟨b, ys, rfl, gs _ _ hb5, paired_mono (R := rPr rStr rInt) (g5.trans gs) prs⟩⟩ ((st5.new hN).mono gs ?_)
      rw [upd_ne (Ne.symm (st5.ne hN))]
      exact st5.1
end
end Mk

-- W6
set_option Elab.async false
set_option linter.all false
set_option maxRecDepth 100000
set_option maxHeartbeats 4000000
set_option exponentiation.threshold 20000
namespace Mk
open PySem PySem.Spec PyProof.Rows L2
open C8 (InsC call_isC)
section
variable {P : Program} {w : World} {K : PySem.W.Frag} {mg : Str → Option Value} {base : Heap}
def spLvl : Sp := fun vs H Q _ => ∃ (G : Hp) (a : Addr) (wv : V) (ws : List Wd), vs = [.ref a, wv] ∧ Same G H ∧ StAt G H a ∧ rWds G wv ws ∧ Wds ws ∧ ∀ o u : Int, 0 < o → 0 < u → o.natAbs < 2 ^ 140 → u.natAbs < 2 ^ 140 → RetS a G H (rLf V.int) [o, u] Q
theorem sc__law_level : FnScope ["_law_state", "_law_words_here", "_law_whole", "_law_kind", "_law_under_here", "_law_first", "_law_second", "_law_word"] ["_law_state", "_law_words_here"] (defScope s__law_level) := ⟨rfl, rfl, rfl, by decide +kernel, rfl, by decide +kernel, by decide +kernel⟩
theorem ok__law_level (T : Tx K mg) : Ok P w K mg base 3 (He.ga K "_law_level") ["_law_state", "_law_words_here"] spLvl := by
  refine ok_mk (f__law_level T) (df_kp (f__law_level T)) sc__law_level (fun _ _ _ _ _ _ us hl => match us, hl with | [_, _], _ => rfl) (fun vs H Q E h => ?_) (fun cdv A outer s H vs Q E hr h => ?_)
  · obtain ⟨G, a, wv, ws, rfl, _⟩ := h
    rfl
  · obtain ⟨G, a, wv, ws, rfl, sm, st, ⟨q, vs, rfl, hq, prv⟩, W, k⟩ := h
    refine ⟨_, (pss_cons (ps_set (i := 2) sc__law_level.nd rfl (Or.inl rfl) (pe_callB (cr_sum rfl) (by rfl) (b_sum T) (by decide +kernel) (pa_cons (pe_lc (own := [("_law_word", 7)]) (g := (gName 7)) (tt := tYes) rfl sc__law_level.nd (pi_list (pv 1)) (blkOk_by (N := ["_law_state", "_law_words_here", "_law_whole", "_law_kind", "_law_under_here", "_law_first", "_law_second", "_law_word"]) (sc := defScope s__law_level) (by decide +kernel)) (fun _ _ _ _ _ => (pg_name (i := 7) sc__law_level.nd rfl (Or.inl rfl))) (fun _ _ _ _ _ => pts_nil) (fun _ _ _ _ _ => (pe_ix (show IxR _ (rIxT K) from ix_tup) (pv 7) pe_int (fun _ _ => rfl)))) pa_nil)))
      (pss_cons (ps_set (i := 3) sc__law_level.nd rfl (Or.inl rfl) (pe_c (ok__law_draw T) (hr.mono (by decide)) rfl (g__law_draw T) (pa_cons (pv 0) (pa_cons pe_int pa_nil))))
      (pss_cons (ps_set (i := 4) sc__law_level.nd rfl (Or.inl rfl) (pe_op op_add pe_int (pe_c (ok__law_draw T) (hr.mono (by decide)) rfl (g__law_draw T) (pa_cons (pv 0) (pa_cons pe_int pa_nil)))))
      (C8.pss_cut (ps_if (PW.pt (pw_and (pt_cmpR op_gt (pv 3) pe_int (nomark _)) (pw_and1 (pt_cmpR op_lt (pv 2) (pe_op op_pow pe_int pe_int) (nomark _)))))
        (pss_cons (ps_set (i := 5) sc__law_level.nd rfl (Or.inl rfl) (pe_ix ix_tup (pe_ix ix_list (pv 1) (pe_c (ok__law_draw T) (hr.mono (by decide)) rfl (g__law_draw T) (pa_cons (pv 0) (pa_cons (pe_callB call_len_seq (by rfl) (b_len T) (by decide +kernel) (pa_cons (pv 1) pa_nil)) pa_nil))) (fun _ _ => rfl)) pe_int (fun _ _ => rfl)))
      (pss_cons (ps_set (i := 6) sc__law_level.nd rfl (Or.inl rfl) (pe_ix ix_tup (pe_ix ix_list (pv 1) (pe_c (ok__law_draw T) (hr.mono (by decide)) rfl (g__law_draw T) (pa_cons (pv 0) (pa_cons (pe_callB call_len_seq (by rfl) (b_len T) (by decide +kernel) (pa_cons (pv 1) pa_nil)) pa_nil))) (fun _ _ => rfl)) pe_int (fun _ _ => rfl)))
      (pss_one (ps_ret (pe_lst (pa_cons (pe_op op_add (pv 5) (pv 6)) (pa_cons (pe_op op_mulX (pv 2) (pe_op op_add pe_int (pe_c (ok__law_draw T) (hr.mono (by decide)) rfl (g__law_draw T) (pa_cons (pv 0) (pa_cons pe_int pa_nil))))) pa_nil)))))))
        pss_nil)
      (C8.pss_cut (ps_if (PW.pt (pw_and (pt_cmpR op_eq (pv 3) pe_int (nomark _)) (pw_and1 (pt_cmpR op_lt (pv 2) (pe_op op_pow pe_int pe_int) (nomark _)))))
        (pss_one (ps_ret (pe_lst (pa_cons (pe_ix ix_tup (pe_ix ix_list (pv 1) (pe_c (ok__law_draw T) (hr.mono (by decide)) rfl (g__law_draw T) (pa_cons (pv 0) (pa_cons (pe_callB call_len_seq (by rfl) (b_len T) (by decide +kernel) (pa_cons (pv 1) pa_nil)) pa_nil))) (fun _ _ => rfl)) pe_int (fun _ _ => rfl)) (pa_cons (pv 2) pa_nil)))))
        pss_nil)
      (C8.pss_cut (ps_if (PW.pt (pw_and (pt_cmpR op_eq (pv 3) pe_int (nomark _)) (pw_and1 (pt_cmpR op_lt (pv 2) (pe_op op_pow pe_int pe_int) (nomark _)))))
        (pss_one (ps_ret (pe_lst (pa_cons (pe_op op_add pe_int (pe_op op_mod (pe_callTy call_int1 (by rfl) (b_int T) (by decide +kernel) (pa_cons (pe_c (ok__law_wide T) (hr.mono (by decide)) rfl (g__law_wide T) (pa_cons (pv 0) pa_nil)) pa_nil)) (pv 2))) (pa_cons (pv 2) pa_nil)))))
        pss_nil)
      (pss_cons (ps_if (pt_cmpR op_eq (pv 3) pe_int (nomark _))
        (pss_one (ps_ret (pe_lst (pa_cons (pv 4) (pa_cons (pv 4) pa_nil)))))
        pss_nil)
      (pss_cons (ps_if (pt_cmpR op_eq (pv 3) pe_int (nomark _))
        (pss_one (ps_ret (pe_lst (pa_cons (pe_op op_add (pe_op op_add (pv 4) pe_int) (pe_c (ok__law_draw T) (hr.mono (by decide)) rfl (g__law_draw T) (pa_cons (pv 0) (pa_cons pe_int pa_nil)))) (pa_cons (pv 4) pa_nil)))))
        pss_nil)
      (pss_cons (ps_if (pt_cmpR op_eq (pv 3) pe_int (nomark _))
        (pss_cons (ps_set (i := 4) sc__law_level.nd rfl (Or.inl rfl) (pe_callB (call_max2 rfl) (by rfl) (b_max T) (by decide +kernel) (pa_cons pe_int (pa_cons (pe_c (ok__law_wide T) (hr.mono (by decide)) rfl (g__law_wide T) (pa_cons (pv 0) pa_nil)) pa_nil))))
      (pss_one (ps_ret (pe_lst (pa_cons (pe_callB (call_max2 rfl) (by rfl) (b_max T) (by decide +kernel) (pa_cons pe_int (pa_cons (pe_op op_mod (pe_callTy call_int1 (by rfl) (b_int T) (by decide +kernel) (pa_cons (pe_c (ok__law_wide T) (hr.mono (by decide)) rfl (g__law_wide T) (pa_cons (pv 0) pa_nil)) pa_nil)) (pv 4)) pa_nil))) (pa_cons (pv 4) pa_nil))))))
        pss_nil)
      (pss_cons (ps_if (pt_cmpR op_eq (pv 3) pe_int (nomark _))
        (pss_one (ps_ret (pe_lst (pa_cons pe_int (pa_cons (pe_op op_mulX (pv 4) (pe_op op_pow pe_int pe_int)) pa_nil)))))
        pss_nil)
      (pss_one (ps_ret (pe_lst (pa_cons (pe_op op_add pe_int (pe_c (ok__law_draw T) (hr.mono (by decide)) rfl (g__law_draw T) (pa_cons (pv 0) (pa_cons (pv 4) pa_nil)))) (pa_cons (pe_op op_add (pv 4) (pe_c (ok__law_draw T) (hr.mono (by decide)) rfl (g__law_draw T) (pa_cons (pv 0) (pa_cons (pv 4) pa_nil)))) pa_nil))))))))))))))), ?_⟩
    have lv := paired_len prv
    have few := W.few
    have hqH := sm _ _ hq
    have tp := sum_pos W.pos W.ne
    have big := W.big
    have nel : 0 < vs.length := by
      rw [lv]
      exact List.length_pos_iff.mpr W.ne
    have pick : ∀ j : Int, 0 ≤ j → j < (if (vs.length : Int) < 2 then 1 else (vs.length : Int)) → ∃ (e : Wd) (t : Addr), atI vs j = some (.ref t) ∧ G t = some (.tup [.str e.1, .int e.2]) ∧ 1 ≤ e.2 ∧ e.2 ≤ total ws := fun j h0 h1 => by
      have h1 : j < vs.length := by
        revert h1
        split <;> intro h1 <;> omega
      have hv : vs[j.toNat]? = some (vs[j.toNat]'(by omega)) := List.getElem?_eq_getElem (by omega)
      obtain ⟨e, he, t, x, y, ex, ht, rx, ry⟩ := paired_get prv hv
      have rx : x = .str e.1 := rx
      have ry : y = .int e.2 := ry
      subst rx ry
      have hm := List.mem_of_getElem? he
      exact ⟨e, t, by rw [at_int h0 h1, hv, ex], ht, W.pos e hm, mem_le W.pos e hm⟩
    have fin : ∀ (o u : Int) (H' : Hp), 0 < o → 0 < u → o.natAbs < 2 ^ 140 → u.natAbs < 2 ^ 140 → Nw (fun c => c = a) G H G H' → StAt G H' a → ∀ p, H' p = none → Q (.ref p) (upd H' p (.lst [.int o, .int u])) := fun o u H' h1 h2 h3 h4 n st p hp =>
      k o u h1 h2 h3 h4 _ _ _ (n.alloc hp) ⟨p, rfl, upd_same⟩ ((st.new hp).mono (same_new (n.gh.free hp)) (by rw [upd_ne (Ne.symm (st.ne hp))]; exact st.1))
    refine ⟨_, rfl, q, rfl, ⟨_, SqL.of hqH⟩, fun E hE => ?_⟩
    refine lcM (ys := (ws.map fun e : Wd => e.2).map V.int) (walk_list (xs := vs)) (by simp [lv]) (by omega) (fun l => SqL.of (get_new hqH hE)) (fun i y y' l Ky hy hy' hk => ?_) ?_
    · obtain ⟨e, he, t, ta, tb, rfl, ht, rta, rtb⟩ := paired_get prv hy
      have rtb : tb = .int e.2 := rtb
      subst rtb
      rw [List.getElem?_map, List.getElem?_map, he] at hy'
      obtain rfl := (Option.some.inj hy').symm
      exact ⟨rfl, _, rfl, t, _, _, _, rfl, rfl, SqT.of (get_new (sm _ _ ht) hE), rfl, hk⟩
    have n1 := (Nw.refl (M := fun c => c = a) sm).allocH (o := .lst ((ws.map fun e : Wd => e.2).map V.int)) hE
    have st1 := st.new (o := .lst ((ws.map fun e : Wd => e.2).map V.int)) hE
    refine ⟨E, ws.map (fun e : Wd => e.2), rfl, SqL.of upd_same, ?_⟩
    have eT : (ws.map fun e : Wd => e.2).sum = total ws := rfl
    rw [eT]
    refine ⟨_, rfl, G, a, 11, rfl, n1.gh, st1, by decide, fun kd H2 k0 k1 n2 st2 => ?_⟩
    refine ⟨_, rfl, G, a, 12, rfl, n2.gh, st2, by decide, fun r H3 r0 r1 n3 st3 => ⟨_, _, rfl, rfl, ?_⟩⟩
    have r1 : r < 12 := r1
    have k1 : kd < 11 := k1
    have n4 := (n1.trans n2).trans n3
    have hq3 := n3.gh _ _ hq
    have hug : ∃ ug : Int, (1 + r : Int) = ug ∧ 1 ≤ ug ∧ ug ≤ 12 := ⟨1 + r, rfl, by omega, by omega⟩
    obtain ⟨ug, eug, u1, u12⟩ := hug
    show gName 4 (V.int (1 + r)) _ H3 _
    rw [eug]
    generalize total ws = wh at tp big pick
    refine ⟨fun σ H' => σ = [some (.ref a), some (.ref q), some (.int wh), some (.int kd), some (.int ug), none, none, none] ∧ H' = H3, ⟨_, rfl, _, _, rfl, rfl, _, rfl, ite2 (fun c => ?_) fun c => ?_⟩, ?_⟩
    · refine ⟨_, rfl, _, _, rfl, rfl, ⟨by decide, by decide, by decide⟩, _, _, rfl, rfl, _, rfl, ite2 (fun c => ?_) fun c => ?_⟩
      · have c : wh < 10 ^ 38 := of_decide_eq_true c
        refine ⟨_, rfl, _, rfl, _, rfl, q, _, rfl, .inl (SqL.of hq3), G, a, _, rfl, n4.gh, st3, by omega, fun j H5 j0 j1 n5 st5 => ?_⟩
        obtain ⟨e, t, ha, ht, e1, e2⟩ := pick j j0 j1
        refine ⟨q, _, _, .ref t, rfl, rfl, SqL.of (n5.gh _ _ hq), ha, t, _, _, .int e.2, rfl, rfl, SqT.of (n5.gh _ _ ht), rfl, ?_⟩
        refine ⟨_, rfl, _, rfl, _, rfl, q, _, rfl, .inl (SqL.of (n5.gh _ _ hq)), G, a, _, rfl, n5.gh, st5, by omega, fun j H6 j0 j1 n6 st6 => ?_⟩
        obtain ⟨f, t, ha, ht, f1, f2⟩ := pick j j0 j1
        refine ⟨q, _, _, .ref t, rfl, rfl, SqL.of (n6.gh _ _ hq), ha, t, _, _, .int f.2, rfl, rfl, SqT.of (n6.gh _ _ ht), rfl, ?_⟩
        refine ⟨_, rfl, _, rfl, _, _, rfl, rfl, _, rfl, _, rfl, G, a, 2, rfl, n6.gh, st6, by decide, fun d H7 d0 d1 n7 st7 => ?_⟩
        have d1 : d < 2 := d1
        refine ⟨_, _, rfl, rfl, _, _, rfl, rfl, mulx_ok (a := 140) (b := 10) big (by omega) (by decide), len_ok (show 2 ≤ 100000 by decide), fun p hp => ?_⟩
        have m1 : 0 < wh * (2 + d) := Int.mul_pos tp (by omega)
        have m2 : wh * (2 + d) ≤ 10 ^ 38 * 3 := Int.mul_le_mul (by omega) (by omega) (by omega) (by decide)
        exact fin _ _ _ (by omega) m1 (by omega) (by omega) (((n4.trans n5).trans n6).trans n7) st7 p hp
      · exact ⟨rfl, rfl⟩
    · exact ⟨rfl, rfl⟩
    rintro σ H4 ⟨rfl, rfl⟩
    refine ⟨fun σ H' => σ = [some (.ref a), some (.ref q), some (.int wh), some (.int kd), some (.int ug), none, none, none] ∧ H' = H4, ⟨_, rfl, rfl, _, rfl, ite2 (fun c => ?_) fun c => ?_⟩, ?_⟩
    · refine ⟨_, rfl, _, _, rfl, rfl, ⟨by decide, by decide, by decide⟩, _, _, rfl, rfl, _, rfl, ite2 (fun c => ?_) fun c => ?_⟩
      · refine ⟨_, rfl, _, rfl, _, rfl, q, _, rfl, .inl (SqL.of hq3), G, a, _, rfl, n4.gh, st3, by omega, fun j H5 j0 j1 n5 st5 => ?_⟩
        obtain ⟨e, t, ha, ht, e1, e2⟩ := pick j j0 j1
        refine ⟨q, _, _, .ref t, rfl, rfl, SqL.of (n5.gh _ _ hq), ha, t, _, _, .int e.2, rfl, rfl, SqT.of (n5.gh _ _ ht), rfl, ?_⟩
        refine ⟨_, rfl, len_ok (show 2 ≤ 100000 by decide), fun p hp => ?_⟩
        exact fin _ _ _ (by omega) tp (by omega) big (n4.trans n5) st5 p hp
      · exact ⟨rfl, rfl⟩
    · exact ⟨rfl, rfl⟩
    rintro σ H4 ⟨rfl, rfl⟩
    refine ⟨fun σ H' => σ = [some (.ref a), some (.ref q), some (.int wh), some (.int kd), some (.int ug), none, none, none] ∧ H' = H4, ⟨_, rfl, rfl, _, rfl, ite2 (fun c => ?_) fun c => ?_⟩, ?_⟩
    · refine ⟨_, rfl, _, _, rfl, rfl, ⟨by decide, by decide, by decide⟩, _, _, rfl, rfl, _, rfl, ite2 (fun c => ?_) fun c => ?_⟩
      · refine ⟨_, rfl, G, a, rfl, n4.gh, st3, fun g H5 g0 g1 n5 st5 => .inl ⟨g, rfl, _, rfl, _, _, rfl, rfl, tp, _, _, rfl, rfl, _, rfl, len_ok (show 2 ≤ 100000 by decide), fun p hp => ?_⟩⟩
        have m0 := Int.emod_nonneg g (show wh ≠ 0 by omega)
        have m1 := Int.emod_lt_of_pos g tp
        exact fin _ _ _ (by omega) tp (by omega) big (n4.trans n5) st5 p hp
      · exact ⟨rfl, rfl⟩
    · exact ⟨rfl, rfl⟩
    rintro σ H4 ⟨rfl, rfl⟩
    refine ⟨_, rfl, rfl, _, rfl, ite2 (fun c => ?_) fun c => ?_⟩
    · exact ⟨_, rfl, _, rfl, len_ok (show 2 ≤ 100000 by decide), fun p hp => fin _ _ _ (by omega) (by omega) (by omega) (by omega) n4 st3 p hp⟩
    refine ⟨_, rfl, rfl, _, rfl, ite2 (fun c => ?_) fun c => ?_⟩
    · refine ⟨_, rfl, _, _, rfl, rfl, _, rfl, G, a, 30, rfl, n4.gh, st3, by decide, fun d H5 d0 d1 n5 st5 => ⟨_, _, rfl, rfl, _, rfl, len_ok (show 2 ≤ 100000 by decide), fun p hp => ?_⟩⟩
      have d1 : d < 30 := d1
      exact fin _ _ _ (by omega) (by omega) (by omega) (by omega) (n4.trans n5) st5 p hp
    refine ⟨_, rfl, rfl, _, rfl, ite2 (fun c => ?_) fun c => ?_⟩
    · refine ⟨_, rfl, G, a, rfl, n4.gh, st3, fun g H5 g0 g1 n5 st5 => ⟨1, g, rfl, ?_⟩⟩
      have q1 : 0 < (if g > 1 then g else 1) := by split <;> omega
      have q2 : (if g > 1 then g else 1) < 10 ^ 40 := by split <;> omega
      show gName 4 (V.int (if g > 1 then g else 1)) _ H5 _
      generalize (if g > 1 then g else 1) = b at q1 q2
      refine ⟨_, rfl, G, a, rfl, n5.gh, st5, fun f H6 f0 f1 n6 st6 => .inl ⟨f, rfl, _, rfl, _, _, rfl, rfl, q1, 1, f % b, rfl, _, rfl, len_ok (show 2 ≤ 100000 by decide), fun p hp => ?_⟩⟩
      have m0 := Int.emod_nonneg f (show b ≠ 0 by omega)
      have m1 := Int.emod_lt_of_pos f q1
      have p1 : 0 < (if f % b > 1 then f % b else 1) := by split <;> omega
      have p2 : (if f % b > 1 then f % b else 1) < 10 ^ 40 := by split <;> omega
      exact fin _ _ _ p1 q1 (by omega) (by omega) ((n4.trans n5).trans n6) st6 p hp
    refine ⟨_, rfl, rfl, _, rfl, ite2 (fun c => ?_) fun c => ?_⟩
    · refine ⟨_, rfl, _, _, rfl, rfl, ⟨by decide, by decide, by decide⟩, _, _, rfl, rfl, mulx_ok (a := 10) (b := 110) (by omega) (by decide) (by decide), len_ok (show 2 ≤ 100000 by decide), fun p hp => ?_⟩
      have m1 : 0 < ug * 10 ^ 30 := Int.mul_pos (by omega) (by decide)
      have m2 : ug * 10 ^ 30 ≤ 12 * 10 ^ 30 := Int.mul_le_mul (by omega) (by omega) (by decide) (by decide)
      exact fin _ (ug * 10 ^ 30) _ (by decide) m1 (by decide) (by omega) n4 st3 p hp
    refine ⟨_, rfl, _, rfl, G, a, ug, rfl, n4.gh, st3, by omega, fun d H5 d0 d1 n5 st5 => ⟨_, _, rfl, rfl, ?_⟩⟩
    refine ⟨_, rfl, _, rfl, _, rfl, G, a, ug, rfl, n5.gh, st5, by omega, fun f H6 f0 f1 n6 st6 => ⟨_, _, rfl, rfl, len_ok (show 2 ≤ 100000 by decide), fun p hp => ?_⟩⟩
    have d1 : d < 13 := by
      revert d1
      split <;> intro d1 <;> omega
    have f1 : f < 13 := by
      revert f1
      split <;> intro f1 <;> omega
    exact fin _ _ _ (by omega) (by omega) (by omega) (by omega) ((n4.trans n5).trans n6) st6 p hp
end
end Mk

-- W7
set_option Elab.async false
set_option linter.all false
set_option maxRecDepth 100000
set_option maxHeartbeats 4000000
set_option exponentiation.threshold 20000
namespace Mk
open PySem PySem.Spec PyProof.Rows L2
open C8 (InsC call_isC)
section
variable {P : Program} {w : World} {K : PySem.W.Frag} {mg : Str → Option Value} {base : Heap}
def spPool : Sp := fun vs H Q _ => ∃ (G : Hp) (a : Addr) (wv : V) (ws : List Wd), vs = [.ref a, wv, .int 8] ∧ Same G H ∧ StAt G H a ∧ rWds G wv ws ∧ Wds ws ∧ ws.length ≤ 8 ∧ ∀ more : List Str, (ws.map (·.1) ++ more).Nodup → more.length ≤ 8 → RetS a G H (rLf V.str) (ws.map (·.1) ++ more) Q
theorem sc__law_pool : FnScope ["_law_state", "_law_words_here", "_law_most", "_law_pool_here", "_law_text_here", "_law_word"] ["_law_state", "_law_words_here", "_law_most"] (defScope s__law_pool) := ⟨rfl, rfl, rfl, by decide +kernel, rfl, by decide +kernel, by decide +kernel⟩
theorem ok__law_pool (T : Tx K mg) : Ok P w K mg base 4 (He.ga K "_law_pool") ["_law_state", "_law_words_here", "_law_most"] spPool := by
  refine ok_mk (f__law_pool T) (df_kp (f__law_pool T)) sc__law_pool (fun _ _ _ _ _ _ us hl => match us, hl with | [_, _, _], _ => rfl) (fun vs H Q E h => ?_) (fun cdv A outer s H vs Q E hr h => ?_)
  · obtain ⟨G, a, wv, ws, rfl, _⟩ := h
    rfl
  · obtain ⟨G, a, wv, ws, rfl, sm, st, ⟨q, vs, rfl, hq, prv⟩, W, l8, k⟩ := h
    refine ⟨_, (pss_cons (ps_setLc (i := 3) (own := [("_law_word", 5)]) (g := (gName 5)) (tt := tYes) rfl sc__law_pool.nd rfl rfl (sw_true rfl rfl rfl (by decide +kernel)) (pi_list (pv 1)) (blkOk_by (N := ["_law_state", "_law_words_here", "_law_most", "_law_pool_here", "_law_text_here", "_law_word"]) (sc := defScope s__law_pool) (by decide +kernel)) (fun _ _ _ _ _ => (pg_name (i := 5) sc__law_pool.nd rfl (Or.inl rfl))) (fun _ _ _ _ _ => pts_nil) (fun _ _ _ _ _ => (pe_ix (show IxR _ (rIxT K) from ix_tup) (pv 5) pe_int (fun _ _ => rfl))))
      (pss_cons (ps_for PassesOwn.never rfl (pi_list (pe_c (ok__law_texts T) (hr.mono (by decide)) rfl (g__law_texts T) (pa_cons (pv 0) (pa_cons (pe_c (ok__law_draw T) (hr.mono (by decide)) rfl (g__law_draw T) (pa_cons (pv 0) (pa_cons (pe_op op_add (pv 2) pe_int) pa_nil))) (pa_cons pe_int pa_nil))))) (pg_name (i := 4) sc__law_pool.nd rfl (Or.inl rfl))
      (pss_one (ps_if (pt_cmpR op_notIn_seq (pv 4) (pv 3) (by rfl))
        (pss_one (ps_expr (pe_bm PySem.F.plainAttrs_list PySem.F.slot_list_append PySem.F.type_list_append mt_append (pv 3) (pa_cons (pv 4) pa_nil))))
        pss_nil)))
      (pss_one (ps_ret (pv 3))))), ?_⟩
    have lv := paired_len prv
    have hqH := sm _ _ hq
    refine ⟨_, rfl, q, rfl, ⟨_, SqL.of hqH⟩, fun D hD => ?_⟩
    have gD : G D = none := sm.free hD
    have Da := st.ne hD
    refine lcM (ys := (ws.map fun e : Wd => e.1).map V.str) (walk_list (xs := vs)) (by simp [lv]) (by omega) (fun l => SqL.of (get_new hqH hD)) (fun i y y' l Ky hy hy' hk => ?_) ?_
    · obtain ⟨e, he, t, ta, tb, rfl, ht, rta, rtb⟩ := paired_get prv hy
      have rta : ta = .str e.1 := rta
      subst rta
      rw [List.getElem?_map, List.getElem?_map, he] at hy'
      obtain rfl := (Option.some.inj hy').symm
      exact ⟨rfl, _, rfl, t, _, _, _, rfl, rfl, SqT.of (get_new (sm _ _ ht) hD), rfl, hk⟩
    have n1 := (Nw.refl (M := fun c => c = a) sm).allocH (o := .lst ((ws.map fun e : Wd => e.1).map V.str)) hD
    have st1 := st.new (o := .lst ((ws.map fun e : Wd => e.1).map V.str)) hD
    have hD1 : upd H D (.lst ((ws.map fun e : Wd => e.1).map V.str)) D = some (.lst ((ws.map fun e : Wd => e.1).map V.str)) := upd_same
    refine ⟨_, rfl, _, rfl, _, rfl, _, _, rfl, rfl, G, a, 9, rfl, n1.gh, st1, by decide, fun many H2 m0 m1 n2 st2 => ?_⟩
    have m1 : many < 9 := m1
    refine ⟨G, a, many, rfl, n2.gh, st2, m0, by omega, fun ts nd tl tne v G3 H3 n3 r3 st3 => ?_⟩
    obtain ⟨p, rfl, hp⟩ := r3
    have n23 := n2.trans n3
    have hD3 := n23.hh _ _ Da hD1
    have gD3 := n23.loc hD1 gD
    have n4 := n1.trans n23
    refine ⟨p, rfl, ⟨_, SqL.of (n4.gh _ _ hp)⟩, ?_⟩
    refine for_it (walk_list (xs := ts.map V.str)) (fun i σ H' => ∃ (z4 : Option V) (more : List Str), σ = [some (.ref a), some (.ref q), some (.int 8), some (.ref D), z4, none] ∧ Nw (fun c => c = a) G H G3 H' ∧ StAt G3 H' a ∧ H' D = some (.lst ((ws.map (·.1) ++ more).map V.str)) ∧ (ws.map (·.1) ++ more).Nodup ∧ more.length ≤ i)
      ⟨none, [], rfl, n4, st3, by rw [List.append_nil]; exact hD3, by rw [List.append_nil]; exact W.srt.nd, Nat.le_refl _⟩ (fun i σ H' _ h => by obtain ⟨z4, more, rfl, n, _⟩ := h; exact SqL.of (n.gh _ _ hp)) ?_ ?_
    · rintro i y σ Hy H5 hi ⟨z4, more, rfl, n5, st5, hD5, ndp, ml⟩ ⟨rfl, hy⟩
      rw [List.length_map] at hi
      rw [List.getElem?_map, List.getElem?_eq_getElem hi] at hy
      generalize ts[i] = t at hy
      obtain rfl : y = .str t := (Option.some.inj hy).symm
      refine ⟨_, rfl, _, rfl, D, _, rfl, .inl (SqL.of hD5), rfl, flat_strs _, ?_⟩
      rw [inV_str]
      refine ⟨_, rfl, ite2 (fun c => ?_) fun c => ?_⟩
      · have c : t ∉ ws.map (·.1) ++ more := by simpa using c
        refine ⟨_, rfl, tyL hD5, _, rfl, D, _, _, rfl, rfl, hD5, by rw [List.length_map, List.length_append, List.length_map, sizeLine_eq]; omega, ?_⟩
        refine ⟨_, more ++ [t], rfl, n5.putH hD gD3, st5.put Da, ?_, ?_, by rw [List.length_append, List.length_singleton]; omega⟩
        · have em : (ws.map (·.1) ++ (more ++ [t])).map V.str = (ws.map (·.1) ++ more).map V.str ++ [.str t] := by simp
          rw [em]
          exact upd_same
        · rw [← List.append_assoc]
          exact List.nodup_append.mpr ⟨ndp, by simp, fun x hx y hy e => c (by rw [← List.mem_singleton.mp hy, ← e]; exact hx)⟩
      · exact ⟨_, more, rfl, n5, st5, hD5, ndp, by omega⟩
    · rintro σ H5 ⟨z4, more, rfl, n5, st5, hD5, ndp, ml⟩
      rw [List.length_map] at ml
      have n6 := n5.frz hD hD5
      refine ⟨_, rfl, k more ndp (by omega) _ _ _ n6 ⟨D, rfl, upd_same⟩ (st5.mono (same_new gD3) ?_)⟩
      rw [upd_ne (Ne.symm Da)]
      exact st5.1
end
end Mk

-- W8
set_option Elab.async false
set_option linter.all false
set_option maxRecDepth 100000
set_option maxHeartbeats 4000000
set_option exponentiation.threshold 20000
namespace Mk
open PySem PySem.Spec PyProof.Rows L2
open C8 (InsC call_isC)
theorem cutV_app (A B : List V) : cutV (A ++ B) (some (A.length : Int)) none = B := by
  unfold cutV
  rw [HT.sIx_nat, HT.sIx_none, List.length_append, Nat.min_eq_left (by omega), List.drop_left]
  exact List.take_of_length_le (by omega)
/-- a row as it is drawn from the pool -/
structure RowP (pool : List Str) (r : Row) : Prop where
  srt : Srt r.2
  own : r.1 ∈ r.2
  sub : ∀ t ∈ r.2, t ∈ pool
theorem rows_inst {ws : List Wd} {more sub : List Str} {rows : List Row} (W : Wds ws) (l8 : ws.length ≤ 8) (ndp : (ws.map (·.1) ++ more).Nodup) (ml : more.length ≤ 8) (nm : rows.map (·.1) = ws.map (·.1) ++ sub) (sb : sub.Sublist more) (rp : ∀ r ∈ rows, RowP (ws.map (·.1) ++ more) r) : Inst ws rows ∧ Aln ws rows := by
  have pl : (ws.map (·.1) ++ more).length ≤ 16 := by rw [List.length_append, List.length_map]; omega
  have sl : sub.length ≤ 8 := Nat.le_trans sb.length_le ml
  have rl : rows.length ≤ 16 := by
    have h : (rows.map (·.1)).length = (ws.map (·.1) ++ sub).length := by rw [nm]
    rw [List.length_map, List.length_append, List.length_map] at h
    omega
  refine ⟨⟨W, ⟨?_, by omega, fun r hr => ⟨(rp r hr).srt, (rp r hr).own, ?_⟩⟩, l8, fun e he => ?_, fun l nd h => ?_⟩, fun i e h => ?_⟩
  · rw [nm]
    exact ndp.sublist (List.Sublist.append (List.Sublist.refl _) sb)
  · have := nodup_le (rp r hr).srt.nd (rp r hr).sub
    omega
  · rw [nm]
    exact List.mem_append_left _ (List.mem_map.mpr ⟨e, he, rfl⟩)
  · refine Nat.le_trans (nodup_le nd fun t ht => ?_) pl
    obtain ⟨r, hr, h2⟩ := h t ht
    exact (rp r hr).sub t h2
  · have hi := (List.getElem?_eq_some_iff.mp h).1
    have e1 : (rows.map (·.1))[i]? = some e.1 := by
      rw [nm, List.getElem?_append_left (by rw [List.length_map]; exact hi), List.getElem?_map, h]
      rfl
    rw [List.getElem?_map] at e1
    cases hr : rows[i]? with
    | none => rw [hr] at e1; cases e1
    | some r =>
      rw [hr] at e1
      exact ⟨r, rfl, Option.some.inj e1⟩
section
variable {P : Program} {w : World} {K : PySem.W.Frag} {mg : Str → Option Value} {base : Heap}
def spRows : Sp := fun vs H Q _ => ∃ (G : Hp) (a : Addr) (wv pv : V) (ws : List Wd) (more : List Str), vs = [.ref a, wv, pv] ∧ Same G H ∧ StAt G H a ∧ rWds G wv ws ∧ Wds ws ∧ ws.length ≤ 8 ∧ rLf V.str G pv (ws.map (·.1) ++ more) ∧ (ws.map (·.1) ++ more).Nodup ∧ more.length ≤ 8 ∧
  ∀ rows, Inst ws rows → Aln ws rows → RetS a G H rRows rows Q
theorem sc__law_rows : FnScope ["_law_state", "_law_words_here", "_law_pool_here", "_law_dense", "_law_left", "_law_rows_here", "_law_word", "_law_found", "_law_k", "_law_other", "_law_text_here"] ["_law_state", "_law_words_here", "_law_pool_here"] (defScope s__law_rows) := ⟨rfl, rfl, rfl, by decide +kernel, rfl, by decide +kernel, by decide +kernel⟩
theorem ok__law_rows (T : Tx K mg) : Ok P w K mg base 2 (He.ga K "_law_rows") ["_law_state", "_law_words_here", "_law_pool_here"] spRows := by
  refine ok_mk (f__law_rows T) (df_kp (f__law_rows T)) sc__law_rows (fun _ _ _ _ _ _ us hl => match us, hl with | [_, _, _], _ => rfl) (fun vs H Q E h => ?_) (fun cdv A outer s H vs Q E hr h => ?_)
  · obtain ⟨G, a, wv, pv, ws, more, rfl, _⟩ := h
    rfl
  · obtain ⟨G, a, wv, pv_, ws, more, rfl, sm, st, ⟨q, vs, rfl, hq, prv⟩, W, l8, ⟨pp, rfl, hpp⟩, ndp, ml, k⟩ := h
    refine ⟨_, (pss_cons (ps_set (i := 3) sc__law_rows.nd rfl (Or.inl rfl) (pe_op op_add pe_int (pe_c (ok__law_draw T) (hr.mono (by decide)) rfl (g__law_draw T) (pa_cons (pv 0) (pa_cons pe_int pa_nil)))))
      (pss_cons (ps_set (i := 4) sc__law_rows.nd rfl (Or.inl rfl) pe_int)
      (pss_cons (ps_set (i := 5) sc__law_rows.nd rfl (Or.inl rfl) (pe_lst pa_nil))
      (pss_cons (ps_for PassesOwn.never rfl (pi_list (pv 1)) (pg_name (i := 6) sc__law_rows.nd rfl (Or.inl rfl))
      (pss_cons (ps_set (i := 7) sc__law_rows.nd rfl (Or.inl rfl) (pe_lst (pa_cons (pe_ix ix_tup (pv 6) pe_int (fun _ _ => rfl)) pa_nil)))
      (pss_cons (ps_for PassesOwn.never rfl (pi_range1 (by rfl) (b_range T) (pa_cons (pe_callB (call_min2 rfl) (by rfl) (b_min T) (by decide +kernel) (pa_cons (pv 4) (pa_cons (pe_c (ok__law_draw T) (hr.mono (by decide)) rfl (g__law_draw T) (pa_cons (pv 0) (pa_cons (pe_op op_add (pv 3) pe_int) pa_nil))) pa_nil))) pa_nil)) (pg_name (i := 8) sc__law_rows.nd rfl (Or.inl rfl))
      (pss_cons (ps_set (i := 9) sc__law_rows.nd rfl (Or.inl rfl) (pe_ix ix_list (pv 2) (pe_c (ok__law_draw T) (hr.mono (by decide)) rfl (g__law_draw T) (pa_cons (pv 0) (pa_cons (pe_callB call_len_seq (by rfl) (b_len T) (by decide +kernel) (pa_cons (pv 2) pa_nil)) pa_nil))) (fun _ _ => rfl)))
      (pss_one (ps_if (pt_cmpR op_notIn_seq (pv 9) (pv 7) (by rfl))
        (pss_cons (ps_expr (pe_bm PySem.F.plainAttrs_list PySem.F.slot_list_append PySem.F.type_list_append mt_append (pv 7) (pa_cons (pv 9) pa_nil)))
      (pss_one (ps_set (i := 4) sc__law_rows.nd rfl (Or.inl rfl) (pe_op op_sub (pv 4) pe_int))))
        pss_nil))))
      (pss_one (ps_expr (pe_bm PySem.F.plainAttrs_list PySem.F.slot_list_append PySem.F.type_list_append mt_append (pv 5) (pa_cons (pe_tup (pa_cons (pe_ix ix_tup (pv 6) pe_int (fun _ _ => rfl)) (pa_cons (pe_callB cr_sortedS (by rfl) (b_sorted T) (by decide +kernel) (pa_cons (pv 7) pa_nil)) pa_nil))) pa_nil)))))))
      (pss_cons (ps_for PassesOwn.never rfl (pi_list (pe_slice sl_list (pv 2) (po_some (pe_callB call_len_seq (by rfl) (b_len T) (by decide +kernel) (pa_cons (pv 1) pa_nil))) po_none)) (pg_name (i := 10) sc__law_rows.nd rfl (Or.inl rfl))
      (pss_one (ps_if (PW.pt (pw_and (pt_cmpR op_eq (pe_c (ok__law_draw T) (hr.mono (by decide)) rfl (g__law_draw T) (pa_cons (pv 0) (pa_cons pe_int pa_nil))) pe_int (nomark _)) (pw_and1 (pt_cmpR op_lt (pe_callB call_len_seq (by rfl) (b_len T) (by decide +kernel) (pa_cons (pv 5) pa_nil)) pe_int (nomark _)))))
        (pss_one (ps_expr (pe_bm PySem.F.plainAttrs_list PySem.F.slot_list_append PySem.F.type_list_append mt_append (pv 5) (pa_cons (pe_tup (pa_cons (pv 10) (pa_cons (pe_callB cr_sortedS (by rfl) (b_sorted T) (by decide +kernel) (pa_cons (pe_lst (pa_cons (pv 10) (pa_cons (pe_ix ix_list (pv 2) pe_int (fun _ _ => rfl)) pa_nil))) pa_nil)) pa_nil))) pa_nil))))
        pss_nil)))
      (pss_one (ps_ret (pv 5)))))))), ?_⟩
    have lv := paired_len prv
    have pl : (ws.map (·.1) ++ more).length ≤ 16 := by rw [List.length_append, List.length_map]; omega
    have pl1 : 1 ≤ (ws.map (·.1) ++ more).length := by
      have := List.length_pos_iff.mpr W.ne
      rw [List.length_append, List.length_map]
      omega
    obtain ⟨pool, hpool⟩ : ∃ pool, ws.map (·.1) ++ more = pool := ⟨_, rfl⟩
    have hpp' : G pp = some (.lst (pool.map V.str)) := by rw [← hpool]; exact hpp
    rw [hpool] at pl pl1
    have pick : ∀ j : Int, 0 ≤ j → j < (if ((pool.map V.str).length : Int) < 2 then 1 else ((pool.map V.str).length : Int)) → ∃ t ∈ pool, atI (pool.map V.str) j = some (.str t) := fun j h0 h1 => by
      have h1 : j < pool.length := by
        rw [List.length_map] at h1
        revert h1
        split <;> intro h1 <;> omega
      have hv : pool[j.toNat]? = some (pool[j.toNat]'(by omega)) := List.getElem?_eq_getElem (by omega)
      refine ⟨pool[j.toNat]'(by omega), List.getElem_mem _, ?_⟩
      rw [at_int h0 (by rw [List.length_map]; exact h1), List.getElem?_map, hv]
      rfl
    refine ⟨_, rfl, G, a, 4, rfl, sm, st, by decide, fun dn0 H1 d0 d1 n1 st1 => ⟨_, _, rfl, rfl, ?_⟩⟩
    have d1 : dn0 < 4 := d1
    obtain ⟨dn, edn, dn1, dn4⟩ : ∃ dn : Int, (1 + dn0 : Int) = dn ∧ 1 ≤ dn ∧ dn ≤ 4 := ⟨1 + dn0, rfl, by omega, by omega⟩
    show gName 3 (V.int (1 + dn0)) _ H1 _
    rw [edn]
    refine ⟨Nat.zero_le _, fun RL hRL => ?_⟩
    have hRL0 : H RL = none := n1.free hRL
    have gRL : G RL = none := sm.free hRL0
    have aRL := st1.ne hRL
    have n2 := n1.allocH (o := .lst []) hRL
    refine ⟨_, rfl, q, rfl, ⟨_, SqL.of (n2.gh _ _ hq)⟩, ?_⟩
    refine for_it (walk_list (xs := vs)) (fun i σ H' => ∃ (z6 z7 z8 z9 : Option V) (left : Int) (Gc : Hp) (rv : List V) (rows : List Row), σ = [some (.ref a), some (.ref q), some (.ref pp), some (.int dn), some (.int left), some (.ref RL), z6, z7, z8, z9, none] ∧ 0 ≤ left ∧ left ≤ 36 ∧ Nw (fun c => c = a) G H Gc H' ∧ StAt Gc H' a ∧ H' RL = some (.lst rv) ∧ Gc RL = none ∧ Paired (rPr rStr (rLf V.str) Gc) rv rows ∧ rows.map (·.1) = (ws.take i).map (·.1) ∧ ∀ r ∈ rows, RowP pool r)
      ⟨none, none, none, none, 36, G, [], [], rfl, by decide, by decide, n2, st1.new hRL, upd_same, gRL, .nil, rfl, fun r h => (by cases h)⟩ (fun i σ H' _ h => by obtain ⟨z6, z7, z8, z9, left, Gc, rv, rows, rfl, _, _, n, _⟩ := h; exact SqL.of (n.gh _ _ (n.gg _ _ hq))) ?_ ?_
    · rintro i y σ Hy H3 hi ⟨z6, z7, z8, z9, left, Gc, rv, rows, rfl, lf0, lf1, n3, st3, hRL3, gRL3, pr3, nm, rp⟩ ⟨rfl, hy⟩
      obtain ⟨e, hei, t, ta, tb, rfl, ht, rta, rtb⟩ := paired_get prv hy
      have rta : ta = .str e.1 := rta
      subst rta
      have he := List.mem_of_getElem? hei
      have hpo : e.1 ∈ pool := by
        rw [← hpool]
        exact List.mem_append_left _ (List.mem_map.mpr ⟨e, he, rfl⟩)
      refine ⟨_, rfl, t, _, _, .str e.1, rfl, rfl, SqT.of (n3.gh _ _ (n3.gg _ _ ht)), rfl, len_ok (show 1 ≤ 100000 by decide), fun F hF => ?_⟩
      have hF0 : H F = none := n3.free hF
      have gF : Gc F = none := n3.gh.free hF
      have aF := st3.ne hF
      have nRF : RL ≠ F := ne_of_none hRL3 hF
      have n4 := n3.allocH (o := .lst [.str e.1]) hF
      have st4 := st3.new (o := .lst [.str e.1]) hF
      have hRL4 := get_new (o := .lst [.str e.1]) hRL3 hF
      have hF4 : upd H3 F (.lst [.str e.1]) F = some (.lst ([e.1].map V.str)) := upd_same
      refine ⟨_, rfl, _, rfl, _, rfl, _, _, rfl, rfl, Gc, a, _, rfl, n4.gh, st4, by omega, fun cn H5 c0 c1 n5 st5 => ⟨left, cn, rfl, ?_⟩⟩
      have hRL5 := n5.hh _ _ aRL hRL4
      have hF5 := n5.hh _ _ aF hF4
      have n45 := n4.trans n5
      obtain ⟨n, hn⟩ := Int.eq_ofNat_of_zero_le (show 0 ≤ (if cn < left then cn else left) by split <;> omega)
      have hn1 : (n : Int) ≤ left := by rw [← hn]; split <;> omega
      rw [hn]
      refine ⟨_, rfl, by omega, by omega, ?_⟩
      have wk : Walk (Itr 0 ((n : Int)).toNat) n (fun _ => True) (YFn fun i => .int (0 + (i : Nat))) := by rw [Int.toNat_natCast]; exact walk_range
      refine for_it wk (fun j σ H' => ∃ (z8 z9 : Option V) (lf : Int) (fs : List Str), σ = [some (.ref a), some (.ref q), some (.ref pp), some (.int dn), some (.int lf), some (.ref RL), some (.ref t), some (.ref F), z8, z9, none] ∧ left - j ≤ lf ∧ lf ≤ 36 ∧ Nw (fun c => c = a) G H Gc H' ∧ StAt Gc H' a ∧ H' RL = some (.lst rv) ∧ H' F = some (.lst (fs.map V.str)) ∧ fs.Nodup ∧ e.1 ∈ fs ∧ ∀ t ∈ fs, t ∈ pool)
        ⟨z8, z9, left, [e.1], rfl, by omega, lf1, n45, st5, hRL5, hF5, by simp, by simp, fun t h => by rw [List.mem_singleton.mp h]; exact hpo⟩ (fun _ _ _ _ _ => trivial) ?_ ?_
      · rintro j y σ Hy H6 hj ⟨z8, z9, lf, fs, rfl, b1, b2, n6, st6, hRL6, hF6, ndf, ef, fp⟩ ⟨rfl, rfl⟩
        have hp6 := n6.gh _ _ (n3.gg _ _ hpp')
        have fl := nodup_le ndf fp
        refine ⟨_, rfl, _, rfl, _, rfl, pp, _, rfl, .inl (SqL.of hp6), Gc, a, _, rfl, n6.gh, st6, by rw [List.length_map]; omega, fun o H7 o0 o1 n7 st7 => ?_⟩
        obtain ⟨tt, htp, hat⟩ := pick o o0 o1
        refine ⟨pp, _, _, .str tt, rfl, rfl, SqL.of (n7.gh _ _ (n3.gg _ _ hpp')), hat, ?_⟩
        have hF7 := n7.hh _ _ aF hF6
        have hRL7 := n7.hh _ _ aRL hRL6
        have n67 := n6.trans n7
        refine ⟨_, rfl, _, rfl, F, _, rfl, .inl (SqL.of hF7), rfl, flat_strs _, ?_⟩
        rw [inV_str]
        refine ⟨_, rfl, ite2 (fun c => ?_) fun c => ?_⟩
        · have c : tt ∉ fs := by simpa using c
          refine ⟨_, rfl, tyL hF7, _, rfl, F, _, _, rfl, rfl, hF7, by rw [List.length_map, sizeLine_eq]; omega, ?_⟩
          refine ⟨_, rfl, _, _, rfl, rfl, ?_⟩
          refine ⟨_, _, lf - 1, fs ++ [tt], rfl, by omega, by omega, n67.putH hF0 gF, st7.put aF, by rw [upd_ne nRF]; exact hRL7, by rw [List.map_append]; exact upd_same, ?_, List.mem_append_left _ ef, fun x hx => ?_⟩
          · exact List.nodup_append.mpr ⟨ndf, by simp, fun x hx y hy e => c (by rw [← List.mem_singleton.mp hy, ← e]; exact hx)⟩
          · rcases List.mem_append.mp hx with z | z
            · exact fp x z
            · rw [List.mem_singleton.mp z]
              exact htp
        · exact ⟨_, _, lf, fs, rfl, by omega, b2, n67, st7, hRL7, hF7, ndf, ef, fp⟩
      · rintro σ H6 ⟨z8, z9, lf, fs, rfl, b1, b2, n6, st6, hRL6, hF6, ndf, ef, fp⟩
        have fl := nodup_le ndf fp
        have lrv := paired_len pr3
        have rvl : rv.length ≤ 8 := by
          have h : (rows.map (·.1)).length = ((ws.take i).map (·.1)).length := by rw [nm]
          rw [List.length_map, List.length_map, List.length_take] at h
          omega
        refine ⟨_, rfl, tyL hRL6, _, rfl, t, _, _, .str e.1, rfl, rfl, SqT.of (n6.gh _ _ (n3.gg _ _ ht)), rfl, _, rfl, F, fs, rfl, SqL.of hF6, by omega, fun ys L pm so hL => ⟨len_ok (show 2 ≤ 100000 by decide), fun N hN => ?_⟩⟩
        have n7 := n6.alloc (o := .lst (ys.map V.str)) hL
        have n8 := n7.alloc (o := .tup [.str e.1, .ref L]) hN
        have LN : L ≠ N := ne_of_none upd_same hN
        have aL := st6.ne hL
        have hRL7 := get_new (o := .lst (ys.map V.str)) hRL6 hL
        have hRL8 := get_new (o := .tup [.str e.1, .ref L]) hRL7 hN
        have RLL : RL ≠ L := ne_of_none hRL6 hL
        have RLN : RL ≠ N := ne_of_none hRL7 hN
        have gs1 : Same Gc (upd Gc L (.lst (ys.map V.str))) := same_new (n6.gh.free hL)
        have gs2 : Same (upd Gc L (.lst (ys.map V.str))) (upd (upd Gc L (.lst (ys.map V.str))) N (.tup [.str e.1, .ref L])) := same_new (n7.gh.free hN)
        have g8 : upd (upd Gc L (.lst (ys.map V.str))) N (.tup [.str e.1, .ref L]) RL = none := by rw [upd_ne RLN, upd_ne RLL]; exact gRL3
        have st7 := (st6.new (o := .lst (ys.map V.str)) hL).mono gs1 (by rw [upd_ne (Ne.symm aL)]; exact st6.1)
        have aN := st7.ne hN
        have st8 := (st7.new (o := .tup [.str e.1, .ref L]) hN).mono gs2 (by rw [upd_ne (Ne.symm aN)]; exact st7.1)
        refine ⟨RL, _, _, rfl, rfl, hRL8, by rw [sizeLine_eq]; omega, ?_⟩
        refine ⟨_, _, _, _, lf, _, rv ++ [.ref N], rows ++ [(e.1, ys)], rfl, by omega, b2, n8.putH hRL0 g8, st8.put aRL, upd_same, g8, paired_snoc ⟨N, _, _, rfl, upd_same, rfl, L, rfl, by rw [upd_ne LN]; exact upd_same⟩ (paired_mono (R := rPr rStr (rLf V.str)) (gs1.trans gs2) pr3), ?_, fun r hr => ?_⟩
        · rw [List.map_append, nm, List.take_add_one, hei, List.map_append]
          rfl
        · rcases List.mem_append.mp hr with z | z
          · exact rp r z
          · rw [List.mem_singleton.mp z]
            exact ⟨srt_perm so pm ndf, pm.mem_iff.mpr ef, fun t ht => fp t (pm.mem_iff.mp ht)⟩
    · rintro σ H3 ⟨z6, z7, z8, z9, left, Gc, rv, rows, rfl, lf0, lf1, n3, st3, hRL3, gRL3, pr3, nm, rp⟩
      rw [lv, List.take_length] at nm
      have hp3 := n3.gh _ _ (n3.gg _ _ hpp)
      refine ⟨_, rfl, _, rfl, q, _, rfl, .inl (SqL.of (n3.gh _ _ (n3.gg _ _ hq))), _, rfl, pp, _, rfl, SqL.of hp3, fun S hS => ?_⟩
      have ecut : cutV ((ws.map (·.1) ++ more).map V.str) (some (vs.length : Int)) none = more.map V.str := by
        rw [List.map_append]
        have e : (vs.length : Int) = (((ws.map (·.1)).map V.str).length : Nat) := by rw [List.length_map, List.length_map, lv]
        rw [e]
        exact cutV_app _ _
      rw [ecut]
      have n4 := n3.alloc (o := .lst (more.map V.str)) hS
      have RLS : RL ≠ S := ne_of_none hRL3 hS
      have aS := st3.ne hS
      have gs : Same Gc (upd Gc S (.lst (more.map V.str))) := same_new (n3.gh.free hS)
      have st4 := (st3.new (o := .lst (more.map V.str)) hS).mono gs (by rw [upd_ne (Ne.symm aS)]; exact st3.1)
      have hRL4 := get_new (o := .lst (more.map V.str)) hRL3 hS
      have gRL4 : upd Gc S (.lst (more.map V.str)) RL = none := by rw [upd_ne RLS]; exact gRL3
      have gS : upd Gc S (.lst (more.map V.str)) S = some (.lst (more.map V.str)) := upd_same
      have pr4 := paired_mono (R := rPr rStr (rLf V.str)) gs pr3
      generalize upd Gc S (.lst (more.map V.str)) = G4 at n4 gs st4 gRL4 gS pr4
      refine ⟨S, rfl, ⟨_, SqL.of (n4.gh _ _ gS)⟩, ?_⟩
      refine for_it (walk_list (xs := more.map V.str)) (fun j σ H' => ∃ (z10 : Option V) (Gd : Hp) (rv : List V) (rows : List Row) (sub : List Str), σ = [some (.ref a), some (.ref q), some (.ref pp), some (.int dn), some (.int left), some (.ref RL), z6, z7, z8, z9, z10] ∧ Nw (fun c => c = a) G H Gd H' ∧ Same G4 Gd ∧ StAt Gd H' a ∧ H' RL = some (.lst rv) ∧ Gd RL = none ∧ Paired (rPr rStr (rLf V.str) Gd) rv rows ∧ rows.map (·.1) = ws.map (·.1) ++ sub ∧ sub.Sublist (more.take j) ∧ ∀ r ∈ rows, RowP pool r)
        ⟨none, G4, rv, rows, [], rfl, n4, Same.refl _, st4, hRL4, gRL4, pr4, by rw [List.append_nil]; exact nm, List.nil_sublist _, rp⟩ (fun j σ H' _ h => by obtain ⟨z10, Gd, rv, rows, sub, rfl, n, g, _⟩ := h; exact SqL.of (n.gh _ _ (g _ _ gS))) ?_ ?_
      · rintro j y σ Hy H5 hj ⟨z10, Gd, rv, rows, sub, rfl, n5, g5, st5, hRL5, gRL5, pr5, nm5, sb, rp5⟩ ⟨rfl, hy⟩
        rw [List.length_map] at hj
        rw [List.getElem?_map, List.getElem?_eq_getElem hj] at hy
        have hmj : more[j]? = some more[j] := List.getElem?_eq_getElem hj
        generalize more[j] = t at hy hmj
        obtain rfl : y = .str t := (Option.some.inj hy).symm
        have tk : more.take (j + 1) = more.take j ++ [t] := by rw [List.take_add_one, hmj]; rfl
        have tm := List.mem_of_getElem? hmj
        have lrv := paired_len pr5
        have sl : sub.length ≤ 8 := by
          have := sb.length_le
          rw [List.length_take] at this
          omega
        have rvl : rv.length ≤ 16 := by
          have h : (rows.map (·.1)).length = (ws.map (·.1) ++ sub).length := by rw [nm5]
          rw [List.length_map, List.length_append, List.length_map] at h
          omega
        have skip : ∀ H', Nw (fun c => c = a) G H Gd H' → StAt Gd H' a → H' RL = some (.lst rv) → ∃ (z10 : Option V) (Gd : Hp) (rv : List V) (rows : List Row) (sub : List Str), [some (.ref a), some (.ref q), some (.ref pp), some (.int dn), some (.int left), some (.ref RL), z6, z7, z8, z9, some (.str t)] = [some (.ref a), some (.ref q), some (.ref pp), some (.int dn), some (.int left), some (.ref RL), z6, z7, z8, z9, z10] ∧ Nw (fun c => c = a) G H Gd H' ∧ Same G4 Gd ∧ StAt Gd H' a ∧ H' RL = some (.lst rv) ∧ Gd RL = none ∧ Paired (rPr rStr (rLf V.str) Gd) rv rows ∧ rows.map (·.1) = ws.map (·.1) ++ sub ∧ sub.Sublist (more.take (j + 1)) ∧ ∀ r ∈ rows, RowP pool r := fun H' n st h =>
          ⟨_, Gd, rv, rows, sub, rfl, n, g5, st, h, gRL5, pr5, nm5, by rw [tk]; exact sb.trans (List.sublist_append_left _ _), rp5⟩
        refine ⟨_, rfl, Gd, a, 4, rfl, n5.gh, st5, by decide, fun r H6 r0 r1 n6 st6 => ⟨rfl, _, rfl, ite2 (fun c => ?_) fun c => ?_⟩⟩
        · have hRL6 := n6.hh _ _ aRL hRL5
          have n56 := n5.trans n6
          refine ⟨_, rfl, RL, _, rfl, .inl (SqL.of hRL6), _, _, rfl, rfl, _, rfl, ite2 (fun c => ?_) fun c => ?_⟩
          · have h0 : pool[0]? = some (pool[0]'(by omega)) := List.getElem?_eq_getElem (by omega)
            have hp0 : pool[0]'(by omega) ∈ pool := List.getElem_mem _
            have tp : t ∈ pool := by rw [← hpool]; exact List.mem_append_right _ tm
            have ne0 : t ≠ pool[0]'(by omega) := fun e => by
              have e1 : pool[0]? = (ws.map (·.1))[0]? := by
                rw [← hpool, List.getElem?_append_left]
                rw [List.length_map]
                exact List.length_pos_iff.mpr W.ne
              rw [h0] at e1
              have m0 : pool[0]'(by omega) ∈ ws.map (·.1) := List.mem_of_getElem? e1.symm
              exact (List.nodup_append.mp ndp).2.2 _ m0 _ tm e.symm
            generalize pool[0]'(by omega) = p0 at h0 hp0 ne0
            have at0 : atI (pool.map V.str) 0 = some (.str p0) := by
              rw [at_int (Int.le_refl _) (by rw [List.length_map]; omega), List.getElem?_map]
              show (pool[0]?).map V.str = _
              rw [h0]
              rfl
            refine ⟨_, rfl, tyL hRL6, _, rfl, _, rfl, _, rfl, pp, _, _, .str p0, rfl, rfl, SqL.of (n56.gh _ _ (n56.gg _ _ hpp')), at0, len_ok (show 2 ≤ 100000 by decide), fun F hF => ⟨F, [t, p0], rfl, SqL.of upd_same, (show 2 < 64 by decide), fun ys L pm so hL => ⟨len_ok (show 2 ≤ 100000 by decide), fun N hN => ?_⟩⟩⟩
            have n7 := n56.allocH (o := .lst [.str t, .str p0]) hF
            have st7 := st6.new (o := .lst [.str t, .str p0]) hF
            have hRL7 := get_new (o := .lst [.str t, .str p0]) hRL6 hF
            have n8 := n7.alloc (o := .lst (ys.map V.str)) hL
            have n9 := n8.alloc (o := .tup [.str t, .ref L]) hN
            have LN : L ≠ N := ne_of_none upd_same hN
            have aL := st7.ne hL
            have hRL8 := get_new (o := .lst (ys.map V.str)) hRL7 hL
            have hRL9 := get_new (o := .tup [.str t, .ref L]) hRL8 hN
            have RLL : RL ≠ L := ne_of_none hRL7 hL
            have RLN : RL ≠ N := ne_of_none hRL8 hN
            have gs1 : Same Gd (upd Gd L (.lst (ys.map V.str))) := same_new (n7.gh.free hL)
            have gs2 : Same (upd Gd L (.lst (ys.map V.str))) (upd (upd Gd L (.lst (ys.map V.str))) N (.tup [.str t, .ref L])) := same_new (n8.gh.free hN)
            have g9 : upd (upd Gd L (.lst (ys.map V.str))) N (.tup [.str t, .ref L]) RL = none := by rw [upd_ne RLN, upd_ne RLL]; exact gRL5
            have st8 := (st7.new (o := .lst (ys.map V.str)) hL).mono gs1 (by rw [upd_ne (Ne.symm aL)]; exact st7.1)
            have aN := st8.ne hN
            have st9 := (st8.new (o := .tup [.str t, .ref L]) hN).mono gs2 (by rw [upd_ne (Ne.symm aN)]; exact st8.1)
            refine ⟨RL, _, _, rfl, rfl, hRL9, by rw [sizeLine_eq]; omega, ?_⟩
            refine ⟨_, _, rv ++ [.ref N], rows ++ [(t, ys)], sub ++ [t], rfl, n9.putH hRL0 g9, g5.trans (gs1.trans gs2), st9.put aRL, upd_same, g9, paired_snoc ⟨N, _, _, rfl, upd_same, rfl, L, rfl, by rw [upd_ne LN]; exact upd_same⟩ (paired_mono (R := rPr rStr (rLf V.str)) (gs1.trans gs2) pr5), ?_, ?_, fun r hr => ?_⟩
            · rw [List.map_append, nm5, List.append_assoc]
              rfl
            · rw [tk]
              exact List.Sublist.append sb (List.Sublist.refl _)
            · rcases List.mem_append.mp hr with z | z
              · exact rp5 r z
              · rw [List.mem_singleton.mp z]
                refine ⟨srt_perm so pm (by simp [ne0]), pm.mem_iff.mpr (by simp), fun x hx => ?_⟩
                rcases List.mem_cons.mp (pm.mem_iff.mp hx) with z | z
                · rw [z]; exact tp
                · rw [List.mem_singleton.mp z]; exact hp0
          · exact skip _ n56 st6 hRL6
        · exact skip _ (n5.trans n6) st6 (n6.hh _ _ aRL hRL5)
      · rintro σ H5 ⟨z10, Gd, rv, rows, sub, rfl, n5, g5, st5, hRL5, gRL5, pr5, nm5, sb, rp5⟩
        rw [List.length_map, List.take_length] at sb
        rw [← hpool] at rp5
        obtain ⟨I, al⟩ := rows_inst W l8 ndp ml nm5 sb rp5
        have n6 := n5.frz hRL0 hRL5
        refine ⟨_, rfl, k rows I al _ _ _ n6 ⟨RL, rv, rfl, upd_same, paired_mono (R := rPr rStr (rLf V.str)) (same_new gRL5) pr5⟩ (st5.mono (same_new gRL5) ?_)⟩
        rw [upd_ne (Ne.symm aRL)]
        exact st5.1
end
end Mk

-- W9
set_option Elab.async false
set_option linter.all false
set_option maxRecDepth 100000
set_option maxHeartbeats 4000000
set_option exponentiation.threshold 20000
namespace Mk
open PySem PySem.Spec PyProof.Rows L2
open C8 (InsC call_isC)
section
variable {P : Program} {w : World} {K : PySem.W.Frag} {mg : Str → Option Value} {base : Heap}
def spStart (K : PySem.W.Frag) : Sp := fun vs H Q _ => ∃ (G : Hp) (b : Addr) (ns : List Int), vs = [.ref b] ∧ Same G H ∧ SqL K H b (ns.map V.int) ∧ ns.length ≤ 1000 ∧ ∀ a G' H', Nw nM G H G' H' → StAt G' H' a → Q (.ref a) H'
theorem sc__law_start : FnScope ["_law_script"] ["_law_script"] (defScope s__law_start) := ⟨rfl, rfl, rfl, by decide +kernel, rfl, by decide +kernel, by decide +kernel⟩
theorem ok__law_start (T : Tx K mg) : Ok P w K mg base 1 (He.ga K "_law_start") ["_law_script"] (spStart K) := by
  refine ok_mk (f__law_start T) (df_kp (f__law_start T)) sc__law_start (fun _ _ _ _ _ _ us hl => match us, hl with | [_], _ => rfl) (fun vs H Q E h => ?_) (fun cdv A outer s H vs Q E hr h => ?_)
  · obtain ⟨G, b, ns, rfl, _⟩ := h
    rfl
  · obtain ⟨G, b, ns, rfl, sm, hb, len, k⟩ := h
    refine ⟨_, (pss_one (ps_ret (pe_lst (pa_cons (pe_callTy call_list_of (by rfl) (b_list T) (by decide +kernel) (pa_cons (pv 0) pa_nil)) (pa_cons pe_int (pa_cons pe_int (pa_cons pe_int (pa_cons pe_int pa_nil)))))))), ?_⟩
    refine ⟨_, rfl, b, _, rfl, .inl hb, fun l hl => ⟨len_ok (show 5 ≤ 100000 by decide), fun a ha => ?_⟩⟩
    have n1 := ((Nw.refl (M := nM) sm).alloc (o := .lst (ns.map V.int)) hl).allocH (o := .lst [.ref l, .int 0, .int 0, .int 0, .int 7]) ha
    have la : l ≠ a := ne_of_none (upd_same (H := H) (o := .lst (ns.map V.int))) ha
    have ha0 : H a = none := by
      rw [upd_ne (Ne.symm la)] at ha
      exact ha
    refine k a _ _ n1 ⟨?_, l, ns, 0, 0, 0, 7, upd_same, upd_same, len, by decide, by decide, by decide, by decide⟩
    rw [upd_ne (Ne.symm la)]
    exact sm.free ha0
def spBody (K : PySem.W.Frag) : Sp := fun vs H Q _ => ∃ (b : Addr) (ns : List Int), vs = [.ref b] ∧ SqL K H b (ns.map V.int) ∧ ns.length ≤ 1000 ∧ ∀ H', Q (.bl true) H'
theorem sc__law_body : FnScope ["_law_script", "_law_state", "_law_source_here", "_law_words_here", "_law_pool_here", "_law_rows_here", "_law_others", "_law_over", "_law_under_here", "_law_changed", "_law_unlike", "_law_marking", "_law_counts_here", "_law_due"] ["_law_script"] (defScope s__law_body) := ⟨rfl, rfl, rfl, by decide +kernel, rfl, by decide +kernel, by decide +kernel⟩
theorem ok__law_body (T : Tx K mg) : Ok P w K mg base 11 (He.ga K "_law_body") ["_law_script"] (spBody K) := by
  refine ok_mk (f__law_body T) (df_kp (f__law_body T)) sc__law_body (fun _ _ _ _ _ _ us hl => match us, hl with | [_], _ => rfl) (fun vs H Q E h => ?_) (fun cdv A outer s H vs Q E hr h => ?_)
  · obtain ⟨b, ns, rfl, _⟩ := h
    rfl
  · obtain ⟨b, ns, rfl, hb, len, k⟩ := h
    refine ⟨_, (pss_cons (ps_set (i := 1) sc__law_body.nd rfl (Or.inl rfl) (pe_c (ok__law_start T) (hr.mono (by decide)) rfl (g__law_start T) (pa_cons (pv 0) pa_nil)))
      (pss_cons (ps_asg (pe_c (ok__law_source T) (hr.mono (by decide)) rfl (g__law_source T) (pa_cons (pv 1) (pa_cons pe_int pa_nil))) (pg_unl rfl (pgs_cons (pg_name (i := 2) sc__law_body.nd rfl (Or.inl rfl)) (pgs_cons (pg_name (i := 3) sc__law_body.nd rfl (Or.inl rfl)) pgs_nil))))
      (pss_cons (ps_set (i := 4) sc__law_body.nd rfl (Or.inl rfl) (pe_c (ok__law_pool T) (hr.mono (by decide)) rfl (g__law_pool T) (pa_cons (pv 1) (pa_cons (pv 3) (pa_cons pe_int pa_nil)))))
      (pss_cons (ps_set (i := 5) sc__law_body.nd rfl (Or.inl rfl) (pe_c (ok__law_rows T) (hr.mono (by decide)) rfl (g__law_rows T) (pa_cons (pv 1) (pa_cons (pv 3) (pa_cons (pv 4) pa_nil)))))
      (pss_cons (ps_set (i := 6) sc__law_body.nd rfl (Or.inl rfl) (pe_c (ok__law_rows T) (hr.mono (by decide)) rfl (g__law_rows T) (pa_cons (pv 1) (pa_cons (pv 3) (pa_cons (pv 4) pa_nil)))))
      (pss_cons (ps_asg (pe_c (ok__law_level T) (hr.mono (by decide)) rfl (g__law_level T) (pa_cons (pv 1) (pa_cons (pv 3) pa_nil))) (pg_unl rfl (pgs_cons (pg_name (i := 7) sc__law_body.nd rfl (Or.inl rfl)) (pgs_cons (pg_name (i := 8) sc__law_body.nd rfl (Or.inl rfl)) pgs_nil))))
      (pss_cons (ps_set (i := 9) sc__law_body.nd rfl (Or.inl rfl) (pe_k (k_Changes T) (ok_Changes_init T) (hr.mono (by decide)) rfl (g_Changes T) (pa_cons (pv 5) pa_nil)))
      (pss_cons (ps_set (i := 10) sc__law_body.nd rfl (Or.inl rfl) (pe_k (k_Changes T) (ok_Changes_init T) (hr.mono (by decide)) rfl (g_Changes T) (pa_cons (pe_callTy call_tuple_of (by rfl) (b_tuple T) (by decide +kernel) (pa_cons (pv 6) pa_nil)) pa_nil)))
      (pss_cons (ps_if (pt_not (pt_val (pe_c (ok__law_met T) (hr.mono (by decide)) rfl (g__law_met T) (pa_cons (pv 2) (pa_cons (pv 9) (pa_cons (pv 3) (pa_cons (pv 5) (pa_cons (pv 7) (pa_cons (pv 8) pa_nil)))))))))
        (pss_one (ps_ret pe_bl))
        pss_nil)
      (pss_cons (ps_set (i := 11) sc__law_body.nd rfl (Or.inl rfl) (pe_c (ok_best_marking T) (hr.mono (by decide)) rfl (g_best_marking T) (pa_cons (pv 2) (pa_cons (pv 10) (pa_cons (pe_k (k_Share T) (ok_Share_init T) (hr.mono (by decide)) rfl (g_Share T) (pa_cons (pv 7) (pa_cons (pv 8) pa_nil))) pa_nil)))))
      (pss_cons (ps_if (pt_not (pt_val (pe_callB (call_isC (in_Marking T)) (by rfl) (b_isinstance T) (by decide +kernel) (pa_cons (pv 11) (pa_cons (pe_glob (v := .ref (He.ga K "Marking")) rfl (g_Marking T) rfl) pa_nil)))))
        (pss_one (ps_ret pe_bl))
        pss_nil)
      (pss_cons (ps_set (i := 12) sc__law_body.nd rfl (Or.inl rfl) (pe_c (ok__law_counts T) (hr.mono (by decide)) rfl (g__law_counts T) (pa_cons (pv 11) (pa_cons (pv 3) (pa_cons (pv 6) (pa_cons (pv 7) (pa_cons (pv 8) pa_nil)))))))
      (pss_cons (ps_set (i := 13) sc__law_body.nd rfl (Or.inl rfl) (pe_c (ok__law_worth T) (hr.mono (by decide)) rfl (g__law_worth T) (pa_cons (pv 2) (pa_cons (pv 10) (pa_cons (pe_lst (pa_cons (pv 7) (pa_cons (pv 8) pa_nil))) (pa_cons (pv 3) (pa_cons (pv 6) pa_nil)))))))
      (pss_one (ps_ret (pe_and (pe_cmpR op_notN (pv 12) pe_non (nomark _)) (pe_and (pe_cmpR op_notN (pv 13) pe_non (nomark _)) (pe_one (pe_cmpR op_eq (pe_op op_mulX (pe_ix ix_list (pv 12) pe_int (fun _ _ => rfl)) (pe_ix ix_list (pv 13) pe_int (fun _ _ => rfl))) (pe_op op_mulX (pe_ix ix_list (pv 13) pe_int (fun _ _ => rfl)) (pe_ix ix_list (pv 12) pe_int (fun _ _ => rfl))) (nomark _)))))))))))))))))))), ?_⟩
    have sm : Same (fun _ => none) H := fun _ _ h => nomatch h
    refine ⟨_, rfl, fun _ => none, b, ns, rfl, sm, hb, len, fun a G1 H1 n1 st1 => ?_⟩
    refine ⟨_, rfl, G1, a, rfl, n1.gh, st1, fun ws W l8 v G2 H2 n2 r2 st2 => ?_⟩
    obtain ⟨p, sv, wv, rfl, hp, rs, rwd⟩ := r2
    refine ⟨p, _, rfl, SqL.of (n2.gh _ _ hp), rfl, _, _, rfl, _, _, rfl, rfl, ?_⟩
    refine ⟨_, rfl, _, rfl, G2, a, wv, ws, rfl, n2.gh, st2, rwd, W, l8, fun more ndp ml v3 G3 H3 n3 r3 st3 => ?_⟩
    refine ⟨_, rfl, _, rfl, _, rfl, G3, a, wv, v3, ws, more, rfl, n3.gh, st3, Mono.mono (R := rWds) n3.gg rwd, W, l8, r3, ndp, ml, fun rows I al v4 G4 H4 n4 r4 st4 => ?_⟩
    have m34 := n3.gg.trans n4.gg
    refine ⟨_, rfl, _, rfl, _, rfl, G4, a, wv, v3, ws, more, rfl, n4.gh, st4, Mono.mono (R := rWds) m34 rwd, W, l8, Mono.mono n4.gg r3, ndp, ml, fun rows2 I2 al2 v5 G5 H5 n5 r5 st5 => ?_⟩
    have m35 := m34.trans n5.gg
    refine ⟨_, rfl, _, rfl, G5, a, wv, ws, rfl, n5.gh, st5, Mono.mono (R := rWds) m35 rwd, W, fun o u ho hu bo bu v6 G6 H6 n6 r6 st6 => ?_⟩
    obtain ⟨p6, rfl, hp6⟩ := r6
    refine ⟨p6, _, rfl, SqL.of (n6.gh _ _ hp6), rfl, _, _, rfl, _, _, rfl, rfl, ?_⟩
    have m36 := m35.trans n6.gg
    have s6 := Mono.mono (R := rSrc K) m36 rs
    have w6 := Mono.mono (R := rWds) m36 rwd
    have q4 : rRows G6 v4 rows := Mono.mono (R := rRows) (n5.gg.trans n6.gg) r4
    have q5 : rRows G6 v5 rows2 := Mono.mono (R := rRows) n6.gg r5
    have ub : u.natAbs < 2 ^ 9000 := Nat.lt_trans bu (Nat.pow_lt_pow_right (by decide) (by decide))
    have lb : Bq 140 ((o : Rat) / (u : Rat)) := bq_of hu bo bu
    have lp : 0 < (o : Rat) / (u : Rat) := by
      have h1 := int_pos_rat ho
      have h2 := int_pos_rat hu
      rw [Rat.div_def]
      exact Rat.mul_pos h1 (Rat.inv_pos.mpr h2)
    obtain ⟨p4, vs4, e4, hp4, pr4⟩ := id q4
    obtain ⟨p5, vs5, e5, hp5, pr5⟩ := id q5
    have sm6 := n6.gh
    clear n6 n5 n4 n3 n2 n1 st1 st2 st3 st4 st5 st6 r3 r4 r5 m34 m35 m36 rs rwd hp hp6
    refine ⟨_, rfl, ?_⟩
    intro x dx hx hd ne
    have nr := Nw.refl (M := nM) sm6
    refine ⟨x, dx, G6, .lst p4, vs4, rows, by rw [e4]; rfl, (nr.obj hx hd ne).gh, upd_same, sm6.free hx, .inl hp4, pr4, I.R, ini_done (M := nM) nr hx hd ne fun G7 H7 n7 r7 => ⟨rfl, ?_⟩⟩
    refine ⟨_, rfl, p5, vs5, e5 ▸ rfl, .inl ⟨SqL.of (n7.gh _ _ (n7.gg _ _ hp5)), fun l hl => ?_⟩⟩
    have n8 := (Nw.refl (M := nM) n7.gh).alloc (o := .tup vs5) hl
    have hl8 : upd G7 l (.tup vs5) l = some (.tup vs5) := upd_same
    generalize upd G7 l (.tup vs5) = G8 at n8 hl8
    generalize upd H7 l (.tup vs5) = H8 at n8
    have m68 := n7.gg.trans n8.gg
    intro y dy hy hdy ney
    have nr8 := Nw.refl (M := nM) n8.gh
    refine ⟨y, dy, G8, .tup l, vs5, rows2, rfl, (nr8.obj hy hdy ney).gh, upd_same, n8.gh.free hy, .inl hl8, paired_mono (R := rPr rStr (rLf V.str)) m68 pr5, I2.R, ini_done (M := nM) nr8 hy hdy ney fun G9 H9 n9 r9 => ⟨rfl, ?_⟩⟩
    have m69 := m68.trans n9.gg
    refine ⟨_, rfl, _, rfl, _, rfl, _, rfl, _, rfl, _, rfl, G9, sv, _, wv, v4, ws, rows, o, u, rfl, n9.gh, Mono.mono (R := rSrc K) m69 s6, Mono.mono (R := rCh K) (n8.gg.trans n9.gg) r7, Mono.mono (R := rWds) m69 w6, Mono.mono (R := rRows) m69 q4, I, al, ho, hu, bo, bu, fun G10 H10 n10 => ⟨_, rfl, itF (by simp) ?_⟩⟩
    have m610 := m69.trans n10.gg
    refine ⟨_, rfl, _, rfl, _, rfl, _, rfl, ?_⟩
    intro x1 dx1 hx1 hd1 ne1
    refine sh_new1 (M := nM) hx1 hd1 ne1 hu ub (Nw.refl n10.gh) fun G11 H11 n11 r11 => ⟨rfl, ?_⟩
    have m611 := m610.trans n11.gg
    have p11 : PreI K G11 H11 sv (.ref y) (.ref x1) ws rows2 ((o : Rat) / (u : Rat)) := ⟨n11.gh, Mono.mono (R := rSrc K) m611 s6, Mono.mono (R := rCh K) (n10.gg.trans n11.gg) r9, r11, I2, lb, lp⟩
    refine ⟨G11, sv, _, _, ws, rows2, _, rfl, p11, fun xf Vl es c pri val mk v12 G12 H12 n12 r12 => ?_⟩
    have F := mk_facts I2 hu pri mk
    have p12 := p11.mono n12
    have m612 := m611.trans n12.gg
    obtain ⟨am, dxm, pe, evs, rfl, ham, hpe, pre⟩ := id r12
    refine ⟨_, rfl, am, dxm, _, rfl, n12.gh _ _ ham, _, rfl, itF (by simp) ?_⟩
    refine ⟨_, rfl, _, rfl, _, rfl, _, rfl, _, rfl, G12, _, _, _, ws, rows2, es, o, u, rfl, n12.gh, r12, Mono.mono (R := rWds) m612 w6, Mono.mono (R := rRows) m612 q5, W, I2.R, F.M, I2.n8, F.l1, F.l2, F.inn, I2.has, bo, bu, F.wr, F.ac, fun v13 G13 H13 n13 r13 => ?_⟩
    have p13 := p12.mono n13
    have m613 := m612.trans n13.gg
    refine ⟨_, rfl, _, rfl, _, rfl, _, rfl, len_ok (show 2 ≤ 100000 by decide), fun pl hpl => ?_⟩
    have n14 := (Nw.refl (M := nM) n13.gh).allocH (o := .lst [.int o, .int u]) hpl
    have hpl14 : upd H13 pl (.lst [.int o, .int u]) pl = some (.lst [.int o, .int u]) := upd_same
    refine ⟨_, rfl, _, rfl, ?_⟩
    generalize upd H13 pl (.lst [.int o, .int u]) = H14 at n14 hpl14
    refine ⟨G13, sv, _, _, _, pl, ws, rows2, o, u, rfl, n14.gh, hpl14, p13.s, p13.c, Mono.mono (R := rWds) m613 w6, Mono.mono (R := rRows) m613 q5, I2, al2, ho, hu, bo, bu, fun Vl' S C val' fr v15 G15 H15 n15 r15 => ?_⟩
    obtain rfl := Val.uniq W val val'
    obtain ⟨c13, rfl, hc13⟩ := id r13
    obtain ⟨c15, rfl, hc15⟩ := id r15
    have n145 := n14.trans n15
    have c13H := n145.gh _ _ (n145.gg _ _ hc13)
    have c15H := n145.gh _ _ hc15
    have fc := F.frc
    have e0 := frc_eq fc fr
    refine ⟨_, rfl, rfl, _, rfl, itT (by simp) ?_⟩
    refine ⟨_, rfl, rfl, _, rfl, itT (by simp) ?_⟩
    refine ⟨_, rfl, c13, _, _, .int (fndOf rows2 es), rfl, rfl, SqL.of c13H, rfl, _, rfl, c15, _, _, .int C, rfl, rfl, SqL.of c15H, rfl, _, _, rfl, rfl, frc_x fc fr, ?_⟩
    refine ⟨_, rfl, c15, _, _, .int S, rfl, rfl, SqL.of c15H, rfl, _, rfl, c13, _, _, .int (wholeOf es), rfl, rfl, SqL.of c13H, rfl, _, _, rfl, rfl, frc_x fr fc, ?_⟩
    have kk := k H15
    have e1 : decide (V.int (fndOf rows2 es * C) = V.int (S * wholeOf es)) = true := by rw [e0]; simp
    rw [← e1] at kk
    exact ⟨rfl, kk⟩
end
end Mk

-- W10
set_option Elab.async false
set_option linter.all false
set_option maxRecDepth 100000
set_option maxHeartbeats 4000000
set_option exponentiation.threshold 20000
namespace Mk
open PySem PySem.Spec PyProof.Rows L2
open C8 (InsC call_isC)
section
variable {P : Program} {w : World} {K : PySem.W.Frag} {mg : Str → Option Value} {base : Heap}
theorem sc_law : FnScope ["_law_script"] ["_law_script"] (defScope s_law) := ⟨rfl, rfl, rfl, by decide +kernel, rfl, by decide +kernel, by decide +kernel⟩
theorem fn_law (T : Tx K mg) {f : Addr} {fd : FuncData} (F : FunD K d_law.name d_law.qual d_law.params d_law.body d_law.scope [] [] f fd) : FnOk P w K mg base CX0 12 f fd ["_law_script"] (spBody K) := by
  refine F.ok sc_law (fun vs H Q E h => ?_) (fun cdv A outer s H vs Q E hr h => ?_)
  · obtain ⟨b, ns, rfl, _⟩ := h
    rfl
  · obtain ⟨b, ns, rfl, hb, len, k⟩ := h
    have hd : PSs (cxOf CX0 P w K mg base ["_law_script"] d_law.qual d_law.scope f cdv A outer s H E).nox d_law.body _ :=
      pss_one (ps_try_thru0 (pss_one (ps_ret (pe_c (ok__law_body T) (hr.mono (by decide)) rfl (g__law_body T) (pa_cons (pv 0) pa_nil)))))
    exact ⟨_, hd.nox, _, rfl, b, ns, rfl, hb, len, k⟩
theorem law_facts {h : Heap} {f : Addr} (X : K.In h) (G : h.Ns mainGlobals mg) (hfa : mg ("law" : Str) = some (.ref f)) (c : SaysX K) :
    ∃ fd : FuncData, (∀ (s : Shared) (v : Value), BindsTo s fd ⟨[v], []⟩ [("_law_script", v)]) ∧ ∀ base : Heap, K.In base → base.Ns mainGlobals mg → FnOk P w K mg base CX0 12 f fd ["_law_script"] (spBody K) := by
  have T : Tx K mg := ⟨c, h, X, G⟩
  obtain ⟨fd, F⟩ := (f_law T).ex
  have e := hfa.symm.trans (g_law T)
  cases e
  have b := FunD.bindsA (ps := ["_law_script"]) F fun _ _ _ _ _ _ us hl => match us, hl with | [_], _ => rfl
  exact ⟨fd, fun s v => b s [v] rfl, fun base _ _ => fn_law T F⟩
end
end Mk
open PySem PySem.W PySem.Calls PyProof.Rows
theorem PySem.Challenge.cw_marktruly_k26_whole_best_marking_holds : PySem.Challenge.rw_marktruly_k26_whole_best_marking.Holds := by
  w_on; o_law
  refine HandSHeadRun.head_any (r := OpenLaw.row PySem.Challenge.rw_marktruly_k26_whole_best_marking) (q := view (OpenLaw.row PySem.Challenge.rw_marktruly_k26_whole_best_marking).prog [75]) (H := Mk.hk) (ob := Mk.ob) (M := 6000) (loose := Mk.names) (d := HandSHeadRun.topDef (OpenLaw.row PySem.Challenge.rw_marktruly_k26_whole_best_marking).prog 75) (kwd := []) Mk.ob_eq
    (by kernel_rfl) (fun s => by kernel_rfl) Mk.run (by kernel_rfl) (by kernel_rfl) (by kernel_rfl) (by rfl) (by first | assumption | decide +kernel) (by decide +kernel) ⟨rfl, rfl, rfl, rfl, rfl, by decide +kernel⟩ ?hw ?hc
  case hw => w_witness2
  case hc =>
    refine L2.walk_ofE (l := PySem.Challenge.rw_marktruly_k26_whole_best_marking) (n := 63) (k := 12) (x := "_law_script") (CX := L2.CX0) rfl (by decide) (by kernel_rfl) ⟨rfl, by decide, by decide⟩ ?F (fun _ _ _ _ z => z)
    intro w mg fa h Y G hmg0
    obtain ⟨K, KX, c⟩ := Y
    have hmg : mg ("law" : PySem.Str) = some (.ref fa) := by
      have e : (HandSHeadRun.topDef (OpenLaw.row PySem.Challenge.rw_marktruly_k26_whole_best_marking).prog 75).name = ("law" : PySem.Str) := by kernel_rfl
      rw [← e]
      exact hmg0
    obtain ⟨fd, hb, hF⟩ := Mk.law_facts (P := (PySem.Challenge.rw_marktruly_k26_whole_best_marking).prog) (w := w) KX G hmg c
    exact ⟨K, fd, Mk.spBody K, KX, hb, fun H a ns hl _ hS => ⟨a, ns, rfl, hS, Nat.le_trans hl (by decide), fun _ => rfl⟩, hF⟩
