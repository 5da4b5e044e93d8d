import PyProof.Rows.All
import Wide.All
import OpenK.AllK
import Wide.FinOn
import HandS.ForMost
import HandS.Walk
import HandS.Wide
import HandS.Gcd
import HandS.Conv
import HandS.TupAny
import HandS.IsInst
import HandS.SortRule
import HandS.Star
import HandS.Style
import HandS.AnyAll
import HandS.EndTab
import PySem.Challenge.RW_pinchworks_k34_whole_water_of_one_sink
import KE.GoesEnum
set_option Elab.async false
set_option linter.all false
set_option maxRecDepth 100000
namespace PW
/-- a sum of n terms -/
def sm : Nat → (Nat → Rat) → Rat
  | 0, _ => 0
  | n + 1, f => sm n f + f n
theorem sm_congr {f g : Nat → Rat} : ∀ {n : Nat}, (∀ i, i < n → f i = g i) → sm n f = sm n g
  | 0, _ => rfl
  | n + 1, h => by
    show sm n f + f n = sm n g + g n
    rw [sm_congr (n := n) fun i hi => h i (by omega), h n (by omega)]
theorem sm_add (f g : Nat → Rat) : ∀ n : Nat, sm n (fun i => f i + g i) = sm n f + sm n g
  | 0 => by show (0 : Rat) = 0 + 0; grind
  | n + 1 => by
    show sm n (fun i => f i + g i) + (f n + g n) = (sm n f + f n) + (sm n g + g n)
    rw [sm_add f g n]; grind
theorem sm_sub (f g : Nat → Rat) : ∀ n : Nat, sm n (fun i => f i - g i) = sm n f - sm n g
  | 0 => by show (0 : Rat) = 0 - 0; grind
  | n + 1 => by
    show sm n (fun i => f i - g i) + (f n - g n) = (sm n f + f n) - (sm n g + g n)
    rw [sm_sub f g n]; grind
theorem sm_mul (c : Rat) (f : Nat → Rat) : ∀ n : Nat, sm n (fun i => c * f i) = c * sm n f
  | 0 => by show (0 : Rat) = c * 0; grind
  | n + 1 => by
    show sm n (fun i => c * f i) + c * f n = c * (sm n f + f n)
    rw [sm_mul c f n]; grind
theorem sm_mulr (c : Rat) (f : Nat → Rat) (n : Nat) : sm n (fun i => f i * c) = sm n f * c := by
  rw [sm_congr (g := fun i => c * f i) fun i _ => Rat.mul_comm _ _, sm_mul, Rat.mul_comm]
theorem sm_zero {f : Nat → Rat} : ∀ {n : Nat}, (∀ i, i < n → f i = 0) → sm n f = 0
  | 0, _ => rfl
  | n + 1, h => by
    show sm n f + f n = 0
    rw [sm_zero (n := n) fun i hi => h i (by omega), h n (by omega)]; grind
theorem sm_single {f : Nat → Rat} {k : Nat} : ∀ {n : Nat}, k < n → (∀ i, i < n → i ≠ k → f i = 0) → sm n f = f k
  | 0, h, _ => by omega
  | n + 1, h, h0 => by
    show sm n f + f n = f k
    by_cases e : k = n
    · subst e
      rw [sm_zero (n := k) fun i hi => h0 i (by omega) (by omega)]; grind
    · rw [sm_single (n := n) (k := k) (by omega) fun i hi hk => h0 i (by omega) hk, h0 n (by omega) (fun z => e z.symm)]; grind
theorem sm_swap (f : Nat → Nat → Rat) (m : Nat) : ∀ n : Nat, sm n (fun i => sm m (fun j => f i j)) = sm m (fun j => sm n (fun i => f i j))
  | 0 => by
    show (0 : Rat) = _
    rw [sm_zero (n := m)]
    intro i _; rfl
  | n + 1 => by
    show sm n (fun i => sm m (fun j => f i j)) + sm m (fun j => f n j) = sm m (fun j => sm n (fun i => f i j) + f n j)
    rw [sm_add, sm_swap f m n]
theorem sm_nonneg {f : Nat → Rat} : ∀ {n : Nat}, (∀ i, i < n → 0 ≤ f i) → 0 ≤ sm n f
  | 0, _ => by show (0 : Rat) ≤ 0; grind
  | n + 1, h => by
    show 0 ≤ sm n f + f n
    have h1 := sm_nonneg (n := n) fun i hi => h i (by omega)
    have h2 := h n (by omega)
    grind
theorem sm_le {f g : Nat → Rat} : ∀ {n : Nat}, (∀ i, i < n → f i ≤ g i) → sm n f ≤ sm n g
  | 0, _ => by show (0 : Rat) ≤ 0; grind
  | n + 1, h => by
    show sm n f + f n ≤ sm n g + g n
    have h1 := sm_le (n := n) fun i hi => h i (by omega)
    have h2 := h n (by omega)
    grind
theorem sm_neg {f : Nat → Rat} : ∀ {n : Nat}, sm n f < 0 → ∃ i, i < n ∧ f i < 0
  | 0, h => by
    have : (0 : Rat) < 0 := h
    grind
  | n + 1, h => by
    have h : sm n f + f n < 0 := h
    by_cases e : f n < 0
    · exact ⟨n, by omega, e⟩
    · have h1 : sm n f < 0 := by grind
      obtain ⟨i, hi, q⟩ := sm_neg h1
      exact ⟨i, by omega, q⟩
theorem sm_term {f : Nat → Rat} {k : Nat} : ∀ {n : Nat}, (∀ i, i < n → 0 ≤ f i) → k < n → f k ≤ sm n f
  | 0, _, h => by omega
  | n + 1, h, hk => by
    show f k ≤ sm n f + f n
    have h1 := sm_nonneg (n := n) fun i hi => h i (by omega)
    have h2 := h n (by omega)
    by_cases e : k = n
    · subst e; grind
    · have := sm_term (n := n) (fun i hi => h i (by omega)) (show k < n by omega)
      grind
theorem sm_split (f : Nat → Rat) (a : Nat) : ∀ b : Nat, sm (a + b) f = sm a f + sm b (fun i => f (a + i))
  | 0 => by show sm a f = sm a f + 0; grind
  | b + 1 => by
    show sm (a + b) f + f (a + b) = sm a f + (sm b (fun i => f (a + i)) + f (a + b))
    rw [sm_split f a b]; grind
/-! ### tableaus -/
structure Tb where
  T : Nat → Nat → Rat
  B : Nat → Nat
/-- s is a tableau of the equations A (m rows, n columns, then m helping ones, then the right side) with a basis that is feasible -/
structure Good (m n : Nat) (A : Nat → Nat → Rat) (s : Tb) : Prop where
  rsp : ∀ i, i < m → ∀ c, c ≤ n + m → s.T i c = sm m (fun l => s.T i (n + l) * A l c)
  bas : ∀ i, i < m → ∀ j, j < m → s.T i (s.B j) = if i = j then 1 else 0
  blt : ∀ j, j < m → s.B j < n + m
  col : ∀ l, l < m → ∀ c, c ≤ n + m → A l c = sm m (fun j => A l (s.B j) * s.T j c)
  pos : ∀ i, i < m → 0 ≤ s.T i (n + m)
def piv (s : Tb) (j k : Nat) : Tb where
  T := fun i c => if i = j then s.T j c / s.T j k else s.T i c - s.T i k * (s.T j c / s.T j k)
  B := fun i => if i = j then k else s.B i
theorem piv_T (s : Tb) (j k i c : Nat) : (piv s j k).T i c = if i = j then s.T j c / s.T j k else s.T i c - s.T i k * (s.T j c / s.T j k) := rfl
theorem piv_B (s : Tb) (j k i : Nat) : (piv s j k).B i = if i = j then k else s.B i := rfl
section
variable {m n : Nat} {A : Nat → Nat → Rat} {s : Tb}
theorem Good.binj (g : Good m n A s) {i j : Nat} (hi : i < m) (hj : j < m) (e : s.B i = s.B j) : i = j := by
  have h1 := g.bas i hi j hj
  rw [← e, g.bas i hi i hi, if_pos rfl] at h1
  by_cases h : i = j
  · exact h
  · rw [if_neg h] at h1
    grind
theorem Good.piv (g : Good m n A s) {j k : Nat} (hj : j < m) (hk : k < n + m) (hp : s.T j k ≠ 0) (hpos : ∀ i, i < m → 0 ≤ (piv s j k).T i (n + m)) : Good m n A (piv s j k) := by
  refine ⟨fun i hi c hc => ?_, fun i hi l hl => ?_, fun i hi => ?_, fun l hl c hc => ?_, hpos⟩
  · by_cases e : i = j
    · subst e
      have h1 : sm m (fun l => (PW.piv s i k).T i (n + l) * A l c) = sm m (fun l => (s.T i (n + l) * A l c) * (s.T i k)⁻¹) := sm_congr fun l _ => by
        rw [piv_T, if_pos rfl]; grind
      rw [h1, piv_T, if_pos rfl, g.rsp i hi c hc, sm_mulr]; grind
    · rw [piv_T, if_neg e, sm_congr (g := fun l => s.T i (n + l) * A l c - (s.T i k / s.T j k) * (s.T j (n + l) * A l c))]
      · rw [sm_sub, sm_mul, ← g.rsp i hi c hc, ← g.rsp j hj c hc]; grind
      · intro l _
        rw [piv_T, if_neg e]; grind
  · rw [piv_B, piv_T]
    by_cases e : l = j
    · rw [if_pos e]
      by_cases e2 : i = j
      · rw [if_pos e2, if_pos (by omega)]; grind
      · rw [if_neg e2, if_neg (by omega)]; grind
    · rw [if_neg e]
      have h1 := g.bas j hj l hl
      rw [if_neg (by omega)] at h1
      rw [h1]
      by_cases e2 : i = j
      · rw [if_pos e2, if_neg (by omega)]; grind
      · rw [if_neg e2, g.bas i hi l hl]; grind
  · rw [piv_B]
    split
    · exact hk
    · exact g.blt i hi
  · have h1 := g.col l hl c hc
    have h2 := g.col l hl k (by omega)
    rw [sm_congr (g := fun i => (A l (s.B i) * s.T i c - (s.T j c / s.T j k) * (A l (s.B i) * s.T i k)) + (if i = j then A l k * (s.T j c / s.T j k) else 0))]
    · rw [sm_add, sm_sub, sm_mul, ← h1, ← h2, sm_single (k := j) hj (fun i hi e => if_neg e), if_pos rfl]; grind
    · intro i hi
      rw [piv_B, piv_T]
      by_cases e : i = j
      · subst e
        rw [if_pos rfl, if_pos rfl, if_pos rfl]; grind
      · rw [if_neg e, if_neg e, if_neg e]; grind
/-- the ratio test keeps the right side from 0 on -/
theorem piv_pos (g : Good m n A s) {j k : Nat} (hj : j < m) (hp : 0 < s.T j k) (hr : ∀ i, i < m → 0 < s.T i k → s.T j (n + m) / s.T j k ≤ s.T i (n + m) / s.T i k) : ∀ i, i < m → 0 ≤ (piv s j k).T i (n + m) := by
  intro i hi
  rw [piv_T]
  have h0 := g.pos j hj
  have hq : 0 ≤ s.T j (n + m) / s.T j k := by
    rw [Rat.div_def]
    exact Rat.mul_nonneg h0 (Rat.le_of_lt (Rat.inv_pos.mpr hp))
  split
  · exact hq
  · have h1 := g.pos i hi
    by_cases e : 0 < s.T i k
    · have h2 := hr i hi e
      have h3 : s.T i k * (s.T j (n + m) / s.T j k) ≤ s.T i k * (s.T i (n + m) / s.T i k) := Rat.mul_le_mul_of_nonneg_left h2 (Rat.le_of_lt e)
      have h4 : s.T i k * (s.T i (n + m) / s.T i k) = s.T i (n + m) := by grind
      grind
    · have h3 : 0 ≤ (-(s.T i k)) * (s.T j (n + m) / s.T j k) := Rat.mul_nonneg (by grind) hq
      grind
end
end PW
namespace PW
section
variable {m n : Nat} {A : Nat → Nat → Rat} {s s2 : Tb} {c : Nat → Rat}
/-- the multiplier of a column -/
def lin (m : Nat) (c : Nat → Rat) (s : Tb) (k : Nat) : Rat := sm m (fun j => c (s.B j) * s.T j k)
theorem lin_piv {j k : Nat} (hj : j < m) (hp : s.T j k ≠ 0) (d : Nat) : lin m c (piv s j k) d = lin m c s d + (c k - lin m c s k) * (s.T j d / s.T j k) := by
  unfold lin
  have h1 : sm m (fun i => c ((piv s j k).B i) * (piv s j k).T i d) = sm m (fun i => (c (s.B i) * s.T i d - (s.T j d / s.T j k) * (c (s.B i) * s.T i k)) + (if i = j then c k * (s.T j d / s.T j k) else 0)) := sm_congr fun i hi => by
    rw [piv_B, piv_T]
    by_cases e : i = j
    · subst e
      rw [if_pos rfl, if_pos rfl, if_pos rfl]; grind
    · rw [if_neg e, if_neg e, if_neg e]; grind
  rw [h1, sm_add, sm_sub, sm_mul, sm_single (k := j) hj (fun i hi e => if_neg e), if_pos rfl]
  grind
theorem lin_basic (g : Good m n A s) {j : Nat} (hj : j < m) : lin m c s (s.B j) = c (s.B j) := by
  unfold lin
  rw [sm_single (k := j) hj fun i hi e => by rw [g.bas i hi j hj, if_neg e]; grind]
  rw [g.bas j hj j hj, if_pos rfl]; grind
theorem lin_row (g : Good m n A s) {k : Nat} (hk : k ≤ n + m) : lin m c s k = sm m (fun l => lin m c s (n + l) * A l k) := by
  unfold lin
  have h1 : sm m (fun j => c (s.B j) * s.T j k) = sm m (fun j => sm m (fun l => (c (s.B j) * s.T j (n + l)) * A l k)) := sm_congr fun j hj => by
    rw [g.rsp j hj k hk, ← sm_mul]
    exact sm_congr fun l _ => by grind
  rw [h1, sm_swap]
  exact sm_congr fun l _ => sm_mulr _ _ _
/-- two tableaus of the same equations: their multipliers at a column -/
theorem lin_two (g : Good m n A s) (g2 : Good m n A s2) {e : Nat} (he : e ≤ n + m) : lin m c s e - lin m c s2 e = sm m (fun j => (c (s.B j) - lin m c s2 (s.B j)) * s.T j e) := by
  have h1 : ∀ k, k ≤ n + m → lin m c s k - lin m c s2 k = sm m (fun l => (lin m c s (n + l) - lin m c s2 (n + l)) * A l k) := fun k hk => by
    rw [lin_row g hk, lin_row g2 hk, ← sm_sub]
    exact sm_congr fun l _ => by grind
  rw [h1 e he]
  have h2 : sm m (fun l => (lin m c s (n + l) - lin m c s2 (n + l)) * A l e) = sm m (fun l => sm m (fun j => ((lin m c s (n + l) - lin m c s2 (n + l)) * A l (s.B j)) * s.T j e)) := sm_congr fun l hl => by
    rw [g.col l hl e he, ← sm_mul]
    exact sm_congr fun j _ => by grind
  rw [h2, sm_swap]
  refine sm_congr fun j hj => ?_
  rw [sm_mulr, ← h1 _ (Nat.le_of_lt (g.blt j hj)), lin_basic g hj]
/-- amounts that solve the equations -/
structure Sol (m n : Nat) (A : Nat → Nat → Rat) (x : Nat → Rat) : Prop where
  pos : ∀ k, k < n → 0 ≤ x k
  eqs : ∀ l, l < m → sm n (fun k => A l k * x k) = A l (n + m)
theorem sol_row (g : Good m n A s) {x : Nat → Rat} (h : Sol m n A x) {i : Nat} (hi : i < m) : sm n (fun k => s.T i k * x k) = s.T i (n + m) := by
  have h1 : sm n (fun k => s.T i k * x k) = sm n (fun k => sm m (fun l => s.T i (n + l) * (A l k * x k))) := sm_congr fun k hk => by
    rw [g.rsp i hi k (by omega), ← sm_mulr]
    exact sm_congr fun l _ => by grind
  rw [h1, sm_swap, g.rsp i hi (n + m) (Nat.le_refl _)]
  refine sm_congr fun l hl => ?_
  rw [sm_mul, h.eqs l hl]
theorem optimal (g : Good m n A s) (ht : ∀ k, k < n → c k ≤ lin m c s k) {x : Nat → Rat} (h : Sol m n A x) : sm n (fun k => c k * x k) ≤ lin m c s (n + m) := by
  have h1 : sm n (fun k => c k * x k) ≤ sm n (fun k => lin m c s k * x k) := sm_le fun k hk => Rat.mul_le_mul_of_nonneg_right (ht k hk) (h.pos k hk)
  have h2 : sm n (fun k => lin m c s k * x k) = lin m c s (n + m) := by
    have h3 : sm n (fun k => lin m c s k * x k) = sm n (fun k => sm m (fun j => c (s.B j) * (s.T j k * x k))) := sm_congr fun k _ => by
      unfold lin
      rw [← sm_mulr]
      exact sm_congr fun j _ => by grind
    rw [h3, sm_swap]
    unfold lin
    refine sm_congr fun j hj => ?_
    rw [sm_mul, sol_row g h hj]
  rw [h2] at h1
  exact h1
/-- the amounts that a tableau tells -/
def amt (m n : Nat) (s : Tb) (k : Nat) : Rat := sm m (fun j => if s.B j = k then s.T j (n + m) else 0)
theorem amt_sum (hb : ∀ j, j < m → s.B j < n) (f : Nat → Rat) : sm n (fun k => f k * amt m n s k) = sm m (fun j => f (s.B j) * s.T j (n + m)) := by
  have h1 : sm n (fun k => f k * amt m n s k) = sm n (fun k => sm m (fun j => if s.B j = k then f k * s.T j (n + m) else 0)) := sm_congr fun k _ => by
    unfold amt
    rw [← sm_mul]
    refine sm_congr fun j _ => ?_
    split <;> grind
  rw [h1, sm_swap]
  refine sm_congr fun j hj => ?_
  rw [sm_single (k := s.B j) (hb j hj) fun k _ e => if_neg fun z => e z.symm, if_pos rfl]
theorem amt_sol (g : Good m n A s) (hb : ∀ j, j < m → s.B j < n) : Sol m n A (amt m n s) := by
  refine ⟨fun k _ => sm_nonneg fun j hj => ?_, fun l hl => ?_⟩
  · split
    · exact g.pos j hj
    · exact Rat.le_refl
  · rw [amt_sum hb, g.col l hl (n + m) (Nat.le_refl _)]
theorem amt_val (hb : ∀ j, j < m → s.B j < n) : sm n (fun k => c k * amt m n s k) = lin m c s (n + m) := amt_sum hb c
/-- where no cost is above 0 a column that could enter has an entry above 0 -/
theorem has_pos (hc : ∀ k, c k ≤ 0) {k : Nat} (h : lin m c s k < c k) : ∃ i, i < m ∧ 0 < s.T i k := by
  have h1 : lin m c s k < 0 := by have := hc k; grind
  obtain ⟨i, hi, q⟩ := sm_neg h1
  refine ⟨i, hi, ?_⟩
  by_cases e : 0 < s.T i k
  · exact e
  · have h2 : 0 ≤ (-(c (s.B i))) * (-(s.T i k)) := Rat.mul_nonneg (by have := hc (s.B i); grind) (by grind)
    grind
/-- a pivot in a row whose right side is 0 -/
theorem piv_pos0 (g : Good m n A s) {j k : Nat} (h0 : s.T j (n + m) = 0) : ∀ i, i < m → (piv s j k).T i (n + m) = s.T i (n + m) := by
  intro i hi
  rw [piv_T, h0]
  split
  · rename_i e
    rw [e, h0]; grind
  · grind
theorem Good.piv0 (g : Good m n A s) {j k : Nat} (hj : j < m) (hk : k < n + m) (hp : s.T j k ≠ 0) (h0 : s.T j (n + m) = 0) : Good m n A (PW.piv s j k) :=
  g.piv hj hk hp fun i hi => by rw [piv_pos0 g h0 i hi]; exact g.pos i hi
/-- each equation has a column of its own among the first n -/
def HasUnit (m n : Nat) (A : Nat → Nat → Rat) : Prop := ∀ l, l < m → ∃ u, u < n ∧ ∀ l', l' < m → A l' u = if l' = l then 1 else 0
theorem row_some (g : Good m n A s) (hu : HasUnit m n A) {j : Nat} (hj : j < m) (hb : n ≤ s.B j) : ∃ k, k < n ∧ s.T j k ≠ 0 := by
  refine Classical.byContradiction fun hn => ?_
  have h0 : ∀ k, k < n → s.T j k = 0 := fun k hk => Classical.byContradiction fun z => hn ⟨k, hk, z⟩
  have h1 : ∀ l, l < m → s.T j (n + l) = 0 := fun l hl => by
    obtain ⟨u, hu1, hu2⟩ := hu l hl
    have q := g.rsp j hj u (by omega)
    rw [h0 u hu1, sm_single (k := l) hl fun l' hl' e => by rw [hu2 l' hl', if_neg e]; grind] at q
    rw [hu2 l hl, if_pos rfl] at q
    grind
  have h2 := g.bas j hj j hj
  have h3 := g.blt j hj
  rw [if_pos rfl, show s.B j = n + (s.B j - n) by omega, h1 (s.B j - n) (by omega)] at h2
  grind
/-! ### Bland's rule -/
/-- a step: column e enters, row j leaves -/
structure Stp (m n : Nat) (c : Nat → Rat) (s : Tb) (e j : Nat) : Prop where
  he : e < n
  hc : lin m c s e < c e
  hmin : ∀ k, k < e → c k ≤ lin m c s k
  hj : j < m
  hp : 0 < s.T j e
  hr : ∀ i, i < m → 0 < s.T i e → s.T j (n + m) / s.T j e ≤ s.T i (n + m) / s.T i e
  ht : ∀ i, i < m → 0 < s.T i e → s.T i (n + m) / s.T i e = s.T j (n + m) / s.T j e → s.B j ≤ s.B i
theorem Stp.ne {e j : Nat} (h : Stp m n c s e j) : s.T j e ≠ 0 := by have := h.hp; grind
theorem Stp.good {e j : Nat} (h : Stp m n c s e j) (g : Good m n A s) : Good m n A (piv s j e) :=
  g.piv h.hj (by have := h.he; omega) h.ne (piv_pos g h.hj h.hp h.hr)
def InB (m : Nat) (s : Tb) (v : Nat) : Prop := ∃ j, j < m ∧ s.B j = v
theorem Stp.notin {e j : Nat} (h : Stp m n c s e j) (g : Good m n A s) : ¬ InB m s e := fun ⟨i, hi, q⟩ => by
  have h1 := lin_basic (c := c) g hi
  have h2 := h.hc
  rw [q] at h1
  grind
theorem Stp.inB {e j : Nat} (h : Stp m n c s e j) (g : Good m n A s) (v : Nat) : InB m (piv s j e) v ↔ v = e ∨ (InB m s v ∧ v ≠ s.B j) := by
  constructor
  · rintro ⟨i, hi, q⟩
    rw [piv_B] at q
    by_cases z : i = j
    · rw [if_pos z] at q
      exact .inl q.symm
    · rw [if_neg z] at q
      refine .inr ⟨⟨i, hi, q⟩, fun z2 => z (g.binj hi h.hj (q.trans z2))⟩
  · rintro (q | ⟨⟨i, hi, q⟩, q2⟩)
    · exact ⟨j, h.hj, by rw [piv_B, if_pos rfl, q]⟩
    · refine ⟨i, hi, ?_⟩
      rw [piv_B, if_neg fun z => q2 (by rw [← q, z])]
      exact q
def Zr (m n : Nat) (s : Tb) (v : Nat) : Prop := ∀ j, j < m → s.B j = v → s.T j (n + m) = 0
theorem Stp.zr {e j : Nat} (h : Stp m n c s e j) (g : Good m n A s) (h0 : s.T j (n + m) = 0) (v : Nat) : Zr m n (piv s j e) v ↔ Zr m n s v := by
  constructor
  · intro z i hi q
    by_cases e1 : i = j
    · rw [e1]; exact h0
    · have := z i hi (by rw [piv_B, if_neg e1]; exact q)
      rw [piv_pos0 g h0 i hi] at this
      exact this
  · intro z i hi q
    rw [piv_pos0 g h0 i hi]
    by_cases e1 : i = j
    · rw [e1]; exact h0
    · rw [piv_B, if_neg e1] at q
      exact z i hi q
end
section
variable {m n : Nat} {A : Nat → Nat → Rat} {c : Nat → Rat} {S : Nat → Tb} {E J : Nat → Nat}
/-- an endless run of steps that change nothing of the right side -/
structure Run (m n : Nat) (A : Nat → Nat → Rat) (c : Nat → Rat) (S : Nat → Tb) (E J : Nat → Nat) : Prop where
  good : ∀ i, Good m n A (S i)
  stp : ∀ i, Stp m n c (S i) (E i) (J i)
  nxt : ∀ i, S (i + 1) = piv (S i) (J i) (E i)
  deg : ∀ i, (S i).T (J i) (n + m) = 0
theorem Run.zr (R : Run m n A c S E J) (v i : Nat) : ∀ d, Zr m n (S (i + d)) v ↔ Zr m n (S i) v
  | 0 => Iff.rfl
  | d + 1 => by
    show Zr m n (S (i + d + 1)) v ↔ _
    rw [R.nxt, (R.stp (i + d)).zr (R.good _) (R.deg _)]
    exact R.zr v i d
theorem Run.zr2 (R : Run m n A c S E J) (v a b : Nat) : Zr m n (S a) v ↔ Zr m n (S b) v := by
  rcases Nat.le_total a b with h | h
  · obtain ⟨d, rfl⟩ := Nat.exists_eq_add_of_le h
    exact (R.zr v a d).symm
  · obtain ⟨d, rfl⟩ := Nat.exists_eq_add_of_le h
    exact R.zr v b d
theorem Run.inB (R : Run m n A c S E J) {v i : Nat} : ∀ {d : Nat}, (∀ k, i ≤ k → k < i + d → E k ≠ v ∧ (S k).B (J k) ≠ v) → (InB m (S (i + d)) v ↔ InB m (S i) v)
  | 0, _ => Iff.rfl
  | d + 1, h => by
    show InB m (S (i + d + 1)) v ↔ _
    rw [R.nxt, (R.stp (i + d)).inB (R.good _)]
    have h1 := h (i + d) (by omega) (by omega)
    rw [← Run.inB R (v := v) (i := i) (d := d) fun k hk1 hk2 => h k hk1 (by omega)]
    constructor
    · rintro (q | q)
      · exact (h1.1 q.symm).elim
      · exact q.1
    · intro q
      exact .inr ⟨q, fun z => h1.2 z.symm⟩
theorem Run.inB2 (R : Run m n A c S E J) {v a b p q : Nat} (h : ∀ k, p ≤ k → k < q → E k ≠ v ∧ (S k).B (J k) ≠ v) (ha : p ≤ a) (ha2 : a ≤ q) (hb : p ≤ b) (hb2 : b ≤ q) : InB m (S a) v ↔ InB m (S b) v := by
  rcases Nat.le_total a b with z | z
  · obtain ⟨d, rfl⟩ := Nat.exists_eq_add_of_le z
    exact (R.inB fun k h1 h2 => h k (by omega) (by omega)).symm
  · obtain ⟨d, rfl⟩ := Nat.exists_eq_add_of_le z
    exact R.inB fun k h1 h2 => h k (by omega) (by omega)
/-- the heart of Bland's rule: the greatest one that moves doesn't both enter and leave -/
theorem Run.bland (R : Run m n A c S E J) {t a b p q : Nat} (h : ∀ k, p ≤ k → k < q → E k ≤ t ∧ (S k).B (J k) ≤ t) (ha : p ≤ a) (ha2 : a < q) (hb : p ≤ b) (hb2 : b < q) (hE : E a = t) (hL : (S b).B (J b) = t) : False := by
  have ga := R.good a
  have gb := R.good b
  have sa := R.stp a
  have sb := R.stp b
  have he := sb.he
  have hnb := sb.notin gb
  have hle := (h b hb hb2).1
  have hlt : E b < t := by
    rcases Nat.lt_or_ge (E b) t with z | z
    · exact z
    · exact (hnb ⟨J b, sb.hj, by omega⟩).elim
  have h1 := lin_two (c := c) gb ga (e := E b) (by omega)
  have h2 := sa.hmin (E b) (by omega)
  have h3 := sb.hc
  have h4 : sm m (fun j => (c ((S b).B j) - lin m c (S a) ((S b).B j)) * (S b).T j (E b)) < 0 := by rw [← h1]; grind
  obtain ⟨i, hi, h5⟩ := sm_neg h4
  have hij : i ≠ J b := fun z => by
    subst z
    have h6 := sa.hc
    rw [hL, ← hE] at h5
    have h7 := Rat.mul_pos (show 0 < c (E a) - lin m c (S a) (E a) by grind) sb.hp
    grind
  have hr : ¬ InB m (S a) ((S b).B i) := fun ⟨j2, hj2, z⟩ => by
    have h6 := lin_basic (c := c) ga hj2
    rw [z] at h6
    rw [h6] at h5
    grind
  have hrt : (S b).B i ≤ t := by
    refine Classical.byContradiction fun z => hr ?_
    refine (R.inB2 (v := (S b).B i) (a := a) (b := b) (p := p) (q := q) (fun k k1 k2 => ?_) ha (by omega) hb (by omega)).mpr ⟨i, hi, rfl⟩
    have := h k k1 k2
    omega
  have hrl : (S b).B i < t := by
    rcases Nat.lt_or_ge ((S b).B i) t with z | z
    · exact z
    · exact (hij (gb.binj hi sb.hj (by omega))).elim
  have h6 := sa.hmin ((S b).B i) (by omega)
  have h7 : 0 < (S b).T i (E b) := by
    refine Classical.byContradiction fun z => ?_
    have h8 : 0 ≤ (lin m c (S a) ((S b).B i) - c ((S b).B i)) * (-(S b).T i (E b)) := Rat.mul_nonneg (by grind) (by grind)
    grind
  have h8 : Zr m n (S a) ((S b).B i) := fun j2 hj2 z => (hr ⟨j2, hj2, z⟩).elim
  have h9 : (S b).T i (n + m) = 0 := (R.zr2 _ a b).mp h8 i hi rfl
  have h10 := sb.ht i hi h7 (by rw [h9, R.deg b]; grind)
  omega
/-- a run whose moves are all below t is shorter than 2 ^ t -/
theorem Run.short (R : Run m n A c S E J) : ∀ (t p d : Nat), (∀ k, p ≤ k → k < p + d → E k < t ∧ (S k).B (J k) < t) → d < 2 ^ t
  | 0, p, d, h => by
    rcases Nat.eq_zero_or_pos d with z | z
    · omega
    · have := h p (by omega) (by omega)
      omega
  | t + 1, p, d, h => by
    have hpow : 2 ^ (t + 1) = 2 ^ t + 2 ^ t := by rw [Nat.pow_succ]; omega
    by_cases hx : ∃ k, p ≤ k ∧ k < p + d ∧ (E k = t ∨ (S k).B (J k) = t)
    · obtain ⟨k, k1, k2, k3⟩ := hx
      have one : ∀ k', p ≤ k' → k' < p + d → k' ≠ k → E k' < t ∧ (S k').B (J k') < t := fun k' q1 q2 q3 => by
        refine Classical.byContradiction fun z => ?_
        have hk' := h k' q1 q2
        have z' : E k' = t ∨ (S k').B (J k') = t := by omega
        have hall : ∀ i, p ≤ i → i < p + d → E i ≤ t ∧ (S i).B (J i) ≤ t := fun i i1 i2 => by have := h i i1 i2; omega
        have noboth : ∀ a b, p ≤ a → a < p + d → p ≤ b → b < p + d → E a = t → (S b).B (J b) = t → False := fun a b a1 a2 b1 b2 e l => R.bland hall a1 a2 b1 b2 e l
        have two : ∀ a b, p ≤ a → a < b → b < p + d → (E a = t ∨ (S a).B (J a) = t) → (E b = t ∨ (S b).B (J b) = t) → False := by
          intro a b a1 ab b2 ha hb
          rcases ha with ha | ha
          · rcases hb with hb | hb
            · have hin : InB m (S (a + 1)) t := by
                rw [R.nxt, (R.stp a).inB (R.good a)]
                exact .inl ha.symm
              have : ∀ d', a + 1 + d' ≤ b → InB m (S (a + 1 + d')) t := fun d' => by
                induction d' with
                | zero => intro _; exact hin
                | succ d' ih =>
                  intro hd
                  show InB m (S (a + 1 + d' + 1)) t
                  rw [R.nxt, (R.stp _).inB (R.good _)]
                  exact .inr ⟨ih (by omega), fun z => noboth a (a + 1 + d') a1 (by omega) (by omega) (by omega) ha z.symm⟩
              have q := this (b - (a + 1)) (by omega)
              rw [show a + 1 + (b - (a + 1)) = b by omega, ← hb] at q
              exact (R.stp b).notin (R.good b) q
            · exact noboth a b a1 (by omega) (by omega) b2 ha hb
          · rcases hb with hb | hb
            · exact noboth b a (by omega) b2 a1 (by omega) hb ha
            · have hout : ¬ InB m (S (a + 1)) t := by
                rw [R.nxt, (R.stp a).inB (R.good a)]
                rintro (z | z)
                · exact noboth a a a1 (by omega) a1 (by omega) z.symm ha
                · exact z.2 ha.symm
              have : ∀ d', a + 1 + d' ≤ b → ¬ InB m (S (a + 1 + d')) t := fun d' => by
                induction d' with
                | zero => intro _; exact hout
                | succ d' ih =>
                  intro hd
                  show ¬ InB m (S (a + 1 + d' + 1)) t
                  rw [R.nxt, (R.stp _).inB (R.good _)]
                  rintro (z | z)
                  · exact noboth (a + 1 + d') a (by omega) (by omega) a1 (by omega) z.symm ha
                  · exact ih (by omega) z.1
              have q := this (b - (a + 1)) (by omega)
              rw [show a + 1 + (b - (a + 1)) = b by omega, ← hb] at q
              exact q ⟨J b, (R.stp b).hj, rfl⟩
        rcases Nat.lt_or_ge k k' with y | y
        · exact two k k' k1 y q2 k3 z'
        · exact two k' k q1 (by omega) k2 z' k3
      have s1 := R.short t p (k - p) fun i i1 i2 => one i i1 (by omega) (by omega)
      have s2 := R.short t (k + 1) (p + d - (k + 1)) fun i i1 i2 => one i (by omega) (by omega) (by omega)
      omega
    · have s1 := R.short t p d fun i i1 i2 => by
        have h1 := h i i1 i2
        have h2 : ¬ (E i = t ∨ (S i).B (J i) = t) := fun z => hx ⟨i, i1, i2, z⟩
        omega
      omega
/-- there is no endless run without a change of the right side -/
theorem Run.none (R : Run m n A c S E J) : False := by
  have h := R.short (n + m) 0 (2 ^ (n + m)) fun k _ _ => ⟨by have := (R.stp k).he; omega, (R.good k).blt _ (R.stp k).hj⟩
  omega
end
end PW
namespace PW
section
variable {m n : Nat} {A : Nat → Nat → Rat} {c : Nat → Rat} {s : Tb}
/-- the climb is at its end -/
def Top (m n : Nat) (c : Nat → Rat) (s : Tb) : Prop := ∀ k, k < n → c k ≤ lin m c s k
theorem Stp.uniq {e j e' j' : Nat} (g : Good m n A s) (h : Stp m n c s e j) (h' : Stp m n c s e' j') : e = e' ∧ j = j' := by
  have e1 : e = e' := by
    rcases Nat.lt_trichotomy e e' with z | z | z
    · have h1 := h'.hmin e z
      have h2 := h.hc
      grind
    · exact z
    · have h1 := h.hmin e' z
      have h2 := h'.hc
      grind
  subst e1
  refine ⟨rfl, ?_⟩
  have h1 := h.hr j' h'.hj h'.hp
  have h2 := h'.hr j h.hj h.hp
  have h3 : s.T j (n + m) / s.T j e = s.T j' (n + m) / s.T j' e := Rat.le_antisymm h1 h2
  have h4 := h.ht j' h'.hj h'.hp h3.symm
  have h5 := h'.ht j h.hj h.hp h3
  exact g.binj h.hj h'.hj (by omega)
theorem Stp.nottop {e j : Nat} (h : Stp m n c s e j) : ¬ Top m n c s := fun t => by
  have h1 := t e h.he
  have h2 := h.hc
  grind
/-- the climb ends within k steps -/
def Trm (m n : Nat) (c : Nat → Rat) : Nat → Tb → Prop
  | 0, s => Top m n c s
  | k + 1, s => Top m n c s ∨ ∀ e j, Stp m n c s e j → Trm m n c k (piv s j e)
theorem Trm.step {k e j : Nat} (t : Trm m n c k s) (h : Stp m n c s e j) : ∃ k', k' < k ∧ Trm m n c k' (piv s j e) := by
  cases k with
  | zero => exact (h.nottop t).elim
  | succ k =>
    rcases t with t | t
    · exact (h.nottop t).elim
    · exact ⟨k, Nat.lt_succ_self k, t e j h⟩
/-- the right sides have a common bottom F -/
def Whole (m n : Nat) (A : Nat → Nat → Rat) (F : Nat) : Prop := 0 < F ∧ ∀ s, Good m n A s → ∀ i, i < m → ∃ z : Int, s.T i (n + m) * (F : Rat) = (z : Rat)
theorem sm_whole {f : Nat → Rat} : ∀ {n : Nat}, (∀ i, i < n → ∃ z : Int, f i = (z : Rat)) → ∃ z : Int, sm n f = (z : Rat)
  | 0, _ => ⟨0, by show (0 : Rat) = _; simp⟩
  | n + 1, h => by
    obtain ⟨a, ha⟩ := sm_whole (n := n) fun i hi => h i (by omega)
    obtain ⟨b, hb⟩ := h n (by omega)
    exact ⟨a + b, by show sm n f + f n = _; rw [ha, hb, Rat.intCast_add]⟩
/-- minus the goal, times F, is a number -/
theorem lin_whole {F : Nat} (hF : Whole m n A F) (hc : ∀ k, ∃ z : Int, c k = (z : Rat)) (hc0 : ∀ k, c k ≤ 0) (g : Good m n A s) : ∃ p : Nat, -(lin m c s (n + m)) * (F : Rat) = (p : Rat) := by
  have h1 : ∃ z : Int, sm m (fun j => c (s.B j) * (s.T j (n + m) * (F : Rat))) = (z : Rat) := sm_whole fun j hj => by
    obtain ⟨a, ha⟩ := hc (s.B j)
    obtain ⟨b, hb⟩ := hF.2 s g j hj
    exact ⟨a * b, by rw [ha, hb, Rat.intCast_mul]⟩
  have h2 : sm m (fun j => c (s.B j) * (s.T j (n + m) * (F : Rat))) = lin m c s (n + m) * (F : Rat) := by
    unfold lin
    rw [← sm_mulr]
    exact sm_congr fun j _ => by grind
  obtain ⟨z, hz⟩ := h1
  rw [h2] at hz
  have h3 : lin m c s (n + m) ≤ 0 := by
    have : 0 ≤ sm m (fun j => -(c (s.B j)) * s.T j (n + m)) := sm_nonneg fun j hj => Rat.mul_nonneg (by have := hc0 (s.B j); grind) (g.pos j hj)
    have h4 : sm m (fun j => -(c (s.B j)) * s.T j (n + m)) = (-1) * lin m c s (n + m) := by
      unfold lin
      rw [← sm_mul]
      exact sm_congr fun j _ => by grind
    rw [h4] at this
    grind
  have h5 : (0 : Rat) < (F : Rat) := by
    have := hF.1
    exact_mod_cast this
  have h6 : 0 ≤ (-(lin m c s (n + m))) * (F : Rat) := Rat.mul_nonneg (by grind) (Rat.le_of_lt h5)
  have h7 : (z : Rat) ≤ 0 := by grind
  have h8 : z ≤ 0 := by exact_mod_cast h7
  refine ⟨(-z).toNat, ?_⟩
  have h9 : (((-z).toNat : Nat) : Rat) = ((-z : Int) : Rat) := by
    rw [← Rat.intCast_natCast, Int.toNat_of_nonneg (by omega)]
  rw [h9, Rat.intCast_neg]
  grind
theorem lin_step {e j : Nat} (h : Stp m n c s e j) (g : Good m n A s) : lin m c s (n + m) ≤ lin m c (piv s j e) (n + m) ∧ (lin m c s (n + m) = lin m c (piv s j e) (n + m) → s.T j (n + m) = 0) := by
  rw [lin_piv h.hj h.ne]
  have h1 : 0 < c e - lin m c s e := by have := h.hc; grind
  have h2 := h.hp
  have h3 := g.pos j h.hj
  have h4 : 0 ≤ s.T j (n + m) / s.T j e := by
    rw [Rat.div_def]
    exact Rat.mul_nonneg h3 (Rat.le_of_lt (Rat.inv_pos.mpr h2))
  refine ⟨?_, fun q => ?_⟩
  · have := Rat.mul_nonneg (Rat.le_of_lt h1) h4
    grind
  · have h5 : (c e - lin m c s e) * (s.T j (n + m) / s.T j e) = 0 := by grind
    have h6 : s.T j (n + m) / s.T j e = 0 := by
      rcases Rat.mul_eq_zero.mp h5 with z | z
      · grind
      · exact z
    have h7 : s.T j (n + m) = (s.T j (n + m) / s.T j e) * s.T j e := by grind
    rw [h7, h6]; grind
/-- EVERY CLIMB ENDS -/
theorem climbs {F : Nat} (hF : Whole m n A F) (hc : ∀ k, ∃ z : Int, c k = (z : Rat)) (hc0 : ∀ k, c k ≤ 0) (g : Good m n A s) : ∃ k, Trm m n c k s := by
  refine Classical.byContradiction fun hno => ?_
  let P := { s : Tb // Good m n A s ∧ ¬ ∃ k, Trm m n c k s }
  have next : ∀ p : P, ∃ (q : P) (e j : Nat), Stp m n c p.1 e j ∧ q.1 = piv p.1 j e := fun ⟨s, g, hs⟩ => by
    have h1 : ∃ e j, Stp m n c s e j := Classical.byContradiction fun z => hs ⟨1, .inr fun e j h => (z ⟨e, j, h⟩).elim⟩
    obtain ⟨e, j, h⟩ := h1
    refine ⟨⟨piv s j e, h.good g, fun ⟨k, hk⟩ => hs ⟨k + 1, .inr fun e' j' h' => ?_⟩⟩, e, j, h, rfl⟩
    obtain ⟨q1, q2⟩ := h.uniq g h'
    subst q1 q2
    exact hk
  let nx : P → P := fun p => Classical.choose (next p)
  let Sq : Nat → P := fun i => Nat.rec (⟨s, g, hno⟩ : P) (fun _ p => nx p) i
  have hSq : ∀ i, Sq (i + 1) = nx (Sq i) := fun i => rfl
  have hnx : ∀ i, ∃ e j, Stp m n c (Sq i).1 e j ∧ (Sq (i + 1)).1 = piv (Sq i).1 j e := fun i => by
    rw [hSq]
    exact Classical.choose_spec (next (Sq i))
  let E : Nat → Nat := fun i => Classical.choose (hnx i)
  let J : Nat → Nat := fun i => Classical.choose (Classical.choose_spec (hnx i))
  have hEJ : ∀ i, Stp m n c (Sq i).1 (E i) (J i) ∧ (Sq (i + 1)).1 = piv (Sq i).1 (J i) (E i) := fun i => Classical.choose_spec (Classical.choose_spec (hnx i))
  let φ : Nat → Nat := fun i => Classical.choose (lin_whole hF hc hc0 (Sq i).2.1)
  have hφ : ∀ i, -(lin m c (Sq i).1 (n + m)) * (F : Rat) = (φ i : Rat) := fun i => Classical.choose_spec (lin_whole hF hc hc0 (Sq i).2.1)
  have h5 : (0 : Rat) < (F : Rat) := by
    have := hF.1
    exact_mod_cast this
  have mono : ∀ i, φ (i + 1) ≤ φ i := fun i => by
    have h1 := (lin_step (hEJ i).1 (Sq i).2.1).1
    rw [← (hEJ i).2] at h1
    have h2 : (φ (i + 1) : Rat) ≤ (φ i : Rat) := by
      rw [← hφ (i + 1), ← hφ i]
      exact Rat.mul_le_mul_of_nonneg_right (by grind) (Rat.le_of_lt h5)
    exact_mod_cast h2
  have deg : ∀ i, φ (i + 1) = φ i → (Sq i).1.T (J i) (n + m) = 0 := fun i q => by
    refine (lin_step (hEJ i).1 (Sq i).2.1).2 ?_
    rw [← (hEJ i).2]
    have h1 : -(lin m c (Sq (i + 1)).1 (n + m)) * (F : Rat) = -(lin m c (Sq i).1 (n + m)) * (F : Rat) := by rw [hφ (i + 1), hφ i, q]
    have h2 : (lin m c (Sq i).1 (n + m) - lin m c (Sq (i + 1)).1 (n + m)) * (F : Rat) = 0 := by grind
    rcases Rat.mul_eq_zero.mp h2 with z | z
    · grind
    · grind
  have mono2 : ∀ i d, φ (i + d) ≤ φ i := fun i d => by
    induction d with
    | zero => exact Nat.le_refl _
    | succ d ih => exact Nat.le_trans (mono (i + d)) ih
  have least : ∀ v i, φ i ≤ v → ∃ i0, ∀ d, φ (i0 + d) = φ i0 := fun v => by
    induction v with
    | zero =>
      intro i hi
      exact ⟨i, fun d => by have := mono2 i d; omega⟩
    | succ v ih =>
      intro i hi
      by_cases hx : ∃ d, φ (i + d) ≠ φ i
      · obtain ⟨d, hd⟩ := hx
        exact ih (i + d) (by have := mono2 i d; omega)
      · exact ⟨i, fun d => Classical.byContradiction fun z => hx ⟨d, z⟩⟩
  obtain ⟨i0, hi0⟩ := least (φ 0) 0 (Nat.le_refl _)
  refine (Run.none (m := m) (n := n) (A := A) (c := c) (S := fun i => (Sq (i0 + i)).1) (E := fun i => E (i0 + i)) (J := fun i => J (i0 + i)) ⟨fun i => (Sq (i0 + i)).2.1, fun i => (hEJ (i0 + i)).1, fun i => (hEJ (i0 + i)).2, fun i => ?_⟩)
  refine deg (i0 + i) ?_
  rw [hi0 i]
  exact hi0 (i + 1)
end
end PW
namespace PW
/-- more places than values: two of them agree -/
theorem php : ∀ (K : Nat) (f : Nat → Nat), (∀ v, v ≤ K → f v < K) → ∃ a b, a < b ∧ b ≤ K ∧ f a = f b
  | 0, f, h => by have := h 0 (Nat.le_refl 0); omega
  | K + 1, f, h => by
    by_cases hx : ∃ v, v ≤ K ∧ f v = f (K + 1)
    · obtain ⟨v, h1, h2⟩ := hx
      exact ⟨v, K + 1, by omega, Nat.le_refl _, h2⟩
    · have hne : ∀ v, v ≤ K → f v ≠ f (K + 1) := fun v h1 h2 => hx ⟨v, h1, h2⟩
      obtain ⟨a, b, h1, h2, h3⟩ := php K (fun v => if f v = K then f (K + 1) else f v) fun v hv => by
        have h1 := h v (by omega)
        have h2 := h (K + 1) (Nat.le_refl _)
        have h3 := hne v hv
        split <;> omega
      have ha := hne a (by omega)
      have hb := hne b (by omega)
      refine ⟨a, b, h1, by omega, ?_⟩
      by_cases e1 : f a = K
      · by_cases e2 : f b = K
        · omega
        · rw [if_pos e1, if_neg e2] at h3
          omega
      · by_cases e2 : f b = K
        · rw [if_neg e1, if_pos e2] at h3
          omega
        · rw [if_neg e1, if_neg e2] at h3
          exact h3
/-- digits -/
def dig (D : Nat) (v : Nat) : Nat → Nat
  | 0 => v % D
  | j + 1 => dig D (v / D) j
theorem dig_lt {D : Nat} (hD : 0 < D) : ∀ (j v : Nat), dig D v j < D
  | 0, v => Nat.mod_lt _ hD
  | j + 1, v => dig_lt hD j (v / D)
theorem dig_inj {D : Nat} (hD : 0 < D) : ∀ (q a b : Nat), a < D ^ q → b < D ^ q → (∀ j, j < q → dig D a j = dig D b j) → a = b
  | 0, a, b, ha, hb, _ => by
    rw [Nat.pow_zero] at ha hb
    omega
  | q + 1, a, b, ha, hb, h => by
    have h0 : a % D = b % D := h 0 (by omega)
    rw [Nat.pow_succ] at ha hb
    have h1 : a / D = b / D := dig_inj hD q (a / D) (b / D) (Nat.div_lt_of_lt_mul (by rw [Nat.mul_comm]; exact ha)) (Nat.div_lt_of_lt_mul (by rw [Nat.mul_comm]; exact hb)) fun j hj => h (j + 1) (by omega)
    rw [← Nat.div_add_mod a D, ← Nat.div_add_mod b D, h0, h1]
def enc (D : Nat) : Nat → (Nat → Nat) → Nat
  | 0, _ => 0
  | m + 1, d => d 0 + D * enc D m (fun i => d (i + 1))
theorem enc_lt {D : Nat} (hD : 0 < D) : ∀ (m : Nat) (d : Nat → Nat), (∀ i, i < m → d i < D) → enc D m d < D ^ m
  | 0, _, _ => by show 0 < D ^ 0; rw [Nat.pow_zero]; omega
  | m + 1, d, h => by
    show d 0 + D * enc D m (fun i => d (i + 1)) < D ^ (m + 1)
    have h1 := enc_lt hD m (fun i => d (i + 1)) fun i hi => h (i + 1) (by omega)
    have h2 := h 0 (by omega)
    have h3 : D * (enc D m (fun i => d (i + 1)) + 1) ≤ D * D ^ m := Nat.mul_le_mul_left D h1
    rw [Nat.mul_add, Nat.mul_one] at h3
    rw [Nat.pow_succ, Nat.mul_comm (D ^ m) D]
    omega
theorem enc_inj {D : Nat} (hD : 0 < D) : ∀ (m : Nat) (d e : Nat → Nat), (∀ i, i < m → d i < D) → (∀ i, i < m → e i < D) → enc D m d = enc D m e → ∀ i, i < m → d i = e i
  | 0, _, _, _, _, _, i, hi => by omega
  | m + 1, d, e, hd, he, h, i, hi => by
    have h : d 0 + D * enc D m (fun i => d (i + 1)) = e 0 + D * enc D m (fun i => e (i + 1)) := h
    have d0 := hd 0 (by omega)
    have e0 := he 0 (by omega)
    have h1 : d 0 = e 0 := by
      have := congrArg (· % D) h
      simp only [Nat.add_mul_mod_self_left] at this
      rw [Nat.mod_eq_of_lt d0, Nat.mod_eq_of_lt e0] at this
      exact this
    cases i with
    | zero => exact h1
    | succ i =>
      refine enc_inj hD m (fun i => d (i + 1)) (fun i => e (i + 1)) (fun i hi => hd (i + 1) (by omega)) (fun i hi => he (i + 1) (by omega)) ?_ i (by omega)
      rw [h1] at h
      exact Nat.eq_of_mul_eq_mul_left hD (by omega)
/-- a sum of whole numbers -/
def zm : Nat → (Nat → Int) → Int
  | 0, _ => 0
  | n + 1, f => zm n f + f n
theorem zm_sub (f g : Nat → Int) : ∀ n, zm n (fun i => f i - g i) = zm n f - zm n g
  | 0 => rfl
  | n + 1 => by
    show zm n (fun i => f i - g i) + (f n - g n) = zm n f + f n - (zm n g + g n)
    rw [zm_sub f g n]; omega
theorem zm_congr {f g : Nat → Int} : ∀ {n : Nat}, (∀ i, i < n → f i = g i) → zm n f = zm n g
  | 0, _ => rfl
  | n + 1, h => by
    show zm n f + f n = zm n g + g n
    rw [zm_congr (n := n) fun i hi => h i (by omega), h n (by omega)]
theorem zm_range {f g h : Nat → Int} : ∀ {n : Nat}, (∀ i, i < n → f i ≤ g i ∧ g i ≤ h i) → zm n f ≤ zm n g ∧ zm n g ≤ zm n h
  | 0, _ => ⟨Int.le_refl _, Int.le_refl _⟩
  | n + 1, q => by
    have h1 := zm_range (n := n) fun i hi => q i (by omega)
    have h2 := q n (by omega)
    constructor
    · show zm n f + f n ≤ zm n g + g n
      omega
    · show zm n g + g n ≤ zm n h + h n
      omega
theorem zm_const (c : Int) : ∀ n : Nat, zm n (fun _ => c) = (n : Int) * c
  | 0 => by show (0 : Int) = _; simp
  | n + 1 => by
    show zm n (fun _ => c) + c = _
    rw [zm_const c n, Int.natCast_add, Int.add_mul]; simp
theorem zm_rat (f : Nat → Int) : ∀ n : Nat, ((zm n f : Int) : Rat) = sm n (fun i => ((f i : Int) : Rat))
  | 0 => by show ((0 : Int) : Rat) = 0; simp
  | n + 1 => by
    show ((zm n f + f n : Int) : Rat) = sm n _ + _
    rw [Rat.intCast_add, zm_rat f n]
/-- Siegel's lemma, by counting -/
theorem siegel (m : Nat) (C : Nat → Nat → Int) (M : Nat) (hM : 0 < M) (hC : ∀ l, l < m → ∀ j, j < m + 1 → (C l j).natAbs ≤ M) :
    ∃ z : Nat → Int, (∃ j, j < m + 1 ∧ z j ≠ 0) ∧ (∀ j, j < m + 1 → (z j).natAbs ≤ ((m + 1) * M) ^ m) ∧ ∀ l, l < m → zm (m + 1) (fun j => C l j * z j) = 0 := by
  generalize hS : (m + 1) * M = S
  have hS1 : 0 < S := by rw [← hS]; exact Nat.mul_pos (by omega) hM
  generalize hX : S ^ m = X
  let lo : Nat → Nat → Int := fun l j => if C l j < 0 then C l j * (X : Int) else 0
  let hi : Nat → Nat → Int := fun l j => if C l j < 0 then 0 else C l j * (X : Int)
  let val : Nat → Nat → Int := fun l v => zm (m + 1) (fun j => C l j * (dig (X + 1) v j : Int))
  let low : Nat → Int := fun l => zm (m + 1) (lo l)
  have hval : ∀ l v, low l ≤ val l v ∧ val l v ≤ zm (m + 1) (hi l) := fun l v => by
    refine zm_range fun j _ => ?_
    have h1 : dig (X + 1) v j < X + 1 := dig_lt (by omega) j v
    have h2 : (0 : Int) ≤ (dig (X + 1) v j : Int) := by omega
    have h3 : (dig (X + 1) v j : Int) ≤ (X : Int) := by omega
    show (if C l j < 0 then C l j * (X : Int) else 0) ≤ C l j * (dig (X + 1) v j : Int) ∧ C l j * (dig (X + 1) v j : Int) ≤ (if C l j < 0 then 0 else C l j * (X : Int))
    split
    · rename_i hneg
      exact ⟨Int.mul_le_mul_of_nonpos_left (by omega) h3, Int.mul_nonpos_of_nonpos_of_nonneg (by omega) h2⟩
    · rename_i hneg
      exact ⟨Int.mul_nonneg (by omega) h2, Int.mul_le_mul_of_nonneg_left h3 (by omega)⟩
  have hwide : ∀ l, l < m → zm (m + 1) (hi l) - low l ≤ (S : Int) * (X : Int) := fun l hl => by
    show zm (m + 1) (hi l) - zm (m + 1) (lo l) ≤ _
    rw [← zm_sub]
    have h1 := (zm_range (f := fun _ => 0 * (X : Int)) (g := fun j => hi l j - lo l j) (h := fun _ => (M : Int) * (X : Int)) (n := m + 1) fun j hj => by
      have h2 := hC l hl j hj
      show 0 * (X : Int) ≤ (if C l j < 0 then 0 else C l j * (X : Int)) - (if C l j < 0 then C l j * (X : Int) else 0) ∧ (if C l j < 0 then 0 else C l j * (X : Int)) - (if C l j < 0 then C l j * (X : Int) else 0) ≤ (M : Int) * (X : Int)
      have hX0 : (0 : Int) ≤ (X : Int) := by omega
      split
      · rename_i hneg
        have h3 : (-(C l j)) * (X : Int) ≤ (M : Int) * (X : Int) := Int.mul_le_mul_of_nonneg_right (by omega) hX0
        have h4 : 0 ≤ (-(C l j)) * (X : Int) := Int.mul_nonneg (by omega) hX0
        rw [Int.neg_mul] at h3 h4
        omega
      · rename_i hneg
        have h3 : (C l j) * (X : Int) ≤ (M : Int) * (X : Int) := Int.mul_le_mul_of_nonneg_right (by omega) hX0
        have h4 : 0 ≤ (C l j) * (X : Int) := Int.mul_nonneg (by omega) hX0
        omega).2
    rw [zm_const] at h1
    rw [← hS, Int.natCast_mul, Int.mul_assoc]
    exact h1
  let row : Nat → Nat → Nat := fun v l => (val l v - low l).toNat
  have hrow : ∀ v l, l < m → row v l < S * X + 1 := fun v l hl => by
    show (val l v - low l).toNat < _
    have h1 := hval l v
    have h2 := hwide l hl
    have h3 : ((S * X : Nat) : Int) = (S : Int) * (X : Int) := Int.natCast_mul _ _
    omega
  have hcount : (S * X + 1) ^ m < (X + 1) ^ (m + 1) := by
    have h1 : (S * X + 1) ^ m ≤ (S * (X + 1)) ^ m := Nat.pow_le_pow_left (by rw [Nat.mul_add]; omega) m
    rw [Nat.mul_pow, hX] at h1
    have h2 : 0 < (X + 1) ^ m := Nat.pow_pos (by omega)
    have h3 : (X + 1) ^ (m + 1) = X * (X + 1) ^ m + (X + 1) ^ m := by rw [Nat.pow_succ, Nat.mul_add, Nat.mul_one, Nat.mul_comm ((X + 1) ^ m) X]
    omega
  obtain ⟨a, b, hab, hb, he⟩ := php ((S * X + 1) ^ m) (fun v => enc (S * X + 1) m (row v)) fun v _ => enc_lt (by omega) m (row v) (hrow v)
  have hrows := enc_inj (D := S * X + 1) (by omega) m (row a) (row b) (hrow a) (hrow b) he
  refine ⟨fun j => (dig (X + 1) a j : Int) - (dig (X + 1) b j : Int), ?_, fun j _ => ?_, fun l hl => ?_⟩
  · refine Classical.byContradiction fun hz => ?_
    have h1 : a = b := dig_inj (D := X + 1) (by omega) (m + 1) a b (by omega) (by omega) fun j hj => Classical.byContradiction fun z => hz ⟨j, hj, (by show (dig (X + 1) a j : Int) - (dig (X + 1) b j : Int) ≠ 0; omega)⟩
    omega
  · have h1 : dig (X + 1) a j < X + 1 := dig_lt (by omega) j a
    have h2 : dig (X + 1) b j < X + 1 := dig_lt (by omega) j b
    show ((dig (X + 1) a j : Int) - (dig (X + 1) b j : Int)).natAbs ≤ X
    omega
  · have h1 : (val l a - low l).toNat = (val l b - low l).toNat := hrows l hl
    have h2 := hval l a
    have h3 := hval l b
    have h4 : val l a = val l b := by omega
    have h5 : zm (m + 1) (fun j => C l j * ((dig (X + 1) a j : Int) - (dig (X + 1) b j : Int))) = val l a - val l b := by
      show _ = zm (m + 1) _ - zm (m + 1) _
      rw [← zm_sub]
      exact zm_congr fun j _ => Int.mul_sub _ _ _
    rw [h5, h4]; omega
/-- a quotient in lowest terms is no greater than the numbers it is the quotient of -/
theorem low_terms {r : Rat} {y t : Int} (ht : t ≠ 0) (h : r * (t : Rat) = (y : Rat)) {X : Nat} (hy : y.natAbs ≤ X) (htX : t.natAbs ≤ X) : r.num.natAbs ≤ X ∧ r.den ≤ X := by
  have h1 : r.num * t = y * (r.den : Int) := by
    have h2 : ((r.num : Int) : Rat) = r * (r.den : Rat) := by
      have h0 : r = (r.num : Rat) / (r.den : Rat) := by rw [← Rat.mkRat_eq_div, Rat.mkRat_self]
      have hd : ((r.den : Nat) : Rat) ≠ 0 := by
        have := r.den_nz
        exact_mod_cast this
      grind
    have h3 : ((r.num * t : Int) : Rat) = ((y * (r.den : Int) : Int) : Rat) := by
      rw [Rat.intCast_mul, Rat.intCast_mul, h2, ← h, Rat.intCast_natCast]; grind
    exact_mod_cast h3
  have hco := r.reduced
  have h2 : r.num.natAbs * t.natAbs = y.natAbs * r.den := by
    have := congrArg Int.natAbs h1
    rw [Int.natAbs_mul, Int.natAbs_mul] at this
    exact this
  have h3 : r.den ∣ t.natAbs := hco.symm.dvd_of_dvd_mul_left (by rw [h2]; exact Nat.dvd_mul_left _ _)
  have h4 : r.den ≤ t.natAbs := Nat.le_of_dvd (by omega) h3
  have h5 : r.num.natAbs ∣ y.natAbs := hco.dvd_of_dvd_mul_right (by rw [← h2]; exact Nat.dvd_mul_right _ _)
  refine ⟨?_, by omega⟩
  rcases Nat.eq_zero_or_pos y.natAbs with z | z
  · rw [z, Nat.zero_mul] at h2
    rcases Nat.mul_eq_zero.mp h2 with q | q <;> omega
  · have := Nat.le_of_dvd z h5
    omega
def Bd (X : Nat) (r : Rat) : Prop := r.num.natAbs ≤ X ∧ r.den ≤ X
section
variable {m n : Nat} {A : Nat → Nat → Rat} {s : Tb}
/-- THE SIZES: every entry of every tableau -/
theorem sizes {Z : Nat → Nat → Int} {M : Nat} (hM : 0 < M) (hA : ∀ l, l < m → ∀ k, k ≤ n + m → A l k = ((Z l k : Int) : Rat) ∧ (Z l k).natAbs ≤ M) (g : Good m n A s) {i k : Nat} (hi : i < m) (hk : k ≤ n + m) : Bd (((m + 1) * M) ^ m) (s.T i k) := by
  obtain ⟨z, ⟨j0, hj0, hz0⟩, hzX, hz⟩ := siegel m (fun l j => if j < m then Z l (s.B j) else -(Z l k)) M hM fun l hl j hj => by
    show (if j < m then Z l (s.B j) else -(Z l k)).natAbs ≤ M
    split
    · rename_i h
      exact (hA l hl _ (Nat.le_of_lt (g.blt j h))).2
    · have := (hA l hl k hk).2
      omega
  have h1 : ∀ l, l < m → sm m (fun j => A l (s.B j) * ((z j : Int) : Rat)) = A l k * ((z m : Int) : Rat) := fun l hl => by
    have h2 := hz l hl
    have h3 : zm m (fun j => (if j < m then Z l (s.B j) else -(Z l k)) * z j) + (if m < m then Z l (s.B m) else -(Z l k)) * z m = 0 := h2
    rw [if_neg (by omega), zm_congr (g := fun j => Z l (s.B j) * z j) fun j hj => by rw [if_pos hj]] at h3
    have h4 : zm m (fun j => Z l (s.B j) * z j) = Z l k * z m := by
      rw [Int.neg_mul] at h3
      omega
    have h5 := congrArg (fun x : Int => (x : Rat)) h4
    simp only [zm_rat, Rat.intCast_mul] at h5
    rw [(hA l hl k hk).1, ← h5]
    exact sm_congr fun j hj => by rw [(hA l hl _ (Nat.le_of_lt (g.blt j hj))).1]
  have key : ∀ i, i < m → ((z i : Int) : Rat) = s.T i k * ((z m : Int) : Rat) := fun i hi => by
    have h2 : sm m (fun l => s.T i (n + l) * sm m (fun j => A l (s.B j) * ((z j : Int) : Rat))) = sm m (fun l => (s.T i (n + l) * A l k) * ((z m : Int) : Rat)) := sm_congr fun l hl => by rw [h1 l hl]; grind
    rw [sm_mulr, ← g.rsp i hi k hk] at h2
    rw [← h2]
    have h3 : sm m (fun l => s.T i (n + l) * sm m (fun j => A l (s.B j) * ((z j : Int) : Rat))) = sm m (fun l => sm m (fun j => (s.T i (n + l) * A l (s.B j)) * ((z j : Int) : Rat))) := sm_congr fun l _ => by
      rw [← sm_mul]
      exact sm_congr fun j _ => by grind
    rw [h3, sm_swap]
    have h4 : sm m (fun j => sm m (fun l => (s.T i (n + l) * A l (s.B j)) * ((z j : Int) : Rat))) = sm m (fun j => s.T i (s.B j) * ((z j : Int) : Rat)) := sm_congr fun j hj => by
      rw [sm_mulr, ← g.rsp i hi (s.B j) (Nat.le_of_lt (g.blt j hj))]
    rw [h4, sm_single (k := i) hi fun j hj e => by rw [g.bas i hi j hj, if_neg (fun z => e z.symm)]; grind]
    rw [g.bas i hi i hi, if_pos rfl]; grind
  have ht : z m ≠ 0 := fun e => by
    have h2 : ∀ j, j < m → z j = 0 := fun j hj => by
      have := key j hj
      rw [e] at this
      have h3 : ((z j : Int) : Rat) = ((0 : Int) : Rat) := by rw [this]; simp
      exact_mod_cast h3
    rcases Nat.lt_or_ge j0 m with q | q
    · exact hz0 (h2 j0 q)
    · exact hz0 (by rw [show j0 = m by omega]; exact e)
  exact low_terms ht (key i hi).symm (hzX i (by omega)) (hzX m (by omega))
end
end PW
namespace PW
def fac : Nat → Nat
  | 0 => 1
  | n + 1 => (n + 1) * fac n
theorem fac_pos : ∀ n, 0 < fac n
  | 0 => Nat.one_pos
  | n + 1 => Nat.mul_pos (Nat.succ_pos n) (fac_pos n)
theorem fac_dvd : ∀ {n d : Nat}, 0 < d → d ≤ n → d ∣ fac n
  | 0, d, h, h2 => by omega
  | n + 1, d, h, h2 => by
    rcases Nat.lt_or_ge n d with z | z
    · have : d = n + 1 := by omega
      rw [this]
      exact Nat.dvd_mul_right _ _
    · exact Nat.dvd_trans (fac_dvd h z) (Nat.dvd_mul_left _ _)
theorem rat_eq (r : Rat) : r = (r.num : Rat) / (r.den : Rat) := by rw [← Rat.mkRat_eq_div, Rat.mkRat_self]
theorem den_ne (r : Rat) : ((r.den : Nat) : Rat) ≠ 0 := by
  have := r.den_nz
  exact_mod_cast this
section
variable {m n : Nat} {A : Nat → Nat → Rat} {s : Tb}
theorem whole_of {X : Nat} (h : ∀ s, Good m n A s → ∀ i, i < m → Bd X (s.T i (n + m))) : Whole m n A (fac X) := by
  refine ⟨fac_pos X, fun s g i hi => ?_⟩
  obtain ⟨_, h2⟩ := h s g i hi
  generalize s.T i (n + m) = r at h2
  obtain ⟨q, hq⟩ := fac_dvd (Nat.pos_of_ne_zero r.den_nz) h2
  refine ⟨r.num * (q : Int), ?_⟩
  have h3 := den_ne r
  have h4 := rat_eq r
  rw [hq, Rat.natCast_mul, Rat.intCast_mul, Rat.intCast_natCast]
  grind
theorem good_start (hI : ∀ l, l < m → ∀ l', l' < m → A l (n + l') = if l = l' then 1 else 0) (hp : ∀ l, l < m → 0 ≤ A l (n + m)) : Good m n A ⟨A, fun j => n + j⟩ := by
  refine ⟨fun i hi c _ => ?_, fun i hi j hj => hI i hi j hj, fun j hj => by show n + j < n + m; omega, fun l hl c _ => ?_, hp⟩
  · show A i c = sm m (fun l => A i (n + l) * A l c)
    rw [sm_single (k := i) hi fun l hl e => by rw [hI i hi l hl, if_neg (fun z => e z.symm)]; grind]
    rw [hI i hi i hi, if_pos rfl]; grind
  · show A l c = sm m (fun j => A l (n + j) * A j c)
    rw [sm_single (k := l) hl fun j hj e => by rw [hI l hl j hj, if_neg (fun z => e z.symm)]; grind]
    rw [hI l hl l hl, if_pos rfl]; grind
end
/-! ### water -/
/-- S sources with flow s and dirt d, W sinks with flow f and dirt e -/
structure Wt where
  S : Nat
  W : Nat
  s : Nat → Int
  d : Nat → Int
  f : Nat → Int
  e : Nat → Int
structure Feas (w : Wt) (x : Nat → Nat → Rat) (y : Nat → Rat) : Prop where
  x0 : ∀ i, i < w.S → ∀ j, j < w.W → 0 ≤ x i j
  y0 : ∀ j, j < w.W → 0 ≤ y j
  flow : ∀ j, j < w.W → sm w.S (fun i => x i j) + y j = (w.f j : Rat)
  dirt : ∀ j, j < w.W → sm w.S (fun i => (w.d i : Rat) * x i j) ≤ (w.f j : Rat) * (w.e j : Rat)
  cap : ∀ i, i < w.S → sm w.W (fun j => x i j) ≤ (w.s i : Rat)
/-- v is the least sum of fresh flows -/
def IsLeast (w : Wt) (v : Rat) : Prop := (∃ x y, Feas w x y ∧ sm w.W y = v) ∧ ∀ x y, Feas w x y → v ≤ sm w.W y
theorem IsLeast.uniq {w : Wt} {u v : Rat} (h : IsLeast w u) (h' : IsLeast w v) : u = v := by
  obtain ⟨⟨x, y, a1, a2⟩, a3⟩ := h
  obtain ⟨⟨x', y', b1, b2⟩, b3⟩ := h'
  have := a3 x' y' b1
  have := b3 x y a1
  grind
/-! ### its equations -/
def Wt.m (w : Wt) : Nat := w.W + w.W + w.S
def Wt.n (w : Wt) : Nat := w.S * w.W + w.m
/-- the coefficient of the flow of source i to sink j in equation l -/
def Wt.body (w : Wt) (l i j : Nat) : Int :=
  if l < w.W then (if j = l then 1 else 0) else if l < w.W + w.W then (if j = l - w.W then w.d i else 0) else (if i = l - (w.W + w.W) then 1 else 0)
def Wt.goal (w : Wt) (l : Nat) : Int :=
  if l < w.W then w.f l else if l < w.W + w.W then w.f (l - w.W) * w.e (l - w.W) else w.s (l - (w.W + w.W))
/-- the coefficients of the program's own columns -/
def Wt.co (w : Wt) (l k : Nat) : Int := if k < w.S * w.W then w.body l (k / w.W) (k % w.W) else if k = w.S * w.W + l then 1 else 0
def Wt.Z (w : Wt) (l k : Nat) : Int := if k < w.n then w.co l k else if k < w.n + w.m then (if k = w.n + l then 1 else 0) else w.goal l
def Wt.A (w : Wt) (l k : Nat) : Rat := (w.Z l k : Rat)
def Wt.cost (w : Wt) (k : Nat) : Rat := if w.S * w.W ≤ k ∧ k < w.S * w.W + w.W then -1 else 0
def Wt.help (w : Wt) (k : Nat) : Rat := if w.n ≤ k then -1 else 0
structure Wt.Ok (w : Wt) : Prop where
  W0 : 0 < w.W
  S4 : w.S ≤ 4
  W4 : w.W ≤ 4
  s0 : ∀ i, i < w.S → 1 ≤ w.s i ∧ w.s i ≤ 1000
  d0 : ∀ i, i < w.S → 0 ≤ w.d i ∧ w.d i ≤ 1000
  f0 : ∀ j, j < w.W → 1 ≤ w.f j ∧ w.f j ≤ 1000
  e0 : ∀ j, j < w.W → 0 ≤ w.e j ∧ w.e j ≤ 1000
section
variable {w : Wt}
theorem Wt.A_help {l l' : Nat} (h' : l' < w.m) : w.A l (w.n + l') = if l = l' then 1 else 0 := by
  unfold Wt.A Wt.Z
  rw [if_neg (by omega), if_pos (by omega)]
  by_cases e : l = l'
  · rw [if_pos (by omega), if_pos e]; simp
  · rw [if_neg (by omega), if_neg e]; simp
theorem Wt.A_goal (l : Nat) : w.A l (w.n + w.m) = (w.goal l : Rat) := by
  unfold Wt.A Wt.Z
  rw [if_neg (by omega), if_neg (by omega)]
theorem Wt.A_co {l k : Nat} (h : k < w.n) : w.A l k = (w.co l k : Rat) := by
  unfold Wt.A Wt.Z
  rw [if_pos h]
theorem Wt.Ok.goal (o : w.Ok) {l : Nat} (h : l < w.m) : 0 ≤ w.goal l ∧ w.goal l ≤ 1000000 := by
  unfold Wt.goal
  unfold Wt.m at h
  split
  · have := o.f0 l (by omega); omega
  · split
    · have h1 := o.f0 (l - w.W) (by omega)
      have h2 := o.e0 (l - w.W) (by omega)
      refine ⟨Int.mul_nonneg (by omega) (by omega), ?_⟩
      have := Int.mul_le_mul (show w.f (l - w.W) ≤ 1000 by omega) (show w.e (l - w.W) ≤ 1000 by omega) (by omega) (by omega)
      omega
    · have := o.s0 (l - (w.W + w.W)) (by omega); omega
theorem Wt.Ok.good (o : w.Ok) : Good w.m w.n w.A ⟨w.A, fun j => w.n + j⟩ := by
  refine good_start (fun l _ l' h' => Wt.A_help h') fun l h => ?_
  rw [Wt.A_goal]
  have := (o.goal h).1
  exact_mod_cast this
theorem Wt.Ok.size (o : w.Ok) {l k : Nat} (hl : l < w.m) (hk : k ≤ w.n + w.m) : w.A l k = ((w.Z l k : Int) : Rat) ∧ (w.Z l k).natAbs ≤ 1000000 := by
  refine ⟨rfl, ?_⟩
  unfold Wt.Z
  split
  · unfold Wt.co Wt.body
    split
    · rename_i h1
      have hi : k / w.W < w.S := Nat.div_lt_of_lt_mul (by rw [Nat.mul_comm]; exact h1)
      have := o.d0 (k / w.W) hi
      repeat (first | omega | split)
    · split <;> omega
  · split
    · split <;> omega
    · have := o.goal hl
      omega
theorem Wt.Ok.unit (o : w.Ok) : HasUnit w.m w.n w.A := fun l hl => by
  refine ⟨w.S * w.W + l, by unfold Wt.n; omega, fun l' _ => ?_⟩
  rw [Wt.A_co (by unfold Wt.n; omega)]
  unfold Wt.co
  rw [if_neg (by omega)]
  by_cases e : l' = l
  · rw [if_pos (by omega), if_pos e]; simp
  · rw [if_neg (by omega), if_neg e]; simp
/-- the bound of all entries -/
def XB : Nat := 2 ^ 300
theorem XB_ge : 13000000 ^ 12 ≤ XB := by decide +kernel
theorem Wt.Ok.sizes (o : w.Ok) {t : Tb} (g : Good w.m w.n w.A t) {i k : Nat} (hi : i < w.m) (hk : k ≤ w.n + w.m) : Bd XB (t.T i k) := by
  have h := PW.sizes (Z := w.Z) (M := 1000000) (by decide) (fun l hl k hk => o.size hl hk) g hi hk
  have hm : w.m ≤ 12 := by
    have := o.S4
    have := o.W4
    unfold Wt.m
    omega
  have h1 : ((w.m + 1) * 1000000) ^ w.m ≤ XB := by
    have h2 : ((w.m + 1) * 1000000) ^ w.m ≤ 13000000 ^ w.m := Nat.pow_le_pow_left (by omega) _
    have h3 : 13000000 ^ w.m ≤ 13000000 ^ 12 := Nat.pow_le_pow_right (by decide) hm
    exact Nat.le_trans h2 (Nat.le_trans h3 XB_ge)
  exact ⟨Nat.le_trans h.1 h1, Nat.le_trans h.2 h1⟩
theorem Wt.Ok.whole (o : w.Ok) : Whole w.m w.n w.A (fac XB) := whole_of fun s g i hi => o.sizes g hi (Nat.le_refl _)
theorem Wt.cost_int (k : Nat) : ∃ z : Int, w.cost k = (z : Rat) := by
  unfold Wt.cost
  split
  · exact ⟨-1, by simp⟩
  · exact ⟨0, by simp⟩
theorem Wt.cost_le (k : Nat) : w.cost k ≤ 0 := by
  unfold Wt.cost
  split <;> grind
theorem Wt.help_int (k : Nat) : ∃ z : Int, w.help k = (z : Rat) := by
  unfold Wt.help
  split
  · exact ⟨-1, by simp⟩
  · exact ⟨0, by simp⟩
theorem Wt.help_le (k : Nat) : w.help k ≤ 0 := by
  unfold Wt.help
  split <;> grind
/-- a sum over a grid -/
theorem sm_grid (f : Nat → Rat) (W : Nat) : ∀ S : Nat, sm (S * W) f = sm S (fun i => sm W (fun j => f (i * W + j)))
  | 0 => by rw [Nat.zero_mul]; rfl
  | S + 1 => by
    rw [Nat.add_mul, Nat.one_mul, sm_split, sm_grid f W S]
    rfl
theorem grid_ix {W i j : Nat} (h : j < W) : (i * W + j) / W = i ∧ (i * W + j) % W = j := by
  constructor
  · rw [Nat.mul_comm, Nat.mul_add_div (by omega), Nat.div_eq_of_lt h, Nat.add_zero]
  · rw [Nat.mul_comm, Nat.mul_add_mod, Nat.mod_eq_of_lt h]
theorem grid_lt {S W i j : Nat} (hi : i < S) (hj : j < W) : i * W + j < S * W := by
  have h1 : (i + 1) * W ≤ S * W := Nat.mul_le_mul_right W hi
  rw [Nat.add_mul, Nat.one_mul] at h1
  omega
/-- an equation's left side, over the grid and the rest -/
theorem Wt.lhs (l : Nat) (hl : l < w.m) (x : Nat → Rat) : sm w.n (fun k => w.A l k * x k) = sm w.S (fun i => sm w.W (fun j => (w.body l i j : Rat) * x (i * w.W + j))) + x (w.S * w.W + l) := by
  show sm (w.S * w.W + w.m) _ = _
  rw [sm_split, sm_grid]
  congr 1
  · refine sm_congr fun i hi => sm_congr fun j hj => ?_
    have h1 := grid_lt hi hj
    rw [Wt.A_co (by unfold Wt.n; omega)]
    unfold Wt.co
    rw [if_pos h1, (grid_ix hj).1, (grid_ix hj).2]
  · have h1 : ∀ r, r < w.m → w.A l (w.S * w.W + r) = if r = l then 1 else 0 := fun r hr => by
      rw [Wt.A_co (by unfold Wt.n; omega)]
      unfold Wt.co
      rw [if_neg (by omega)]
      by_cases e : r = l
      · rw [if_pos (by omega), if_pos e]; simp
      · rw [if_neg (by omega), if_neg e]; simp
    rw [sm_single (k := l) hl fun r hr e => by rw [h1 r hr, if_neg e]; grind]
    rw [h1 l hl, if_pos rfl]; grind
theorem Wt.body1 {j : Nat} (hj : j < w.W) (x : Nat → Rat) : sm w.S (fun i => sm w.W (fun j' => (w.body j i j' : Rat) * x (i * w.W + j'))) = sm w.S (fun i => x (i * w.W + j)) := by
  refine sm_congr fun i _ => ?_
  have h1 : ∀ j', w.body j i j' = if j' = j then 1 else 0 := fun j' => by unfold Wt.body; rw [if_pos hj]
  rw [sm_single (k := j) hj fun j' _ e => by rw [h1, if_neg e]; simp]
  rw [h1, if_pos rfl]; grind
theorem Wt.body2 {j : Nat} (hj : j < w.W) (x : Nat → Rat) : sm w.S (fun i => sm w.W (fun j' => (w.body (w.W + j) i j' : Rat) * x (i * w.W + j'))) = sm w.S (fun i => (w.d i : Rat) * x (i * w.W + j)) := by
  refine sm_congr fun i _ => ?_
  have h1 : ∀ j', w.body (w.W + j) i j' = if j' = j then w.d i else 0 := fun j' => by
    unfold Wt.body
    rw [if_neg (by omega), if_pos (by omega), show w.W + j - w.W = j by omega]
  rw [sm_single (k := j) hj fun j' _ e => by rw [h1, if_neg e]; simp]
  rw [h1, if_pos rfl]
theorem Wt.body3 {i : Nat} (hi : i < w.S) (x : Nat → Rat) : sm w.S (fun i' => sm w.W (fun j' => (w.body (w.W + w.W + i) i' j' : Rat) * x (i' * w.W + j'))) = sm w.W (fun j => x (i * w.W + j)) := by
  have h1 : ∀ i' j', w.body (w.W + w.W + i) i' j' = if i' = i then 1 else 0 := fun i' j' => by
    unfold Wt.body
    rw [if_neg (by omega), if_neg (by omega), show w.W + w.W + i - (w.W + w.W) = i by omega]
  rw [sm_single (k := i) hi fun i' _ e => sm_zero fun j' _ => by rw [h1, if_neg e]; simp]
  refine sm_congr fun j _ => ?_
  rw [h1, if_pos rfl]; grind
/-- amounts that solve the equations are a plan -/
theorem Wt.feas {x : Nat → Rat} (h : Sol w.m w.n w.A x) : Feas w (fun i j => x (i * w.W + j)) (fun j => x (w.S * w.W + j)) := by
  have pos : ∀ l, l < w.m → 0 ≤ x (w.S * w.W + l) := fun l hl => h.pos _ (by unfold Wt.n; omega)
  refine ⟨fun i hi j hj => h.pos _ (by have := grid_lt hi hj; unfold Wt.n; omega), fun j hj => pos j (by unfold Wt.m; omega), fun j hj => ?_, fun j hj => ?_, fun i hi => ?_⟩
  · have hl : j < w.m := by unfold Wt.m; omega
    have q := h.eqs j hl
    rw [Wt.lhs j hl, Wt.body1 hj, Wt.A_goal] at q
    rw [q]
    unfold Wt.goal
    rw [if_pos hj]
  · have hl : w.W + j < w.m := by unfold Wt.m; omega
    have q := h.eqs (w.W + j) hl
    rw [Wt.lhs _ hl, Wt.body2 hj, Wt.A_goal] at q
    unfold Wt.goal at q
    rw [if_neg (by omega), if_pos (by omega), show w.W + j - w.W = j by omega, Rat.intCast_mul] at q
    have := pos _ hl
    grind
  · have hl : w.W + w.W + i < w.m := by unfold Wt.m; omega
    have q := h.eqs (w.W + w.W + i) hl
    rw [Wt.lhs _ hl, Wt.body3 hi, Wt.A_goal] at q
    unfold Wt.goal at q
    rw [if_neg (by omega), if_neg (by omega), show w.W + w.W + i - (w.W + w.W) = i by omega] at q
    have := pos _ hl
    grind
/-- a plan, as amounts -/
def Wt.of (w : Wt) (x : Nat → Nat → Rat) (y : Nat → Rat) (k : Nat) : Rat :=
  if k < w.S * w.W then x (k / w.W) (k % w.W) else if k < w.S * w.W + w.W then y (k - w.S * w.W)
  else if k < w.S * w.W + w.W + w.W then (w.f (k - w.S * w.W - w.W) : Rat) * (w.e (k - w.S * w.W - w.W) : Rat) - sm w.S (fun i => (w.d i : Rat) * x i (k - w.S * w.W - w.W))
  else (w.s (k - w.S * w.W - w.W - w.W) : Rat) - sm w.W (fun j => x (k - w.S * w.W - w.W - w.W) j)
theorem Wt.of_x {x : Nat → Nat → Rat} {y : Nat → Rat} {i j : Nat} (hi : i < w.S) (hj : j < w.W) : w.of x y (i * w.W + j) = x i j := by
  unfold Wt.of
  rw [if_pos (grid_lt hi hj), (grid_ix hj).1, (grid_ix hj).2]
theorem Wt.of_y {x : Nat → Nat → Rat} {y : Nat → Rat} {j : Nat} (hj : j < w.W) : w.of x y (w.S * w.W + j) = y j := by
  unfold Wt.of
  rw [if_neg (by omega), if_pos (by omega), show w.S * w.W + j - w.S * w.W = j by omega]
theorem Wt.of_d {x : Nat → Nat → Rat} {y : Nat → Rat} {j : Nat} (hj : j < w.W) : w.of x y (w.S * w.W + (w.W + j)) = (w.f j : Rat) * (w.e j : Rat) - sm w.S (fun i => (w.d i : Rat) * x i j) := by
  unfold Wt.of
  rw [if_neg (by omega), if_neg (by omega), if_pos (by omega), show w.S * w.W + (w.W + j) - w.S * w.W - w.W = j by omega]
theorem Wt.of_s {x : Nat → Nat → Rat} {y : Nat → Rat} {i : Nat} : w.of x y (w.S * w.W + (w.W + w.W + i)) = (w.s i : Rat) - sm w.W (fun j => x i j) := by
  unfold Wt.of
  rw [if_neg (by omega), if_neg (by omega), if_neg (by omega), show w.S * w.W + (w.W + w.W + i) - w.S * w.W - w.W - w.W = i by omega]
theorem Wt.sol {x : Nat → Nat → Rat} {y : Nat → Rat} (h : Feas w x y) : Sol w.m w.n w.A (w.of x y) := by
  refine ⟨fun k hk => ?_, fun l hl => ?_⟩
  · unfold Wt.n Wt.m at hk
    by_cases h1 : k < w.S * w.W
    · have hW : 0 < w.W := by
        rcases Nat.eq_zero_or_pos w.W with z | z
        · rw [z, Nat.mul_zero] at h1
          omega
        · exact z
      unfold Wt.of
      rw [if_pos h1]
      exact h.x0 _ (Nat.div_lt_of_lt_mul (by rw [Nat.mul_comm]; exact h1)) _ (Nat.mod_lt _ hW)
    · by_cases h2 : k < w.S * w.W + w.W
      · rw [show k = w.S * w.W + (k - w.S * w.W) by omega, Wt.of_y (by omega)]
        exact h.y0 _ (by omega)
      · by_cases h3 : k < w.S * w.W + w.W + w.W
        · rw [show k = w.S * w.W + (w.W + (k - w.S * w.W - w.W)) by omega, Wt.of_d (by omega)]
          have := h.dirt (k - w.S * w.W - w.W) (by omega)
          grind
        · rw [show k = w.S * w.W + (w.W + w.W + (k - w.S * w.W - w.W - w.W)) by omega, Wt.of_s]
          have := h.cap (k - w.S * w.W - w.W - w.W) (by omega)
          grind
  · rw [Wt.lhs l hl, Wt.A_goal]
    unfold Wt.m at hl
    by_cases h1 : l < w.W
    · rw [Wt.body1 h1, Wt.of_y h1, sm_congr (g := fun i => x i l) fun i hi => Wt.of_x hi h1, h.flow l h1]
      unfold Wt.goal
      rw [if_pos h1]
    · by_cases h2 : l < w.W + w.W
      · obtain ⟨j, rfl⟩ : ∃ j, l = w.W + j := ⟨l - w.W, by omega⟩
        have hj : j < w.W := by omega
        rw [Wt.body2 hj, Wt.of_d hj, sm_congr (g := fun i => (w.d i : Rat) * x i j) fun i hi => by rw [Wt.of_x hi hj]]
        unfold Wt.goal
        rw [if_neg (by omega), if_pos (by omega), show w.W + j - w.W = j by omega, Rat.intCast_mul]; grind
      · obtain ⟨i, rfl⟩ : ∃ i, l = w.W + w.W + i := ⟨l - (w.W + w.W), by omega⟩
        have hi : i < w.S := by omega
        rw [Wt.body3 hi, Wt.of_s, sm_congr (g := fun j => x i j) fun j hj => Wt.of_x hi hj]
        unfold Wt.goal
        rw [if_neg (by omega), if_neg (by omega), show w.W + w.W + i - (w.W + w.W) = i by omega]; grind
theorem Wt.cost_sum (x : Nat → Rat) : sm w.n (fun k => w.cost k * x k) = -(sm w.W (fun j => x (w.S * w.W + j))) := by
  have e : w.n = w.S * w.W + (w.W + (w.W + w.S)) := by unfold Wt.n Wt.m; omega
  rw [e, sm_split, sm_split, sm_zero (n := w.S * w.W), sm_zero (n := w.W + w.S)]
  · have h1 : sm w.W (fun j => w.cost (w.S * w.W + j) * x (w.S * w.W + j)) = sm w.W (fun j => (-1) * x (w.S * w.W + j)) := sm_congr fun j hj => by
      unfold Wt.cost
      rw [if_pos (by omega)]
    rw [h1, sm_mul]; grind
  · intro i hi
    unfold Wt.cost
    rw [if_neg (by omega)]; grind
  · intro i hi
    unfold Wt.cost
    rw [if_neg (by omega)]; grind
/-- THE ANSWER: at the end of the second climb -/
theorem Wt.least {t : Tb} (g : Good w.m w.n w.A t) (ht : PW.Top w.m w.n w.cost t) (hb : ∀ j, j < w.m → t.B j < w.n) : IsLeast w (sm w.W (fun j => amt w.m w.n t (w.S * w.W + j))) := by
  refine ⟨⟨_, _, Wt.feas (amt_sol g hb), rfl⟩, fun x y h => ?_⟩
  have h1 := optimal g ht (Wt.sol h)
  rw [← amt_val hb, Wt.cost_sum, Wt.cost_sum, sm_congr (g := y) fun j hj => Wt.of_y hj] at h1
  grind
/-- there is a plan: all fresh -/
theorem Wt.Ok.fresh (o : w.Ok) : Feas w (fun _ _ => 0) (fun j => (w.f j : Rat)) := by
  refine ⟨fun _ _ _ _ => Rat.le_refl, fun j hj => ?_, fun j hj => ?_, fun j hj => ?_, fun i hi => ?_⟩
  · have := (o.f0 j hj).1
    have h2 : (0 : Int) ≤ w.f j := by omega
    exact_mod_cast h2
  · rw [sm_zero fun _ _ => rfl]; grind
  · rw [sm_zero fun _ _ => by grind]
    have h1 := (o.f0 j hj).1
    have h2 := (o.e0 j hj).1
    have h3 : (0 : Int) ≤ w.f j * w.e j := Int.mul_nonneg (by omega) h2
    rw [← Rat.intCast_mul]
    exact_mod_cast h3
  · rw [sm_zero fun _ _ => rfl]
    have h1 := (o.s0 i hi).1
    have h2 : (0 : Int) ≤ w.s i := by omega
    exact_mod_cast h2
/-- at the end of the first climb the helping ones are 0 -/
theorem Wt.Ok.phase1 (o : w.Ok) {t : Tb} (g : Good w.m w.n w.A t) (ht : PW.Top w.m w.n w.help t) : lin w.m w.help t (w.n + w.m) = 0 ∧ ∀ j, j < w.m → w.n ≤ t.B j → t.T j (w.n + w.m) = 0 := by
  have h1 := optimal g ht (Wt.sol o.fresh)
  rw [sm_zero fun k hk => by unfold Wt.help; rw [if_neg (by omega)]; grind] at h1
  have h2 : ∀ j, j < w.m → 0 ≤ -(w.help (t.B j) * t.T j (w.n + w.m)) := fun j hj => by
    have := Rat.mul_nonneg (show 0 ≤ -(w.help (t.B j)) by have := Wt.help_le (w := w) (t.B j); grind) (g.pos j hj)
    grind
  have h3 : sm w.m (fun j => -(w.help (t.B j) * t.T j (w.n + w.m))) = -(lin w.m w.help t (w.n + w.m)) := by
    unfold lin
    have := sm_mul (-1) (fun j => w.help (t.B j) * t.T j (w.n + w.m)) w.m
    rw [sm_congr (g := fun j => (-1) * (w.help (t.B j) * t.T j (w.n + w.m))) fun j _ => by grind, this]; grind
  have h4 := sm_nonneg h2
  rw [h3] at h4
  have h5 : lin w.m w.help t (w.n + w.m) = 0 := by grind
  refine ⟨h5, fun j hj hb => ?_⟩
  have h6 := sm_term h2 hj
  rw [h3, h5] at h6
  have h7 := h2 j hj
  have h8 : w.help (t.B j) = -1 := by
    unfold Wt.help
    rw [if_pos hb]
  rw [h8] at h6 h7
  grind
end
end PW
namespace PW
/-! ### one sink: cleaner sources first -/
/-- u units in all, with v dirt in all, out of pairs (dirt, flow) -/
def Use : List (Int × Int) → Rat → Rat → Prop
  | [], u, v => u = 0 ∧ v = 0
  | p :: l, u, v => ∃ x : Rat, 0 ≤ x ∧ x ≤ (p.2 : Rat) ∧ Use l (u - x) (v - (p.1 : Rat) * x)
theorem Use.scale {θ : Rat} (h0 : 0 ≤ θ) (h1 : θ ≤ 1) : ∀ {l : List (Int × Int)} {u v : Rat}, Use l u v → Use l (θ * u) (θ * v)
  | [], u, v, h => by
    obtain ⟨a, b⟩ := h
    rw [a, b]
    exact ⟨by grind, by grind⟩
  | p :: l, u, v, ⟨x, hx0, hx1, h⟩ => by
    refine ⟨θ * x, Rat.mul_nonneg h0 hx0, ?_, ?_⟩
    · have := Rat.mul_nonneg (show 0 ≤ 1 - θ by grind) hx0
      grind
    · have := Use.scale h0 h1 h
      rw [show θ * u - θ * x = θ * (u - x) by grind, show θ * v - (p.1 : Rat) * (θ * x) = θ * (v - (p.1 : Rat) * x) by grind]
      exact this
theorem Use.low {d : Rat} : ∀ {l : List (Int × Int)} {u v : Rat}, (∀ p ∈ l, d ≤ (p.1 : Rat)) → Use l u v → 0 ≤ u ∧ d * u ≤ v
  | [], u, v, _, h => by
    obtain ⟨a, b⟩ := h
    rw [a, b]
    exact ⟨Rat.le_refl, by grind⟩
  | p :: l, u, v, hd, ⟨x, hx0, hx1, h⟩ => by
    obtain ⟨h1, h2⟩ := Use.low (fun q hq => hd q (List.mem_cons_of_mem _ hq)) h
    have h3 := hd p List.mem_cons_self
    have h4 := Rat.mul_nonneg (show 0 ≤ (p.1 : Rat) - d by grind) hx0
    exact ⟨by grind, by grind⟩
theorem Use.less {d ε : Rat} {l : List (Int × Int)} {u v : Rat} (hd : ∀ p ∈ l, d ≤ (p.1 : Rat)) (h : Use l u v) (h0 : 0 ≤ ε) (h1 : ε ≤ u) : ∃ v', Use l (u - ε) v' ∧ v' ≤ v - d * ε := by
  obtain ⟨hu, hv⟩ := h.low hd
  by_cases e : u = 0
  · have e2 : ε = 0 := by grind
    refine ⟨v, ?_, by rw [e2]; grind⟩
    rw [e2, show u - 0 = u by grind]
    exact h
  · have hpos : 0 < u := by grind
    have hi : 0 < u⁻¹ := Rat.inv_pos.mpr hpos
    have t0 : 0 ≤ (u - ε) * u⁻¹ := Rat.mul_nonneg (by grind) (Rat.le_of_lt hi)
    have t1 : 0 ≤ ε * u⁻¹ := Rat.mul_nonneg h0 (Rat.le_of_lt hi)
    have t2 : u * u⁻¹ = 1 := Rat.mul_inv_cancel u e
    refine ⟨(u - ε) * u⁻¹ * v, ?_, ?_⟩
    · have := h.scale t0 (by grind)
      rw [show (u - ε) * u⁻¹ * u = u - ε by grind] at this
      exact this
    · have h3 : 0 ≤ (ε * u⁻¹) * (v - d * u) := Rat.mul_nonneg t1 (by grind)
      have h4 : (ε * u⁻¹) * (v - d * u) = ε * u⁻¹ * v - d * ε := by grind
      have h5 : (u - ε) * u⁻¹ * v = v - ε * u⁻¹ * v := by grind
      rw [h5]
      grind
/-- the part of the next source -/
def part (p : Int × Int) (R D : Rat) : Rat :=
  let q : Rat := if R < (p.2 : Rat) then R else (p.2 : Rat)
  if 0 < p.1 then (if D * (1 / (p.1 : Rat)) < q then D * (1 / (p.1 : Rat)) else q) else q
def alone : List (Int × Int) → Rat → Rat → Rat
  | [], R, _ => R
  | p :: l, R, D => alone l (R - part p R D) (D - (p.1 : Rat) * part p R D)
theorem part_ok {p : Int × Int} {R D : Rat} (hp : 0 ≤ p.1 ∧ 0 ≤ p.2) (hR : 0 ≤ R) (hD : 0 ≤ D) :
    0 ≤ part p R D ∧ part p R D ≤ R ∧ part p R D ≤ (p.2 : Rat) ∧ (p.1 : Rat) * part p R D ≤ D ∧
      ∀ x : Rat, x ≤ R → x ≤ (p.2 : Rat) → (p.1 : Rat) * x ≤ D → x ≤ part p R D := by
  have hs : (0 : Rat) ≤ (p.2 : Rat) := by exact_mod_cast hp.2
  unfold part
  by_cases hd : 0 < p.1
  · have hd' : (0 : Rat) < (p.1 : Rat) := by exact_mod_cast hd
    have hi : 0 < (p.1 : Rat)⁻¹ := Rat.inv_pos.mpr hd'
    have hc : (p.1 : Rat) * (p.1 : Rat)⁻¹ = 1 := Rat.mul_inv_cancel _ (by grind)
    have e1 : D * (1 / (p.1 : Rat)) = D * (p.1 : Rat)⁻¹ := by grind
    have h0 : 0 ≤ D * (p.1 : Rat)⁻¹ := Rat.mul_nonneg hD (Rat.le_of_lt hi)
    have hm : ∀ q : Rat, q ≤ D * (p.1 : Rat)⁻¹ → (p.1 : Rat) * q ≤ D := fun q hq => by
      have := Rat.mul_le_mul_of_nonneg_left hq (Rat.le_of_lt hd')
      have h9 : (p.1 : Rat) * (D * (p.1 : Rat)⁻¹) = D := by
        rw [show (p.1 : Rat) * (D * (p.1 : Rat)⁻¹) = D * ((p.1 : Rat) * (p.1 : Rat)⁻¹) by grind, hc]; grind
      rw [h9] at this
      exact this
    have hm2 : ∀ x : Rat, (p.1 : Rat) * x ≤ D → x ≤ D * (p.1 : Rat)⁻¹ := fun x hx => by
      have := Rat.mul_le_mul_of_nonneg_right hx (Rat.le_of_lt hi)
      have h9 : (p.1 : Rat) * x * (p.1 : Rat)⁻¹ = x := by
        rw [show (p.1 : Rat) * x * (p.1 : Rat)⁻¹ = x * ((p.1 : Rat) * (p.1 : Rat)⁻¹) by grind, hc]; grind
      rw [h9] at this
      exact this
    simp only [if_pos hd, e1]
    split
    · split
      · rename_i a b
        exact ⟨h0, by grind, by grind, hm _ Rat.le_refl, fun x _ _ h => hm2 x h⟩
      · rename_i a b
        exact ⟨hR, Rat.le_refl, by grind, hm _ (by grind), fun x h _ _ => h⟩
    · split
      · rename_i a b
        exact ⟨h0, by grind, by grind, hm _ Rat.le_refl, fun x _ _ h => hm2 x h⟩
      · rename_i a b
        exact ⟨hs, by grind, Rat.le_refl, hm _ (by grind), fun x _ h _ => h⟩
  · have e : p.1 = 0 := by omega
    have e' : (p.1 : Rat) = 0 := by rw [e]; simp
    simp only [if_neg hd, e']
    split
    · exact ⟨hR, Rat.le_refl, by grind, by grind, fun x h _ _ => h⟩
    · exact ⟨hs, by grind, Rat.le_refl, by grind, fun x _ h _ => h⟩
theorem alone_le : ∀ {l : List (Int × Int)} {R D : Rat}, (∀ p ∈ l, 0 ≤ p.1 ∧ 0 ≤ p.2) → 0 ≤ R → 0 ≤ D → 0 ≤ alone l R D ∧ alone l R D ≤ R
  | [], R, D, _, hR, _ => ⟨hR, Rat.le_refl⟩
  | p :: l, R, D, h, hR, hD => by
    obtain ⟨a, b, c, d, _⟩ := part_ok (h p List.mem_cons_self) hR hD
    obtain ⟨x, y⟩ := alone_le (l := l) (R := R - part p R D) (D := D - (p.1 : Rat) * part p R D) (fun q hq => h q (List.mem_cons_of_mem _ hq)) (by grind) (by grind)
    show 0 ≤ alone l (R - part p R D) (D - (p.1 : Rat) * part p R D) ∧ alone l (R - part p R D) (D - (p.1 : Rat) * part p R D) ≤ R
    exact ⟨x, by grind⟩
theorem alone_use : ∀ {l : List (Int × Int)} {R D : Rat}, (∀ p ∈ l, 0 ≤ p.1 ∧ 0 ≤ p.2) → 0 ≤ R → 0 ≤ D → ∃ v, Use l (R - alone l R D) v ∧ v ≤ D
  | [], R, D, _, hR, hD => ⟨0, ⟨by show R - R = 0; grind, rfl⟩, hD⟩
  | p :: l, R, D, h, hR, hD => by
    obtain ⟨a, b, c, d, _⟩ := part_ok (h p List.mem_cons_self) hR hD
    obtain ⟨v, h1, h2⟩ := alone_use (l := l) (R := R - part p R D) (D := D - (p.1 : Rat) * part p R D) (fun q hq => h q (List.mem_cons_of_mem _ hq)) (by grind) (by grind)
    refine ⟨v + (p.1 : Rat) * part p R D, ⟨part p R D, a, c, ?_⟩, by grind⟩
    show Use l (R - alone l (R - part p R D) (D - (p.1 : Rat) * part p R D) - part p R D) (v + (p.1 : Rat) * part p R D - (p.1 : Rat) * part p R D)
    rw [show R - alone l (R - part p R D) (D - (p.1 : Rat) * part p R D) - part p R D = R - part p R D - alone l (R - part p R D) (D - (p.1 : Rat) * part p R D) by grind,
      show v + (p.1 : Rat) * part p R D - (p.1 : Rat) * part p R D = v by grind]
    exact h1
theorem alone_best : ∀ {l : List (Int × Int)} {R D u v : Rat}, (∀ p ∈ l, 0 ≤ p.1 ∧ 0 ≤ p.2) → l.Pairwise (fun a b => a.1 ≤ b.1) → 0 ≤ R → 0 ≤ D → Use l u v → u ≤ R → v ≤ D → u ≤ R - alone l R D
  | [], R, D, u, v, _, _, hR, hD, h, h1, h2 => by
    show u ≤ R - R
    rw [h.1]
    grind
  | p :: l, R, D, u, v, h, hs, hR, hD, ⟨x, hx0, hx1, hu⟩, h1, h2 => by
    have hp := h p List.mem_cons_self
    have hl : ∀ q ∈ l, 0 ≤ q.1 ∧ 0 ≤ q.2 := fun q hq => h q (List.mem_cons_of_mem _ hq)
    obtain ⟨a, b, c, d, best⟩ := part_ok hp hR hD
    have hs1 : ∀ q ∈ l, (p.1 : Rat) ≤ (q.1 : Rat) := fun q hq => by
      have := List.rel_of_pairwise_cons hs hq
      exact_mod_cast this
    obtain ⟨hu0, hv0⟩ := hu.low hs1
    have hd0 : (0 : Rat) ≤ (p.1 : Rat) := by exact_mod_cast hp.1
    have hmul := Rat.mul_nonneg hd0 hu0
    have hx : x ≤ part p R D := best x (by grind) hx1 (by grind)
    obtain ⟨al0, al1⟩ := alone_le (l := l) (R := R - part p R D) (D := D - (p.1 : Rat) * part p R D) hl (by grind) (by grind)
    show u ≤ R - alone l (R - part p R D) (D - (p.1 : Rat) * part p R D)
    by_cases hε : part p R D - x ≤ u - x
    · obtain ⟨v', q1, q2⟩ := hu.less hs1 (ε := part p R D - x) (by grind) hε
      have := alone_best (l := l) (R := R - part p R D) (D := D - (p.1 : Rat) * part p R D) hl hs.of_cons (by grind) (by grind) q1 (by grind) (by grind)
      grind
    · grind
theorem Use.perm : ∀ {l l' : List (Int × Int)}, l.Perm l' → ∀ {u v : Rat}, Use l u v → Use l' u v := by
  intro l l' h
  induction h with
  | nil => exact fun h => h
  | cons p _ ih => exact fun ⟨x, a, b, c⟩ => ⟨x, a, b, ih c⟩
  | swap p q l =>
    intro u v ⟨x, a, b, y, c, d, e⟩
    refine ⟨y, c, d, x, a, b, ?_⟩
    rw [show u - y - x = u - x - y by grind, show v - (p.1 : Rat) * y - (q.1 : Rat) * x = v - (q.1 : Rat) * x - (p.1 : Rat) * y by grind]
    exact e
  | trans _ _ ih1 ih2 => exact fun h => ih2 (ih1 h)
/-- the sources as pairs (dirt, flow) -/
def prs (w : Wt) (S : Nat) : List (Int × Int) := (List.range S).map fun i => (w.d i, w.s i)
theorem prs_succ (w : Wt) (S : Nat) : (prs w (S + 1)).Perm ((w.d S, w.s S) :: prs w S) := by
  unfold prs
  rw [List.range_succ, List.map_append]
  exact List.perm_append_comm
theorem use_of {w : Wt} : ∀ {S : Nat} {x : Nat → Rat}, (∀ i, i < S → 0 ≤ x i ∧ x i ≤ (w.s i : Rat)) → Use (prs w S) (sm S x) (sm S (fun i => (w.d i : Rat) * x i))
  | 0, x, _ => ⟨rfl, rfl⟩
  | S + 1, x, h => by
    refine Use.perm (prs_succ w S).symm ⟨x S, (h S (by omega)).1, (h S (by omega)).2, ?_⟩
    have := use_of (S := S) (x := x) fun i hi => h i (by omega)
    show Use (prs w S) (sm S x + x S - x S) (sm S (fun i => (w.d i : Rat) * x i) + (w.d S : Rat) * x S - (w.d S : Rat) * x S)
    rw [show sm S x + x S - x S = sm S x by grind, show sm S (fun i => (w.d i : Rat) * x i) + (w.d S : Rat) * x S - (w.d S : Rat) * x S = sm S (fun i => (w.d i : Rat) * x i) by grind]
    exact this
theorem of_use {w : Wt} : ∀ {S : Nat} {u v : Rat}, Use (prs w S) u v → ∃ x : Nat → Rat, (∀ i, i < S → 0 ≤ x i ∧ x i ≤ (w.s i : Rat)) ∧ sm S x = u ∧ sm S (fun i => (w.d i : Rat) * x i) = v
  | 0, u, v, h => ⟨fun _ => 0, fun i hi => by omega, h.1.symm, h.2.symm⟩
  | S + 1, u, v, h => by
    obtain ⟨y, h0, h1, h2⟩ := Use.perm (prs_succ w S) h
    obtain ⟨x, q1, q2, q3⟩ := of_use h2
    refine ⟨fun i => if i = S then y else x i, fun i hi => ?_, ?_, ?_⟩
    · show 0 ≤ (if i = S then y else x i) ∧ (if i = S then y else x i) ≤ _
      split
      · rename_i e
        rw [e]
        exact ⟨h0, h1⟩
      · exact q1 i (by omega)
    · show sm S _ + (if S = S then y else x S) = u
      rw [if_pos rfl, sm_congr (g := x) fun i hi => if_neg (by omega), q2]
      grind
    · show sm S _ + (w.d S : Rat) * (if S = S then y else x S) = v
      rw [if_pos rfl, sm_congr (g := fun i => (w.d i : Rat) * x i) fun i hi => by show (w.d i : Rat) * (if i = S then y else x i) = _; rw [if_neg (by omega)], q3]
      show v - (w.d S : Rat) * y + (w.d S : Rat) * y = v
      grind
/-- THE LEAST FRESH FLOW OF ONE SINK -/
theorem alone_least {w : Wt} (o : w.Ok) (h1 : w.W = 1) {l : List (Int × Int)} (hp : l.Perm (prs w w.S)) (hs : l.Pairwise (fun a b => a.1 ≤ b.1)) : IsLeast w (alone l (w.f 0 : Rat) ((w.f 0 : Rat) * (w.e 0 : Rat))) := by
  have hl : ∀ p ∈ l, 0 ≤ p.1 ∧ 0 ≤ p.2 := fun p hpl => by
    have := hp.mem_iff.mp hpl
    unfold prs at this
    obtain ⟨i, hi, rfl⟩ := List.mem_map.mp this
    have hi' := List.mem_range.mp hi
    have a := o.d0 i hi'
    have b := o.s0 i hi'
    exact ⟨a.1, by show 0 ≤ w.s i; omega⟩
  have hf := o.f0 0 (by omega)
  have he := o.e0 0 (by omega)
  have hR : (0 : Rat) ≤ (w.f 0 : Rat) := by
    have : (0 : Int) ≤ w.f 0 := by omega
    exact_mod_cast this
  have hE : (0 : Rat) ≤ (w.e 0 : Rat) := by exact_mod_cast he.1
  have hD := Rat.mul_nonneg hR hE
  obtain ⟨al0, al1⟩ := alone_le hl hR hD
  refine ⟨?_, fun x y h => ?_⟩
  · obtain ⟨v, q1, q2⟩ := alone_use hl hR hD
    obtain ⟨x, a, b, c⟩ := of_use (Use.perm hp q1)
    refine ⟨fun i _ => x i, fun _ => alone l (w.f 0 : Rat) ((w.f 0 : Rat) * (w.e 0 : Rat)), ⟨fun i hi _ _ => (a i hi).1, fun _ _ => al0, fun j hj => ?_, fun j hj => ?_, fun i hi => ?_⟩, ?_⟩
    · have e : j = 0 := by omega
      subst e
      rw [b]; grind
    · have e : j = 0 := by omega
      subst e
      rw [c]; exact q2
    · rw [h1]
      show (0 : Rat) + x i ≤ _
      have := (a i hi).2
      grind
    · rw [h1]
      show (0 : Rat) + _ = _
      grind
  · have e0 : (0 : Nat) < w.W := by omega
    have u := use_of (w := w) (S := w.S) (x := fun i => x i 0) fun i hi => ⟨h.x0 i hi 0 e0, by
      have := h.cap i hi
      rw [h1] at this
      have this : (0 : Rat) + x i 0 ≤ (w.s i : Rat) := this
      grind⟩
    have q1 := h.flow 0 e0
    have q2 := h.dirt 0 e0
    have q3 := h.y0 0 e0
    have := alone_best hl hs hR hD (Use.perm hp.symm u) (by grind) q2
    rw [h1]
    show _ ≤ (0 : Rat) + y 0
    grind
/-! ### more and cleaner sources, dirtier sinks -/
theorem IsLeast.le {w w' : Wt} {v v' : Rat} (h : IsLeast w v) (h' : IsLeast w' v') (q : ∀ x y, Feas w x y → ∃ x' y', Feas w' x' y' ∧ sm w'.W y' ≤ sm w.W y) : v' ≤ v := by
  obtain ⟨⟨x, y, a, b⟩, _⟩ := h
  obtain ⟨x', y', c, d⟩ := q x y a
  have := h'.2 x' y' c
  grind
theorem least_cleaner {w w' : Wt} {v v' : Rat} (h : IsLeast w v) (h' : IsLeast w' v') (eS : w'.S = w.S) (eW : w'.W = w.W) (es : ∀ i, i < w.S → w'.s i = w.s i) (ed : ∀ i, i < w.S → w'.d i ≤ w.d i) (ef : ∀ j, j < w.W → w'.f j = w.f j)
    (ee : ∀ j, j < w.W → 0 ≤ w.f j ∧ w.e j ≤ w'.e j) : v' ≤ v := by
  refine h.le h' fun x y F => ⟨x, y, ⟨fun i hi j hj => F.x0 i (by omega) j (by omega), fun j hj => F.y0 j (by omega), fun j hj => ?_, fun j hj => ?_, fun i hi => ?_⟩, by rw [eW]; exact Rat.le_refl⟩
  · rw [eS, F.flow j (by omega), ef j (by omega)]
  · rw [eW] at hj
    rw [eS, ef j hj]
    have h1 := F.dirt j hj
    have h2 : sm w.S (fun i => (w'.d i : Rat) * x i j) ≤ sm w.S (fun i => (w.d i : Rat) * x i j) := sm_le fun i hi => Rat.mul_le_mul_of_nonneg_right (by exact_mod_cast ed i hi) (F.x0 i hi j hj)
    have h3 : (w.f j : Rat) * (w.e j : Rat) ≤ (w.f j : Rat) * (w'.e j : Rat) := Rat.mul_le_mul_of_nonneg_left (by exact_mod_cast (ee j hj).2) (by exact_mod_cast (ee j hj).1)
    grind
  · rw [eS] at hi
    rw [eW, es i hi]
    exact F.cap i hi
theorem least_more {w w' : Wt} {v v' : Rat} (h : IsLeast w v) (h' : IsLeast w' v') (eS : w'.S = w.S + 1) (eW : w'.W = w.W) (es : ∀ i, i < w.S → w'.s i = w.s i ∧ w'.d i = w.d i) (e0 : 0 ≤ w'.s w.S) (ef : ∀ j, j < w.W → w'.f j = w.f j ∧ w'.e j = w.e j) : v' ≤ v := by
  refine h.le h' fun x y F => ⟨fun i j => if i < w.S then x i j else 0, y, ⟨fun i hi j hj => ?_, fun j hj => F.y0 j (by omega), fun j hj => ?_, fun j hj => ?_, fun i hi => ?_⟩, by rw [eW]; exact Rat.le_refl⟩
  · show 0 ≤ if i < w.S then x i j else 0
    split
    · exact F.x0 i (by omega) j (by omega)
    · exact Rat.le_refl
  · rw [eW] at hj
    rw [eS]
    show sm w.S _ + (if w.S < w.S then x w.S j else 0) + y j = _
    rw [if_neg (by omega), sm_congr (g := fun i => x i j) fun i hi => if_pos hi, (ef j hj).1, ← F.flow j hj]
    grind
  · rw [eW] at hj
    rw [eS]
    show sm w.S _ + (w'.d w.S : Rat) * (if w.S < w.S then x w.S j else 0) ≤ _
    rw [if_neg (by omega), sm_congr (g := fun i => (w.d i : Rat) * x i j) fun i hi => by rw [if_pos hi, (es i hi).2], (ef j hj).1, (ef j hj).2]
    have := F.dirt j hj
    grind
  · rw [eW]
    by_cases hi' : i < w.S
    · rw [sm_congr (g := fun j => x i j) fun j _ => if_pos hi', (es i hi').1]
      exact F.cap i hi'
    · rw [sm_zero fun j _ => if_neg hi']
      have : i = w.S := by omega
      rw [this]
      exact_mod_cast e0
/-- one sink of them -/
def Wt.one (w : Wt) (j : Nat) : Wt := { w with W := 1, f := fun _ => w.f j, e := fun _ => w.e j }
theorem least_parts {w : Wt} {v : Rat} {u : Nat → Rat} (h : IsLeast w v) (hu : ∀ j, j < w.W → IsLeast (w.one j) (u j)) : sm w.W u ≤ v := by
  obtain ⟨⟨x, y, F, e⟩, _⟩ := h
  rw [← e]
  refine sm_le fun j hj => ?_
  have := (hu j hj).2 (fun i _ => x i j) (fun _ => y j) ⟨fun i hi _ _ => F.x0 i hi j hj, fun _ _ => F.y0 j hj, fun _ _ => F.flow j hj, fun _ _ => F.dirt j hj, fun i hi => by
    have h1 := sm_term (f := fun j => x i j) (fun j' hj' => F.x0 i hi j' hj') hj
    have h2 := F.cap i hi
    show (0 : Rat) + x i j ≤ (w.s i : Rat)
    grind⟩
  have this : u j ≤ (0 : Rat) + y j := this
  grind
theorem least_flows {w : Wt} (o : w.Ok) {v : Rat} (h : IsLeast w v) : v ≤ sm w.W (fun j => (w.f j : Rat)) := h.2 _ _ o.fresh
end PW
namespace PW
theorem rat_div_pos {t b : Int} (hb : 0 < b) : ((t : Rat) / (b : Rat)).num = t / ((t.natAbs.gcd b.natAbs : Nat) : Int) ∧ ((t : Rat) / (b : Rat)).den = b.natAbs / t.natAbs.gcd b.natAbs := by
  have h1 : (t : Rat) / (b : Rat) = mkRat t b.natAbs := by
    rw [Rat.mkRat_eq_div, ← Rat.intCast_natCast]
    congr 2
    omega
  have hz : b.natAbs ≠ 0 := by omega
  rw [h1, ← Rat.normalize_eq_mkRat hz]
  exact ⟨Rat.num_normalize hz, Rat.den_normalize hz⟩
theorem fdiv_neg_neg {t g : Int} (hg : 0 < g) : t.fdiv (-g) = (-t) / g := by
  have h1 : t.fdiv (-g) = (-t).fdiv g := by
    have := Int.neg_fdiv_neg (-t) g
    rw [Int.neg_neg] at this
    exact this
  rw [h1, Int.fdiv_eq_ediv_of_nonneg _ (by omega)]
/-- what the program's ratio reckons -/
theorem ratio_val {t b : Int} (hb : b ≠ 0) {c : Int} (hc : c = if 0 < b then ((t.natAbs.gcd b.natAbs : Nat) : Int) else 0 - ((t.natAbs.gcd b.natAbs : Nat) : Int)) :
    c ≠ 0 ∧ c.natAbs ≤ b.natAbs ∧ t.fdiv c = ((t : Rat) / (b : Rat)).num ∧ b.fdiv c = ((((t : Rat) / (b : Rat)).den : Nat) : Int) := by
  have hg : 0 < t.natAbs.gcd b.natAbs := Nat.gcd_pos_of_pos_right _ (by omega)
  have hle : t.natAbs.gcd b.natAbs ≤ b.natAbs := Nat.gcd_le_right _ (by omega)
  by_cases h : 0 < b
  · rw [if_pos h] at hc
    obtain ⟨h1, h2⟩ := rat_div_pos (t := t) h
    refine ⟨by omega, by omega, ?_, ?_⟩
    · rw [hc, Int.fdiv_eq_ediv_of_nonneg _ (by omega), h1]
    · rw [hc, Int.fdiv_eq_ediv_of_nonneg _ (by omega), h2, Int.natCast_ediv]
      congr 1
      omega
  · rw [if_neg h] at hc
    have e : (t : Rat) / (b : Rat) = (((-t : Int) : Rat)) / (((-b : Int) : Rat)) := by
      rw [Rat.intCast_neg, Rat.intCast_neg]
      have : (b : Rat) ≠ 0 := by exact_mod_cast hb
      grind
    obtain ⟨h1, h2⟩ := rat_div_pos (t := -t) (b := -b) (by omega)
    rw [Int.natAbs_neg, Int.natAbs_neg] at h1 h2
    rw [Int.zero_sub] at hc
    refine ⟨by omega, by omega, ?_, ?_⟩
    · rw [hc, fdiv_neg_neg (by omega), e, h1]
    · rw [hc, fdiv_neg_neg (by omega), e, h2, Int.natCast_ediv]
      congr 1
      omega
/-! ### sizes of what is reckoned -/
/-- a ratio whose numbers are below 2 ^ k -/
def Bk (k : Nat) (r : Rat) : Prop := r.num.natAbs < 2 ^ k ∧ r.den < 2 ^ k
theorem Bk.mono {k l : Nat} {r : Rat} (h : Bk k r) (hl : k ≤ l) : Bk l r := by
  have := Nat.pow_le_pow_right (show 0 < 2 by decide) hl
  exact ⟨Nat.lt_of_lt_of_le h.1 this, Nat.lt_of_lt_of_le h.2 this⟩
theorem natAbs_mul_lt {x y : Int} {a b : Nat} (hx : x.natAbs < 2 ^ a) (hy : y.natAbs < 2 ^ b) : (x * y).natAbs < 2 ^ (a + b) := by
  rw [Int.natAbs_mul, Nat.pow_add]
  exact Nat.mul_lt_mul'' hx hy
theorem natAbs_add_lt {x y : Int} {a : Nat} (hx : x.natAbs < 2 ^ a) (hy : y.natAbs < 2 ^ a) : (x + y).natAbs < 2 ^ (a + 1) := by
  have := Int.natAbs_add_le x y
  rw [Nat.pow_succ]
  omega
theorem natAbs_sub_lt {x y : Int} {a : Nat} (hx : x.natAbs < 2 ^ a) (hy : y.natAbs < 2 ^ a) : (x - y).natAbs < 2 ^ (a + 1) := by
  rw [Nat.pow_succ]
  omega
/-- a quotient of numbers below 2 ^ k -/
theorem Bk.div {t b : Int} {k : Nat} (hb : b ≠ 0) (ht : t.natAbs < 2 ^ k) (hb2 : b.natAbs < 2 ^ k) : Bk k ((t : Rat) / (b : Rat)) := by
  have hpos : 0 < 2 ^ k := Nat.pow_pos (by decide)
  have h := low_terms (r := (t : Rat) / (b : Rat)) (y := t) (t := b) hb (by
    have : (b : Rat) ≠ 0 := by exact_mod_cast hb
    grind) (X := 2 ^ k - 1) (by omega) (by omega)
  exact ⟨by have := h.1; omega, by have := h.2; omega⟩
theorem den_int (r : Rat) : ((r.den : Int) : Rat) ≠ 0 := by
  have := r.den_nz
  have h : (r.den : Int) ≠ 0 := by omega
  exact_mod_cast h
theorem rat_eqI (r : Rat) : r = (r.num : Rat) / ((r.den : Int) : Rat) := by
  rw [Rat.intCast_natCast]
  exact rat_eq r
/-- top and bottom of a sum, a difference, a product, a quotient, as the program reckons them -/
theorem plus_eq (x y : Rat) : ((x.num * (y.den : Int) + y.num * (x.den : Int) : Int) : Rat) / (((x.den : Int) * (y.den : Int) : Int) : Rat) = x + y := by
  have h1 := den_int x
  have h2 := den_int y
  have h3 := rat_eqI x
  have h4 := rat_eqI y
  rw [Rat.intCast_add, Rat.intCast_mul, Rat.intCast_mul, Rat.intCast_mul]
  generalize (x.num : Rat) = a at *
  generalize ((x.den : Int) : Rat) = b at *
  generalize (y.num : Rat) = c at *
  generalize ((y.den : Int) : Rat) = d at *
  rw [h3, h4]
  grind
theorem minus_eq (x y : Rat) : ((x.num * (y.den : Int) - y.num * (x.den : Int) : Int) : Rat) / (((x.den : Int) * (y.den : Int) : Int) : Rat) = x - y := by
  have h1 := den_int x
  have h2 := den_int y
  have h3 := rat_eqI x
  have h4 := rat_eqI y
  rw [Rat.intCast_sub, Rat.intCast_mul, Rat.intCast_mul, Rat.intCast_mul]
  generalize (x.num : Rat) = a at *
  generalize ((x.den : Int) : Rat) = b at *
  generalize (y.num : Rat) = c at *
  generalize ((y.den : Int) : Rat) = d at *
  rw [h3, h4]
  grind
theorem by_eq (x y : Rat) : ((x.num * y.num : Int) : Rat) / (((x.den : Int) * (y.den : Int) : Int) : Rat) = x * y := by
  have h1 := den_int x
  have h2 := den_int y
  have h3 := rat_eqI x
  have h4 := rat_eqI y
  rw [Rat.intCast_mul, Rat.intCast_mul]
  generalize (x.num : Rat) = a at *
  generalize ((x.den : Int) : Rat) = b at *
  generalize (y.num : Rat) = c at *
  generalize ((y.den : Int) : Rat) = d at *
  rw [h3, h4]
  grind
theorem num_ne {y : Rat} (hy : y ≠ 0) : y.num ≠ 0 := fun h => hy (Rat.num_eq_zero.mp h)
theorem over_eq (x y : Rat) (hy : y ≠ 0) : ((x.num * (y.den : Int) : Int) : Rat) / (((x.den : Int) * y.num : Int) : Rat) = x / y := by
  have h1 := den_int x
  have h2 := den_int y
  have h3 := rat_eqI x
  have h4 := rat_eqI y
  have h5 : (y.num : Rat) ≠ 0 := by
    have := num_ne hy
    exact_mod_cast this
  rw [Rat.intCast_mul, Rat.intCast_mul]
  generalize (x.num : Rat) = a at *
  generalize ((x.den : Int) : Rat) = b at *
  generalize (y.num : Rat) = c at *
  generalize ((y.den : Int) : Rat) = d at *
  rw [h3, h4]
  grind
theorem Bk.add {a b : Nat} {x y : Rat} (hx : Bk a x) (hy : Bk b y) : Bk (a + b + 1) (x + y) := by
  rw [← plus_eq]
  refine Bk.div (by have := x.den_nz; have := y.den_nz; exact Int.mul_ne_zero (by omega) (by omega)) (natAbs_add_lt (natAbs_mul_lt hx.1 (by simpa using hy.2)) ?_) ?_
  · rw [Nat.add_comm a b]
    exact natAbs_mul_lt hy.1 (by simpa using hx.2)
  · have := natAbs_mul_lt (x := (x.den : Int)) (y := (y.den : Int)) (a := a) (b := b) (by simpa using hx.2) (by simpa using hy.2)
    rw [Nat.pow_succ]
    omega
theorem Bk.sub {a b : Nat} {x y : Rat} (hx : Bk a x) (hy : Bk b y) : Bk (a + b + 1) (x - y) := by
  rw [← minus_eq]
  refine Bk.div (by have := x.den_nz; have := y.den_nz; exact Int.mul_ne_zero (by omega) (by omega)) (natAbs_sub_lt (natAbs_mul_lt hx.1 (by simpa using hy.2)) ?_) ?_
  · rw [Nat.add_comm a b]
    exact natAbs_mul_lt hy.1 (by simpa using hx.2)
  · have := natAbs_mul_lt (x := (x.den : Int)) (y := (y.den : Int)) (a := a) (b := b) (by simpa using hx.2) (by simpa using hy.2)
    rw [Nat.pow_succ]
    omega
theorem Bk.mul {a b : Nat} {x y : Rat} (hx : Bk a x) (hy : Bk b y) : Bk (a + b) (x * y) := by
  rw [← by_eq]
  exact Bk.div (by have := x.den_nz; have := y.den_nz; exact Int.mul_ne_zero (by omega) (by omega)) (natAbs_mul_lt hx.1 hy.1) (natAbs_mul_lt (by simpa using hx.2) (by simpa using hy.2))
theorem Bk.over {a b : Nat} {x y : Rat} (hx : Bk a x) (hy : Bk b y) (h0 : y ≠ 0) : Bk (a + b) (x / y) := by
  rw [← over_eq x y h0]
  exact Bk.div (by have := x.den_nz; have := num_ne h0; exact Int.mul_ne_zero (by omega) (by omega)) (natAbs_mul_lt hx.1 (by simpa using hy.2)) (natAbs_mul_lt (by simpa using hx.2) hy.1)
theorem Bk.of_int {z : Int} {k : Nat} (h : z.natAbs < 2 ^ k) (hk : 0 < k) : Bk k (z : Rat) := by
  refine ⟨by simpa using h, ?_⟩
  have : 2 ^ 1 ≤ 2 ^ k := Nat.pow_le_pow_right (by decide) hk
  simp
  omega
theorem less_iff (x y : Rat) : (x.num * (y.den : Int) < y.num * (x.den : Int)) ↔ x < y := (Rat.lt_iff x y).symm
theorem Bd.bk {r : Rat} (h : Bd XB r) : Bk 301 r := by
  have : XB < 2 ^ 301 := by decide +kernel
  exact ⟨Nat.lt_of_le_of_lt h.1 this, Nat.lt_of_le_of_lt h.2 this⟩
/-- the sum of a list as the program adds it -/
theorem Bk.sm {f : Nat → Rat} {k : Nat} : ∀ {n : Nat}, (∀ i, i < n → Bk k (f i)) → Bk (n * (k + 1) + 1) (PW.sm n f)
  | 0, _ => by
    rw [Nat.zero_mul]
    show Bk 1 (0 : Rat)
    exact ⟨by decide, by decide⟩
  | n + 1, h => by
    have h1 := Bk.sm (n := n) fun i hi => h i (by omega)
    have h2 := h1.add (h n (by omega))
    rw [Nat.add_mul, Nat.one_mul]
    exact h2.mono (by omega)
end PW
namespace PWK
open PySem PySem.Spec PyProof.Rows L2
/-! ### the text by places -/
def topS (i : Nat) : Stmt := PySem.Challenge.pw_pinchworks_k34_whole_water_of_one_sink.main.body.getD i (.Pass ⟨0, 0, 0, 0⟩)
/-! ### heaps that grow -/
/-- H' has all of H but what stands at S, which may have changed; tables of code may have grown -/
structure Ext (S : List Addr) (H H' : Hp) : Prop where
  tup : ∀ b xs, H b = some (.tup xs) → H' b = some (.tup xs)
  frz : ∀ b o u, H b = some (.frz o u) → H' b = some (.frz o u)
  oth : ∀ b o, b ∉ S → H b = some o → (∀ ps, o ≠ .tbl ps) → H' b = some o
  tbl : ∀ b ps, H b = some (.tbl ps) → ∃ qs, H' b = some (.tbl qs) ∧ (TriplesOk ps.toList → TriplesOk qs.toList)
  non : ∀ b, H' b = none → H b = none
section
variable {S S' : List Addr} {H H1 H2 : Hp} {a b : Addr} {xs : List V} {o : HO}
theorem Ext.refl : Ext S H H := ⟨fun _ _ e => e, fun _ _ _ e => e, fun _ _ _ e _ => e, fun _ ps e => ⟨ps, e, fun h => h⟩, fun _ e => e⟩
theorem Ext.trans (x : Ext S H H1) (y : Ext S H1 H2) : Ext S H H2 :=
  ⟨fun b xs e => y.tup b xs (x.tup b xs e), fun b o u e => y.frz b o u (x.frz b o u e), fun b o hb e ht => y.oth b o hb (x.oth b o hb e ht) ht,
    fun b ps e => let ⟨qs, e1, h1⟩ := x.tbl b ps e; let ⟨rs, e2, h2⟩ := y.tbl b qs e1; ⟨rs, e2, fun h => h2 (h1 h)⟩, fun b e => x.non b (y.non b e)⟩
theorem Ext.mono (x : Ext S H H1) (h : ∀ b ∈ S, b ∈ S') : Ext S' H H1 := ⟨x.tup, x.frz, fun b o hb e ht => x.oth b o (fun z => hb (h b z)) e ht, x.tbl, x.non⟩
theorem Ext.up (x : Ext [] H H1) : Ext S H H1 := x.mono fun _ z => nomatch z
/-- S may be made smaller by what H doesn't know -/
theorem Ext.less (x : Ext S H H1) (h : ∀ b ∈ S, b ∉ S' → H b = none) : Ext S' H H1 := ⟨x.tup, x.frz, fun b o hb e ht => by
  by_cases hs : b ∈ S
  · rw [h b hs hb] at e
    cases e
  · exact x.oth b o hs e ht, x.tbl, x.non⟩
theorem Ext.new (h : H a = none) : Ext S H (upd H a o) :=
  ⟨fun b xs e => by rw [upd_ne (ne_of_none e h)]; exact e, fun b o u e => by rw [upd_ne (ne_of_none e h)]; exact e, fun b o _ e _ => by rw [upd_ne (ne_of_none e h)]; exact e,
    fun b ps e => ⟨ps, by rw [upd_ne (ne_of_none e h)]; exact e, fun z => z⟩, fun b e => by
      by_cases q : b = a
      · rw [q]; exact h
      · rw [upd_ne q] at e; exact e⟩
/-- a list that may change has changed -/
theorem Ext.put (hS : a ∈ S) (h : H a = some (.lst xs)) : Ext S H (upd H a o) := by
  have ne : ∀ b u, H b = some u → u ≠ .lst xs → b ≠ a := fun b u e d q => by
    subst q
    rw [h] at e
    exact d (Option.some.inj e).symm
  refine ⟨fun b ys e => ?_, fun b o u e => ?_, fun b o hb e _ => ?_, fun b ps e => ?_, fun b e => ?_⟩
  · rw [upd_ne (ne b _ e (by intro z; cases z))]; exact e
  · rw [upd_ne (ne b _ e (by intro z; cases z))]; exact e
  · rw [upd_ne (fun q => hb (by rw [q]; exact hS))]; exact e
  · exact ⟨ps, by rw [upd_ne (ne b _ e (by intro z; cases z))]; exact e, fun z => z⟩
  · by_cases q : b = a
    · rw [q, upd_same] at e; cases e
    · rw [upd_ne q] at e; exact e
theorem Ext.putI {C dx : Addr} {fs : List (Str × V)} (hS : a ∈ S) (h : H a = some (.ins C dx fs)) : Ext S H (upd H a o) := by
  have ne : ∀ b u, H b = some u → u ≠ .ins C dx fs → b ≠ a := fun b u e d q => by
    subst q
    rw [h] at e
    exact d (Option.some.inj e).symm
  refine ⟨fun b ys e => ?_, fun b o u e => ?_, fun b o hb e _ => ?_, fun b ps e => ?_, fun b e => ?_⟩
  · rw [upd_ne (ne b _ e (by intro z; cases z))]; exact e
  · rw [upd_ne (ne b _ e (by intro z; cases z))]; exact e
  · rw [upd_ne (fun q => hb (by rw [q]; exact hS))]; exact e
  · exact ⟨ps, by rw [upd_ne (ne b _ e (by intro z; cases z))]; exact e, fun z => z⟩
  · by_cases q : b = a
    · rw [q, upd_same] at e; cases e
    · rw [upd_ne q] at e; exact e
theorem Ext.lst (x : Ext S H H1) (hb : b ∉ S) (h : H b = some (.lst xs)) : H1 b = some (.lst xs) := x.oth b _ hb h fun _ z => nomatch z
theorem Ext.lst0 (x : Ext [] H H1) (h : H b = some (.lst xs)) : H1 b = some (.lst xs) := x.oth b _ (by simp) h fun _ z => nomatch z
theorem Ext.ins {C dx : Addr} {fs : List (Str × V)} (x : Ext S H H1) (hb : b ∉ S) (h : H b = some (.ins C dx fs)) : H1 b = some (.ins C dx fs) := x.oth b _ hb h fun _ z => nomatch z
end
/-! ### what a value stands for -/
/-- a pair of whole numbers -/
def Pr (H : Hp) (v : V) (i j : Int) : Prop := ∃ a, v = .ref a ∧ H a = some (.tup [.int i, .int j])
/-- a ratio -/
abbrev Rt (H : Hp) (v : V) (r : Rat) : Prop := Pr H v r.num (r.den : Int)
theorem Pr.ext {S : List Addr} {H H' : Hp} {v : V} {i j : Int} (x : Ext S H H') (h : Pr H v i j) : Pr H' v i j := let ⟨a, e, q⟩ := h; ⟨a, e, x.tup a _ q⟩
/-- a list of ratios f 0, .., f (n - 1) -/
def Rs (H : Hp) (xs : List V) (n : Nat) (f : Nat → Rat) : Prop := xs.length = n ∧ ∀ i v, xs[i]? = some v → Rt H v (f i)
theorem Rs.ext {S : List Addr} {H H' : Hp} {xs : List V} {n : Nat} {f : Nat → Rat} (x : Ext S H H') (h : Rs H xs n f) : Rs H' xs n f := ⟨h.1, fun i v e => (h.2 i v e).ext x⟩
theorem Rs.get {H : Hp} {xs : List V} {n : Nat} {f : Nat → Rat} (h : Rs H xs n f) {i : Nat} (hi : i < n) : ∃ v, xs[i]? = some v ∧ Rt H v (f i) :=
  ⟨xs[i]'(by rw [h.1]; exact hi), List.getElem?_eq_getElem _, h.2 i _ (List.getElem?_eq_getElem _)⟩
/-- a list object of ratios -/
def RL (H : Hp) (v : V) (n : Nat) (f : Nat → Rat) : Prop := ∃ a xs, v = .ref a ∧ H a = some (.lst xs) ∧ Rs H xs n f
/-! ### operators by values -/
section
variable {X : Cx}
/-- // of any size: the divisor below 2 ^ 9000 in size -/
theorem op_fdivX : OpR X (binaryOp .FloorDiv) (rI (fun _ j => j ≠ 0 ∧ j.natAbs.log2 < 9000) fun i j => .int (i.fdiv j)) := opI fun _ _ _ _ _ _ _ hc q => floordiv_int hc.1 q (.inl (PyProof.noPylong_of_log2 hc.2))
end
theorem log_lt {n k : Nat} (h : n < 2 ^ k) (hk : 0 < k) : n.log2 < k := PySem.Flt.log2_lt_of hk h
/-- a list's item -/
theorem atI_0 {α : Type} {x : α} {l : List α} : atI (x :: l) 0 = some x := atI_nat (j := 0) rfl
theorem atI_1 {α : Type} {x y : α} {l : List α} : atI (x :: y :: l) 1 = some y := atI_nat (j := 1) rfl
/-! items -/
section
variable {X : Cx} {a b : Expr} {ta tb : TE} {pos : Pos}
theorem lx (ha : PE X a ta) (hb : PE X b tb) (h : PlainIx b := by exact fun _ _ => rfl) : PE X (.Subscript a b pos) (tOp (rIxL X.K) ta tb) := pe_ix ix_list ha hb h
theorem tx (ha : PE X a ta) (hb : PE X b tb) (h : PlainIx b := by exact fun _ _ => rfl) : PE X (.Subscript a b pos) (tOp (rIxT X.K) ta tb) := pe_ix ix_tup ha hb h
end
/-! pairs compared -/
theorem eqv_pair (a b c d : Int) : PyData.eqv (.tuple [.int a, .int b]) (.tuple [.int c, .int d]) = ((a == c) && (b == d)) := by
  simp [PyData.eqv, PyData.eqvAll]
theorem shaped_pair (a b : Int) : SeqAt.shaped (.tuple [.int a, .int b]) = true := by
  simp [SeqAt.shaped, PyData.canLay0, PyData.depth, PyData.canLayAll0, PyData.depthAll]
theorem pr_dp {K : PySem.W.Frag} {H : Hp} {v : V} {i j : Int} (h : Pr H v i j) : Dp K H v (.tuple [.int i, .int j]) := by
  obtain ⟨a, rfl, e⟩ := h
  exact .tup (SqT.of e) (.cons (.int i) (.cons (.int j) .nil))
theorem eqv_rt (x y : Rat) : PyData.eqv (.tuple [.int x.num, .int (x.den : Int)]) (.tuple [.int y.num, .int (y.den : Int)]) = decide (x = y) := by
  rw [eqv_pair]
  by_cases h : x = y
  · subst h; simp
  · rw [decide_eq_false h]
    refine Bool.eq_false_iff.mpr fun z => h ?_
    rw [Bool.and_eq_true, beq_iff_eq, beq_iff_eq] at z
    exact Rat.ext z.1 (by omega)
/-- the last item -/
theorem atI_end {α : Type} {xs : List α} {j : Nat} {v : α} (hl : xs.length = j + 1) (h : xs[j]? = some v) : atI xs (-1) = some v := by
  have e : ixN xs.length (-1) = some j := by
    unfold ixN
    rw [if_neg (by decide), if_pos (by omega)]
    congr 1
    omega
  unfold atI
  rw [e]
  exact h
theorem num_pos {r : Rat} : 0 < r.num ↔ 0 < r := by
  rw [Rat.lt_iff]
  simp
/-- the first of those that pass -/
theorem filter_cons {n : Nat} {p : Nat → Bool} {e : Nat} {r : List Nat} (h : (List.range n).filter p = e :: r) : e < n ∧ p e = true ∧ ∀ k, k < e → p k = false := by
  have h1 : e ∈ (List.range n).filter p := by rw [h]; exact List.mem_cons_self
  obtain ⟨h2, h3⟩ := List.mem_filter.mp h1
  have h2' := List.mem_range.mp h2
  refine ⟨h2', h3, fun k hk => ?_⟩
  refine Bool.eq_false_iff.mpr fun z => ?_
  have h4 : k ∈ (List.range n).filter p := List.mem_filter.mpr ⟨List.mem_range.mpr (by omega), z⟩
  have h5 : ((List.range n).filter p).Pairwise (· < ·) := (List.pairwise_lt_range).sublist List.filter_sublist
  rw [h] at h4 h5
  rcases List.mem_cons.mp h4 with q | q
  · omega
  · have := List.rel_of_pairwise_cons h5 q
    omega
theorem filter_nil {n : Nat} {p : Nat → Bool} (h : (List.range n).filter p = []) {k : Nat} (hk : k < n) : p k = false := by
  refine Bool.eq_false_iff.mpr fun z => ?_
  have h1 : k ∈ (List.range n).filter p := List.mem_filter.mpr ⟨List.mem_range.mpr hk, z⟩
  rw [h] at h1
  cases h1
/-! the same in a comprehension's block: the written part named -/
section
variable {X : Cx} {a b : Expr} {ta tb : TE} {pos : Pos}
theorem lxB (K : PySem.W.Frag) (ha : PE X a ta) (hb : PE X b tb) (h : PlainIx b := by exact fun _ _ => rfl) (hK : X.K = K := by rfl) : PE X (.Subscript a b pos) (tOp (rIxL K) ta tb) := by
  subst hK
  exact lx ha hb h
theorem txB (K : PySem.W.Frag) (ha : PE X a ta) (hb : PE X b tb) (h : PlainIx b := by exact fun _ _ => rfl) (hK : X.K = K := by rfl) : PE X (.Subscript a b pos) (tOp (rIxT K) ta tb) := by
  subst hK
  exact tx ha hb h
theorem fldB (K : PySem.W.Frag) {f : Str} (ha : PE X a ta) (hb : attributeBase a f X.env (eval a X.env) = eval a X.env := by rfl) (hK : X.K = K := by rfl) : PE X (.Attribute a f pos) (tFld K ta f) := by
  subst hK
  exact pe_fld ha hb
end
/-! comprehensions that change nothing -/
section
variable {J : It} {n : Nat} {G : Hp → Prop} {Y : Nat → Hp → V → Hp → Prop} {g : TG} {tt : TT} {te : TE} {vs : List Nat} {σ : L2.St} {H1 : Hp} {Q : Addr → Hp → Prop}
theorem lc_map (w : Walk J n G Y) (φ : Nat → V → Hp → Prop) (hφ : ∀ i v S H H', Ext S H H' → φ i v H → φ i v H') (hY : ∀ i H x H', Y i H x H' → Ext [] H H') (hG : ∀ H', Ext [] H1 H' → G H') (hn : n < 100000)
    (hs : ∀ i x H' H'', i < n → Ext [] H1 H'' → Y i H' x H'' → ∀ R : VK, (∀ y H4, Ext [] H'' H4 → φ i y H4 → R y H4) → g x (wipe σ vs) H'' fun σ2 H2 => wipe σ2 vs = wipe σ vs ∧ te σ2 H2 R)
    (hd : ∀ D H' ys, H1 D = none → Ext [] H1 H' → H' D = some (.lst ys) → ys.length = n → (∀ i v, ys[i]? = some v → φ i v H') → Q D H') :
    ∀ D, H1 D = none → ∃ W : Nat → Nat → Hp → Prop, (∃ m, W 0 m (upd H1 D (.lst []))) ∧ ∀ i m H, W i m H →
      (J.stop i H ∧ Q D H) ∨ (J.go i H ∧ ∃ Nx : Hp → Prop, (∀ H', Nx H' → ∃ m', m' < m ∧ W (i + 1) m' H') ∧ ∀ x H', J.yld i H x H' → g x (wipe σ vs) H' fun σ2 H2 => wipe σ2 vs = wipe σ vs ∧ tYes σ2 H2 fun b H3 =>
        if b = true then te σ2 H3 fun y H4 => ∃ acc, H4 D = some (.lst acc) ∧ acc.length < sizeLine ∧ Nx (upd H4 D (.lst (acc ++ [y]))) else Nx H3) := by
  intro D hD
  refine lc_it (H1 := H1) (D := D) (Qd := Q D) w (fun i H => ∃ ys, Ext [] H1 H ∧ H D = some (.lst ys) ∧ ys.length = i ∧ ∀ j v, ys[j]? = some v → φ j v H) ⟨[], Ext.new hD, upd_same, rfl, fun j v e => by simp at e⟩ (fun i H _ ⟨_, e, _⟩ => hG H e)
    (fun i x H H' hi ⟨ys, e, hL, hl, hv⟩ y => ?_) (fun H ⟨ys, e, hL, hl, hv⟩ => hd D H ys hD e hL hl hv)
  have eY := hY i H x H' y
  refine hs i x H H' hi (e.trans eY) y _ fun z H4 e4 hz => ⟨ys, (eY.trans e4).lst0 hL, Nat.lt_of_lt_of_le (show ys.length < 100000 by omega) (by decide), ys ++ [z], ?_, upd_same, by simp [hl], fun j v ej => ?_⟩
  · exact ((e.trans (eY.trans e4)).up (S := [D])).trans (Ext.put (by simp) ((eY.trans e4).lst0 hL)) |>.less fun b hb _ => by
      have : b = D := by simpa using hb
      rw [this]; exact hD
  · have put : Ext [D] H4 (upd H4 D (.lst (ys ++ [z]))) := Ext.put (by simp) ((eY.trans e4).lst0 hL)
    rcases Nat.lt_or_ge j ys.length with q | q
    · rw [List.getElem?_append_left q] at ej
      exact hφ j v _ _ _ put (hφ j v _ _ _ (eY.trans e4) (hv j v ej))
    · rw [List.getElem?_append_right q] at ej
      have hj : j - ys.length = 0 := by
        rcases Nat.eq_zero_or_pos (j - ys.length) with z0 | z0
        · exact z0
        · rw [List.getElem?_eq_none (by simp; omega)] at ej
          cases ej
      rw [hj] at ej
      have ev : z = v := Option.some.inj ej
      have hji : j = i := by omega
      rw [← ev, hji]
      exact hφ i z _ _ _ put hz
/-- with a test: the values f i where p i -/
theorem lc_some (w : Walk J n G Y) (p : Nat → Bool) (f : Nat → V) (hY : ∀ i H x H', Y i H x H' → Ext [] H H') (hG : ∀ H', Ext [] H1 H' → G H') (hn : n < 100000)
    (hs : ∀ i x H' H'', i < n → Ext [] H1 H'' → Y i H' x H'' → ∀ (R1 : VK) (R0 : Hp → Prop), (∀ H4, p i = true → Ext [] H'' H4 → R1 (f i) H4) → (∀ H4, p i = false → Ext [] H'' H4 → R0 H4) →
      g x (wipe σ vs) H'' fun σ2 H2 => wipe σ2 vs = wipe σ vs ∧ tt σ2 H2 fun b H3 => if b = true then te σ2 H3 R1 else R0 H3)
    (hd : ∀ D H', H1 D = none → Ext [] H1 H' → H' D = some (.lst (((List.range n).filter p).map f)) → Q D H') :
    ∀ D, H1 D = none → ∃ W : Nat → Nat → Hp → Prop, (∃ m, W 0 m (upd H1 D (.lst []))) ∧ ∀ i m H, W i m H →
      (J.stop i H ∧ Q D H) ∨ (J.go i H ∧ ∃ Nx : Hp → Prop, (∀ H', Nx H' → ∃ m', m' < m ∧ W (i + 1) m' H') ∧ ∀ x H', J.yld i H x H' → g x (wipe σ vs) H' fun σ2 H2 => wipe σ2 vs = wipe σ vs ∧ tt σ2 H2 fun b H3 =>
        if b = true then te σ2 H3 fun y H4 => ∃ acc, H4 D = some (.lst acc) ∧ acc.length < sizeLine ∧ Nx (upd H4 D (.lst (acc ++ [y]))) else Nx H3) := by
  intro D hD
  refine lc_it (H1 := H1) (D := D) (Qd := Q D) w (fun i H => Ext [] H1 H ∧ H D = some (.lst (((List.range i).filter p).map f))) ⟨Ext.new hD, upd_same⟩ (fun i H _ ⟨e, _⟩ => hG H e) (fun i x H H' hi ⟨e, hL⟩ y => ?_) (fun H ⟨e, hL⟩ => hd D H hD e hL)
  have eY := hY i H x H' y
  refine hs i x H H' hi (e.trans eY) y _ _ (fun H4 hp e4 => ?_) fun H4 hp e4 => ?_
  · refine ⟨_, (eY.trans e4).lst0 hL, ?_, ?_, ?_⟩
    · have h1 : (((List.range i).filter p).map f).length ≤ i := by
        rw [List.length_map]
        have := List.length_filter_le p (List.range i)
        rw [List.length_range] at this
        exact this
      exact Nat.lt_of_lt_of_le (show _ < 100000 by omega) (by decide)
    · exact ((e.trans (eY.trans e4)).up (S := [D])).trans (Ext.put (by simp) ((eY.trans e4).lst0 hL)) |>.less fun b hb _ => by
        have : b = D := by simpa using hb
        rw [this]; exact hD
    · rw [upd_same, List.range_succ, List.filter_append, List.map_append, List.filter_cons, if_pos hp]
      rfl
  · refine ⟨e.trans (eY.trans e4), ?_⟩
    rw [(eY.trans e4).lst0 hL, List.range_succ, List.filter_append, List.map_append, List.filter_cons, if_neg (by rw [hp]; decide)]
    show _ = some (HO.lst (_ ++ []))
    rw [List.append_nil]
theorem yat_ext {xs : List V} : ∀ (i : Nat) (H : Hp) (x : V) (H' : Hp), YAt xs i H x H' → Ext [] H H' := fun i H x H' y => by rw [y.1]; exact Ext.refl
theorem yfn_ext {f : Nat → V} : ∀ (i : Nat) (H : Hp) (x : V) (H' : Hp), YFn f i H x H' → Ext [] H H' := fun i H x H' y => by rw [y.1]; exact Ext.refl
theorem ypair_ext {xs ys : Nat → Option V} : ∀ (i : Nat) (H : Hp) (x : V) (H' : Hp), YPair xs ys i H x H' → Ext [] H H' := fun i H x H' ⟨T, _, _, _, hT, e, _⟩ => by rw [e]; exact Ext.new hT
end
theorem walk_range0 {n : Nat} : Walk (Itr 0 n) n (fun _ => True) (YFn fun i => .int (i : Nat)) :=
  ⟨fun _ _ hi _ => hi, fun _ _ => Nat.le_refl _, fun i _ x _ _ _ y => ⟨y.1, by rw [y.2, Int.zero_add]⟩⟩
theorem two_le : 2 ≤ sizeLine := by decide
theorem sz {n : Nat} (h : n ≤ 100000) : n ≤ sizeLine := Nat.le_trans h (by decide)
theorem szl {n : Nat} (h : n < 100000) : n < sizeLine := Nat.lt_of_lt_of_le h (by decide)
end PWK
namespace PWK
open PySem PySem.Spec PyProof.Rows L2
/-! ### enumerate(tuple) -/
theorem meets_enum_tup (l : Addr) (items : Array Value) :
    Meets (Builtin.«enumerate.__new__» ⟨[.type "enumerate", .ref l], []⟩) (fun _ R s => s.heap.IsTuple l items ∧
      R (.ok (.ret (.ref (s.heap.push { cls := .type "tuple_iterator", data := .fields #[.ref l, .int 0 0] }).objs.size)))
        { s with heap := (s.heap.push { cls := .type "tuple_iterator", data := .fields #[.ref l, .int 0 0] }).push { cls := .type "enumerate", data := .fields #[.none, .bool false, .ref s.heap.objs.size, rawInt 0, .none, .none] } }) :=
  .of_wp fun prog w A R s h => by
    obtain ⟨hp, g, d, tk, os⟩ := s; obtain ⟨h1, h⟩ := h
    have hsub := sub_enumerate
    have q1 : ∀ {A' : Around} {E : Value → Shared → Prop} {Q : Value → Shared → Prop}, Q (.ref hp.objs.size) ⟨hp.push { cls := .type "tuple_iterator", data := .fields #[.ref l, .int 0 0] }, g, d, tk, os⟩ → wpAny (model prog w) A' (pyIter (.ref l)) Q E ⟨hp, g, d, tk, os⟩ :=
      fun q => wpAny_pyIter_tuple h1 q
    wp_walk using q1
    refine wpAny_stack_any fun st => wpAny_pure ?_
    split
    · rename_i c _ _ _ _ _
      cases (c == Value.type "enumerate")
      · wp_walk using q1
        exact ⟨_, rfl, h⟩
      · wp_walk using q1
        exact ⟨_, rfl, h⟩
    · wp_walk using q1
      exact ⟨_, rfl, h⟩
section
variable {prog : Program} {w : World} {A : Around} {E : Value → Shared → Prop} {s : Shared}
theorem call_enum_tup {l : Addr} {items : Array Value} {Q : Value → Shared → Prop} (hL : s.heap.IsTuple l items)
    (h : ∀ h', IsEnum h' (s.heap.objs.size + 1) s.heap.objs.size 0 .none → h'.IsTupleIter s.heap.objs.size l 0 → h'.objs.size = s.heap.objs.size + 2 →
      (∀ b o, s.heap.get? b = some o → h'.get? b = some o) → Q (.ref (s.heap.objs.size + 1)) { s with heap := h' }) :
    wpAny (model prog w) A (call (.type "enumerate") [.ref l]) Q E s := by
  refine callType_new F.called_enumerate (by decide) (F.typeCall_enumerate_1 _) (F.newCall_enumerate_1 _) (fun obj => F.args_object_init_2 obj _) F.entry_enumerate_new
    (meets_enum_tup l items) ⟨hL, ?_⟩
  have hz : (s.heap.push { cls := .type "tuple_iterator", data := .fields #[.ref l, .int 0 0] }).objs.size = s.heap.objs.size + 1 := Heap.size_push ..
  show _ ∧ _
  rw [hz]
  have he : IsEnum ((s.heap.push { cls := .type "tuple_iterator", data := .fields #[.ref l, .int 0 0] }).push
      { cls := .type "enumerate", data := .fields #[.none, .bool false, .ref s.heap.objs.size, rawInt 0, .none, .none] }) (s.heap.objs.size + 1) s.heap.objs.size 0 .none := by
    have := Heap.get?_push_size (s.heap.push { cls := .type "tuple_iterator", data := .fields #[.ref l, .int 0 0] })
      (o := { cls := .type "enumerate", data := .fields #[.none, .bool false, .ref s.heap.objs.size, rawInt 0, .none, .none] }) rfl
    rw [hz] at this; exact this
  refine ⟨⟨_, he, rfl⟩, h _ he ⟨_, Heap.get?_push_of_some _ (Heap.get?_push_size _ rfl), rfl, rfl⟩ (by rw [Heap.size_push, hz]) fun b o x => Heap.get?_push_of_some _ (Heap.get?_push_of_some _ x)⟩
end
/-- the tuple at a, each item in a new pair -/
def IteT (K : PySem.W.Frag) (a : Addr) : It :=
  ⟨fun i H => ∃ (xs : List V) (x : V), SqT K H a xs ∧ xs[i]? = some x, fun i H v H' => ∃ T x, v = .ref T ∧ H T = none ∧ H' = upd H T (.tup [.int (i : Nat), x]) ∧ ∀ xs, SqT K H a xs → xs[i]? = some x, fun i H => ∃ xs : List V, SqT K H a xs ∧ xs.length = i⟩
theorem turn_enumT {P : Program} {w : World} {K : PySem.W.Frag} {elts : List Expr} {kk : Nat} {tpos : Pos} (a e it : Addr) (hne : e ≠ it) (hna : a ≠ it) (hea : e ≠ a) :
    Turn P w K (.Tuple elts kk tpos) (IteT K a) [e, it] e (fun i h => (∃ old, IsEnum h e it ((i : Nat) : Int) old) ∧ h.IsTupleIter it a i) where
  mem := by simp
  obj := fun i h st b hb => by
    obtain ⟨⟨old, he⟩, ⟨o, ho, hc, hd⟩⟩ := st
    have e' : b = e ∨ b = it := by simpa using hb
    rcases e' with z | z
    · rw [z]; exact ⟨_, he, fun v q => nomatch q⟩
    · rw [z]; exact ⟨o, ho, fun v q => by rw [hd] at q; cases q⟩
  keep := fun i h h' st k => let ⟨⟨old, he⟩, hi⟩ := st; ⟨⟨old, k e (by simp) _ he⟩, hi.at fun o q => k it (by simp) o q⟩
  item := by
    intro X hP hw hK hc i pins s σ H E I hf st hg
    subst hP hw hK
    obtain ⟨⟨old, he⟩, hit⟩ := st
    obtain ⟨xs, x, hq, hx⟩ := hg
    obtain ⟨its, rv, p, hz⟩ := I.tuple hq
    obtain ⟨u, hu, ru⟩ := rv.get hx
    have hel : e < s.heap.objs.size := Heap.lt_size he
    have hil : it < s.heap.objs.size := by obtain ⟨_, q, _⟩ := hit; exact Heap.lt_size q
    have hlt : i < its.toArray.size := by
      have := (List.getElem?_eq_some_iff.mp hu).1
      simpa using this
    have pT : s.heap.IsTuple a its.toArray := p
    refine wpAny_pyNext_enum_itemD (Draws.tuple (A := X.A.in1) (show X.A.in1.handled = none from I.ok.hd hc) it a hna its.toArray) he ⟨hit, pT⟩ hlt hne (by simp [hne, hea]) fun x' h' tk hP ho hit' hT hsz hk => ?_
    have hx' : x' = u := by
      have : its.toArray[i]? = some x' := hP
      have h2 : its.toArray[i]? = some u := by simpa using hu
      rw [this] at h2
      exact Option.some.inj h2
    subst hx'
    refine ⟨_, rfl, wpAny_letOwnedTupleGo_enum (s := { s with heap := h', toks := tk + 1 }) ho fun h'' he' sb => ?_⟩
    have hT2 : h''.get? s.heap.objs.size = some { cls := .type "tuple", data := .seq #[.int i tk, x'] } := (sb.2 _ (Nat.ne_of_gt hel)).trans hT
    have new : ObjOk X.prog X.w (upd H s.heap.objs.size (.tup [.int (i : Nat), x])) h'' s.heap.objs.size (.tup [.int (i : Nat), x]) :=
      ⟨by show 2 ≤ sizeLine; decide, [.int i tk, x'], .cons ⟨_, rfl⟩ (.cons ru .nil), ⟨_, hT2, rfl, _, rfl⟩⟩
    have I1 : Inv X pins σ (upd H s.heap.objs.size (.tup [.int (i : Nat), x])) { s with heap := h'', toks := tk + 1 } :=
      I.turnedNew (ch := [e, it]) (fun b ob hb q => (sb.2 b (fun z => hb (by simp [z]))).trans (hk b ob (fun z => hb (by simp [z])) (fun z => hb (by simp [z])) q)) hf (Nat.le_refl _) new
    refine ⟨.ref s.heap.objs.size, _, I1, rfl, ⟨_, x, rfl, I.hok.fresh (Nat.le_refl _), rfl, fun ys hy => by rw [I.tuple_inj hy hq]; exact hx⟩, ⟨⟨x', ?_⟩, hit'.1.at fun o q => (sb.2 it (Ne.symm hne)).trans q⟩, fun b hb => ?_⟩
    · have e1 : ((i + 1 : Nat) : Int) = (i : Int) + 1 := by omega
      rw [e1]; exact he'
    · have hb' : b < s.heap.objs.size := by
        have e' : b = e ∨ b = it := by simpa using hb
        rcases e' with z | z
        · rw [z]; exact hel
        · rw [z]; exact hil
      rw [upd_ne (Nat.ne_of_lt hb')]
      exact (hf b hb).1
  done := by
    intro X hP hw hK hc i pins s σ H E I hf st hg
    subst hP hw hK
    obtain ⟨⟨old, he⟩, hit⟩ := st
    obtain ⟨xs, hq, hx⟩ := hg
    obtain ⟨its, rv, p, hz⟩ := I.tuple hq
    obtain ⟨f0, f1, f2, f3, f4, f5⟩ := hf it (by simp)
    have hl := rv.length
    have pT : s.heap.IsTuple a its.toArray := p
    have hi : i = its.toArray.size := by simp; omega
    subst hi
    exact wpAny_pyNext_enum_endD (Draws.tuple (A := X.A.in1) (show X.A.in1.handled = none from I.ok.hd hc) it a hna its.toArray) he ⟨hit, pT⟩ fun h' eb => ⟨rfl, I.turned (t' := s.toks) (fun b o hb q => eb b o hb q) f0 f1 f3 f4 f5⟩
  self := fun A i s Q E st h => let ⟨⟨_, he⟩, _⟩ := st; wpAny_pyIter_enum he h
def iEnumT (K : PySem.W.Frag) (ta : TA) : TI := fun σ H R => ta σ H fun vs H1 => ∃ a xs, vs = [.ref a] ∧ SqT K H1 a xs ∧ R (IteT K a) H1
theorem pi_enumT {X : Cx} {e : Expr} {ta : TA} {p pos tpos : Pos} {elts : List Expr} {kk : Nat} (hg : Gl X "enumerate") (hm : X.mg "enumerate" = none) (ha : PA X [e] ta) (hs : starEach [e] X.env = [(false, eval e X.env)] := by rfl) :
    PI X (.Tuple elts kk tpos) (.Call (.Name "enumerate" p) [e] [] pos) (iEnumT X.K ta) := by
  refine ⟨fun pins s σ H R I h => ?_⟩
  refine Call_ (ld_blt I hg hm boot_enumerate (PyProof.Rows.callWith_type1 (thn (ha.run pos pins s σ H _ I h) fun us s1 ⟨vs, H1, I1, r1, q1⟩ => ?_) hs rfl))
  obtain ⟨a, xs, ex, hq, q⟩ := q1
  subst ex
  cases r1 with
  | cons r rr =>
    cases rr
    cases r
    obtain ⟨its, rv, p', hz⟩ := I1.tuple hq
    have hal : a < s1.heap.objs.size := p'.lt
    refine call_enum_tup (show s1.heap.IsTuple a its.toArray from p') fun h' he hit hsz hk => wpAny_pyIter_enum he ?_
    have I2 : Inv X pins σ H1 { s1 with heap := h' } := I1.kept (t' := s1.toks) hk
    refine ⟨s1.heap.objs.size + 1, [s1.heap.objs.size + 1, s1.heap.objs.size], _, _, H1, rfl, I2, turn_enumT a (s1.heap.objs.size + 1) s1.heap.objs.size (Nat.succ_ne_self _) (Nat.ne_of_lt hal) (Nat.ne_of_gt (Nat.lt_succ_of_lt hal)), ⟨⟨.none, he⟩, hit⟩, fun b hb => ?_, q⟩
    have e' : b = s1.heap.objs.size + 1 ∨ b = s1.heap.objs.size := by simpa using hb
    have hle : s1.heap.objs.size ≤ b := by
      rcases e' with z | z
      · rw [z]; exact Nat.le_add_right _ _
      · rw [z]; exact Nat.le_refl _
    exact I1.fpOk hle (I1.hok.fresh hle)
theorem walk_enumT {K : PySem.W.Frag} {a : Addr} {xs : List V} : Walk (IteT K a) xs.length (fun H => SqT K H a xs) (YPair (fun i => some (.int (i : Nat))) (fun i => xs[i]?)) := by
  refine ⟨fun i _ hi q => ⟨xs, xs[i], q, by simp [hi]⟩, fun _ q => ⟨xs, q, rfl⟩, fun i H v H' _ q y => ?_⟩
  obtain ⟨T, x, h1, h2, h3, h4⟩ := y
  exact ⟨T, .int (i : Nat), x, h1, h2, h3, rfl, h4 xs q⟩
end PWK
namespace PWK
open PySem PySem.Spec PyProof.Rows L2
section
variable {prog : Program} {w : World} {A : Around} {E : Value → Shared → Prop} {s : Shared}
/-! ### {**d, k: v} -/
theorem wpAny_dictPut {κ : Type} [DecidableEq κ] {knd : KeyKind prog w κ} {d : Addr} {kvs : List (κ × Value)} {k : κ} {key v : Value} {Q : Unit → Shared → Prop} (hkey : knd.is k key = true) (hm : s.heap.DictOf knd d kvs)
    (hQ : ∀ h', h'.DictOf knd d (stored kvs k v) → Heap.SameBut d s.heap h' → Q () { s with heap := h' }) (hsz : kvs.length ≤ sizeLine) :
    wpAny (model prog w) A (dictPut d (knd.hash k) key v) Q E s := by
  obtain ⟨o, es, ep, ho, hc, hd, hk, hp, hn⟩ := hm
  have hes : es.size ≤ sizeLine := by have e1 := hp.length; have e2 : es.toList.length = es.size := by simp
                                      omega
  unfold dictPut
  refine wpAny_bind (wpAny_dictFind_of hkey ho hd hk ?_)
  have hidx : (es.findIdx? fun e => knd.is k e.key) = kvs.findIdx? fun kv => decide (kv.1 = k) := by
    rw [← hp.findIdx k]; obtain ⟨l⟩ := es; simp
  cases hi : es.findIdx? fun e => knd.is k e.key with
  | some i =>
    refine wpAny_updateDict ho hd (hQ _ ⟨_, _, ep, Heap.get?_update_self _ ho (Obj.isFreed_of_dict (Obj.data_mapDict hd _)),
      hc.mapDict _, Obj.data_mapDict hd _, hk.modify _ _, ?_, ?_⟩ (Heap.SameBut.update ..))
    · rw [stored, if_pos (any_of_findIdx_some (hidx ▸ hi))]
      have hl : (es.toList.findIdx? fun e => knd.is k e.key) = some i := by rw [← hi]; obtain ⟨l⟩ := es; simp
      have := hp.modify hn hl v
      obtain ⟨l⟩ := es
      simpa using this
    · rw [stored, if_pos (any_of_findIdx_some (hidx ▸ hi)), keys_map_store]; exact hn
  | none =>
    have hnot : k ∉ kvs.map (·.1) := not_mem_of_findIdx_none (hidx ▸ hi)
    have hany : ¬ (kvs.any fun kv => decide (kv.1 = k)) = true := by
      rw [List.any_eq_true]; rintro ⟨kv, hkv, he⟩
      exact hnot (List.mem_map.mpr ⟨kv, hkv, of_decide_eq_true he⟩)
    refine wpAny_updateDictKeys (hz := hes) ho hd (hQ _ ⟨_, _, ep + 1, Heap.get?_update_self _ ho (Obj.isFreed_of_dict (Obj.data_mapDictKeys hd _)),
      hc.mapDictKeys _, Obj.data_mapDictKeys hd _, hk.push hkey _, ?_, ?_⟩ (Heap.SameBut.update ..))
    · rw [stored, if_neg hany]
      have := hp.append hkey (knd.hash k) v
      obtain ⟨l⟩ := es
      simpa using this
    · rw [stored, if_neg hany, List.map_append, List.nodup_append]
      refine ⟨hn, by simp, ?_⟩
      intro a ha b hb
      simp only [List.map_cons, List.map_nil, List.mem_singleton] at hb
      subst hb
      exact fun e => hnot (e ▸ ha)
theorem sub_dict : isSubtype (.type "dict") (.type "dict") = pure true := by rw [isSubtype_type]; kernel_rfl
theorem wpAny_mergeMap {κ : Type} [DecidableEq κ] {knd : KeyKind prog w κ} {d o : Addr} {kvs more : List (κ × Value)} {Q : Unit → Shared → Prop} (hnr : ∀ k v, knd.is k v = true → ∀ a, v ≠ .ref a) (hdo : d ≠ o) (hoS : (o == sysModules) = false)
    (hd : s.heap.DictOf knd d kvs) (ho : s.heap.DictOf knd o more)
    (hQ : ∀ h', h'.DictOf knd d (merged kvs more) → Heap.SameBut d s.heap h' → Q () { s with heap := h' })
    (hsz : kvs.length + more.length ≤ sizeLine) :
    wpAny (model prog w) A (mergeMapping d (.ref o) false) Q E s := by
  have hT : s.TypeIs (.ref o) "dict" := ho.typeIs
  obtain ⟨od, esd, epd, hod, hcd, hdd, hkd, hpd, hnd⟩ := id hd
  obtain ⟨oo, eso, epo, hoo, hco, hdo', hko, hpo, hno⟩ := id ho
  unfold mergeMapping
  refine wpAny_bind (wpAny_isInstance (T := "dict") (b := true) hT sub_dict ?_)
  rw [if_pos rfl]
  refine wpAny_bind (wpAny_specialOf hT PySem.F.slot_dict_iter.lookup ?_)
  refine wpAny_bind (wpAny_pure ?_)
  rw [show (some (Value.builtin "dict.__iter__") == some (Value.builtin "dict.__iter__")) = true from by decide]
  dsimp only
  rw [if_neg (by rw [hoS]; exact Bool.false_ne_true)]
  refine wpAny_bind (wpAny_dictEntries hod hdd ?_)
  have main : wpAny (model prog w) A (do
      let l ← dictEntries o
      let epoch ← dictEpoch o
      forIn (List.range l.size) PUnit.unit fun i (_ : PUnit) => (do
          let l' ← dictEntries o
          match l'[i]? with
            | some e => do
              holding [e.key, e.val] (dictPut d e.hash e.key e.val)
              let ep' ← dictEpoch o
              if (ep' != epoch) = true then do
                  (unsupported "dict.changed-during-merge" : Sem PUnit)
                  pure (ForInStep.yield PUnit.unit)
                else pure (ForInStep.yield PUnit.unit)
            | _ => do
              (unsupported "dict.changed-during-merge" : Sem PUnit)
              pure (ForInStep.yield PUnit.unit) : Sem (ForInStep PUnit))
      pure ()) Q E s := by
    have hlen : more.length = eso.size := by rw [← hpo.length]; simp
    refine wpAny_bind (wpAny_dictEntries hoo hdo' ?_)
    refine wpAny_bind (wpAny_dictEpoch hoo hdo' ?_)
    refine wpAny_bind ?_
    refine wpAny_forIn_list _
      (fun rest _ s' => ∃ h' i, s' = { s with heap := h' } ∧ rest = List.range' i (eso.size - i) ∧ i ≤ eso.size ∧ h'.DictOf knd d (merged kvs (more.take i)) ∧ h'.get? o = some oo ∧ Heap.SameBut d s.heap h')
      _ ?_ ?_ _ _ ⟨s.heap, 0, rfl, by rw [List.range_eq_range']; simp, Nat.zero_le _, by simpa [merged] using hd, hoo, Heap.SameBut.refl _ _⟩
    · rintro x rest b s' ⟨h', i, rfl, hr, hi, hd', hoo', hs'⟩
      have hlt : i < eso.size := by
        rcases Nat.lt_or_ge i eso.size with h | h
        · exact h
        · rw [Nat.sub_eq_zero_of_le h] at hr; simp at hr
      obtain ⟨rfl, hrest⟩ : x = i ∧ rest = List.range' (i + 1) (eso.size - (i + 1)) := by
        have e : eso.size - i = (eso.size - (i + 1)) + 1 := by omega
        rw [e, List.range'_succ] at hr
        injection hr with h1 h2
        exact ⟨h1, h2⟩
      refine wpAny_bind (wpAny_dictEntries hoo' hdo' ?_)
      rw [Array.getElem?_eq_getElem hlt]
      obtain ⟨kv, hkv⟩ : ∃ kv, more[x]? = some kv := ⟨more[x]'(by rw [hlen]; exact hlt), List.getElem?_eq_getElem _⟩
      obtain ⟨k, v⟩ := kv
      obtain ⟨hkey, hval⟩ := hpo.get? (e := eso[x]) (by simp [hlt]) hkv
      obtain ⟨k', hkey', hhash⟩ := hko eso[x] (Array.getElem_mem hlt)
      obtain rfl : k' = k := knd.inj _ _ _ hkey' hkey
      show wpAny _ _ (holding [eso[x].key, eso[x].val] (dictPut d eso[x].hash eso[x].key eso[x].val) >>= _) _ _ _
      rw [hhash, hval]
      have hmx : (merged kvs (more.take x)).length ≤ sizeLine := by
        have e1 := merged_length_le kvs (more.take x)
        have e2 : (more.take x).length ≤ more.length := by rw [List.length_take]; omega
        omega
      refine wpAny_bind (wpAny_holding (wpAny_dictPut hkey hd' (fun h'' hd'' hs'' => ?_) hmx))
      have hoo'' : h''.get? o = some oo := (hs''.2 o (Ne.symm hdo)).trans hoo'
      refine wpAny_bind (wpAny_dictEpoch hoo'' hdo' ?_)
      rw [if_neg (by simp)]
      exact wpAny_pure ⟨h'', x + 1, rfl, hrest, hlt, by rw [merged_take_succ kvs more x (k', v) hkv]; exact hd'', hoo'', hs'.trans hs''⟩
    · rintro b s' ⟨h', i, rfl, hr, hi, hd', hoo', hs'⟩
      have hin : i = eso.size := by
        rcases Nat.lt_or_ge i eso.size with h | h
        · have e : eso.size - i = (eso.size - (i + 1)) + 1 := by omega
          rw [e, List.range'_succ] at hr
          cases hr
        · omega
      subst hin
      refine wpAny_pure (hQ h' ?_ hs')
      rw [List.take_of_length_le (by omega)] at hd'
      exact hd'
  split
  · refine wpAny_bind (wpAny_dictEntries hoo hdo' ?_)
    refine wpAny_bind ?_
    rw [← Array.forIn_toList]
    refine wpAny_forIn_list _ (fun rest _ s' => s' = s ∧ ∀ e ∈ rest, ∀ a, e.key ≠ .ref a) _ ?_ ?_ _ _ ⟨rfl, fun e he a => ?_⟩
    · rintro e rest b s' ⟨rfl, hr⟩
      have h1 := hr e List.mem_cons_self
      have h2 : ∀ e' ∈ rest, ∀ a, e'.key ≠ .ref a := fun e' he' => hr e' (List.mem_cons_of_mem _ he')
      split
      · rename_i a ha
        exact (h1 a ha).elim
      · exact wpAny_pure ⟨rfl, h2⟩
    · rintro b s' ⟨rfl, _⟩
      exact main
    · obtain ⟨k, hk, _⟩ := hko e (by simpa using he)
      exact hnr k _ hk a
  · exact main
theorem wpAny_disp {κ : Type} [DecidableEq κ] {knd : KeyKind prog w κ} {m k v : Sem Value} {Q : Value → Shared → Prop} (hnr : ∀ k v, knd.is k v = true → ∀ a, v ≠ .ref a)
    (h : wpAny (model prog w) A m (fun mv s1 => ∃ (o : Addr) (more : List (κ × Value)), mv = .ref o ∧ s.heap.objs.size ≠ o ∧ (o == sysModules) = false ∧ s1.heap.DictOf knd s.heap.objs.size [] ∧ s1.heap.DictOf knd o more ∧ more.length ≤ 1000 ∧
      ∀ h1, h1.DictOf knd s.heap.objs.size (merged [] more) → Heap.SameBut s.heap.objs.size s1.heap h1 →
        wpAny (model prog w) A (evalPairs [(k, v)]) (fun vs s2 => ∃ kvs cur, Carries knd vs kvs ∧ s2.heap.DictOf knd h1.objs.size [] ∧ kvs.length ≤ 1000 ∧ (h1.objs.size == sysModules) = false ∧ s2.heap.DictOf knd s.heap.objs.size cur ∧ cur.length ≤ 2000 ∧
          ∀ h2 h3, h2.DictOf knd h1.objs.size (merged [] kvs) → Heap.SameBut h1.objs.size s2.heap h2 → h3.DictOf knd s.heap.objs.size (merged cur (merged [] kvs)) → Heap.SameBut s.heap.objs.size h2 h3 →
            Q (.ref s.heap.objs.size) { s2 with heap := h3, toks := s2.toks + vs.length }) E { s1 with heap := h1.push { cls := .type "dict", data := .dict #[] } }) E { s with heap := s.heap.push { cls := .type "dict", data := .dict #[] } }) :
    wpAny (model prog w) A (dictDisplay [(none, m), (some k, v)]) Q E s := by
  unfold dictDisplay
  simp only [List.forIn_cons, List.forIn_nil, pure_bind, bind_assoc, List.isEmpty_nil, if_true, List.nil_append, List.length_singleton]
  refine wpAny_bind (wpAny_alloc ?_)
  refine wpAny_bind (wpAny_holding (wpAny_mono h (fun mv s1 h1 => ?_) fun _ _ e => e))
  obtain ⟨o, more, rfl, hne, hsys, hd, ho, hm, h1⟩ := h1
  have hz : ([] : List (κ × Value)).length + more.length ≤ sizeLine := Nat.le_trans (show _ ≤ 100000 by simp; omega) (by decide)
  refine wpAny_bind (wpAny_onRaise (wpAny_tryCatch (wpAny_onRaise (wpAny_holding (wpAny_mergeMap (knd := knd) hnr hne hsys hd ho (fun h' hd' hs' => ?_) hz)))))
  rw [if_neg (by decide)]
  refine wpAny_bind (wpAny_pure ?_)
  refine wpAny_bind (wpAny_pure ?_)
  refine wpAny_bind ?_
  dsimp only
  rw [if_neg (show ¬ (List.isEmpty [(k, v)] = true) from Bool.false_ne_true)]
  refine wpAny_bind (wpAny_holding (wpAny_subDict (knd := knd) (by show 1 ≤ 15; decide) (wpAny_mono (h1 h' hd' hs') (fun vs s2 h2 => ?_) fun _ _ e => e)))
  obtain ⟨kvs, cur, hc, hsub, hk, hsys2, hdd, hcur, q⟩ := h2
  refine ⟨kvs, hc, hsub, fun h3 hsub3 hs3 => ?_⟩
  have hne2 : s.heap.objs.size ≠ h'.objs.size := by
    obtain ⟨ob, _, _, e, _⟩ := hd'
    exact Nat.ne_of_lt (Heap.lt_size e)
  have hdd3 : h3.DictOf knd s.heap.objs.size cur := by
    obtain ⟨ob, es, ep, e, r⟩ := hdd
    exact ⟨ob, es, ep, (hs3.2 _ hne2).trans e, r⟩
  have hz2 : cur.length + (merged [] kvs).length ≤ sizeLine := by
    have a2 := merged_length_le [] kvs
    exact Nat.le_trans (show _ ≤ 100000 by simp at a2; omega) (by decide)
  refine wpAny_bind (wpAny_onRaise (wpAny_holding (wpAny_mergeMap (knd := knd) hnr hne2 hsys2 hdd3 hsub3 (fun h4 hd4 hs4 => ?_) hz2)))
  refine wpAny_pure ?_
  exact wpAny_pure (q h3 h4 hsub3 hs3 hd4 hs4)
end
/-- {**m, k: v}: d the new dict, u the dict of the pair, made on the way -/
def tDispS (tm tk tv : TE) : TE := fun σ H Q => ∀ d, H d = none → tm σ (upd H d (.dK [])) fun x H1 => ∃ (o : Addr) (more : List (Key × V)), x = .ref o ∧ H1 o = some (.dK more) ∧ H1 d = some (.dK []) ∧ o ≠ d ∧ more.length ≤ 1000 ∧
  ∀ u, upd H1 d (.dK (mergeK [] more)) u = none → tk σ (upd (upd H1 d (.dK (mergeK [] more))) u (.dK [])) fun y H2 => tv σ H2 fun z H3 => ∃ k : Key, y = kV k ∧ H3 u = some (.dK []) ∧ H3 d = some (.dK (mergeK [] more)) ∧ u ≠ d ∧
    Q (.ref d) (upd (upd H3 u (.dK [(k, z)])) d (.dK (mergeK (mergeK [] more) [(k, z)])))
theorem pe_dispS {X : Cx} {pos : Pos} {m k v : Expr} {tm tk tv : TE} (hm : PE X m tm) (hk : PE X k tk) (hv : PE X v tv) : PE X (.Dict [none, some k] [m, v] pos) (tDispS tm tk tv) := by
  refine ⟨fun pins s σ H Q I h => ?_⟩
  rw [arm_eval_Dict]
  refine wpAny_bind (wpAny_standAt ?_)
  show wpAny _ _ (dictDisplay [(none, do let x ← eval m X.env; standAt pos; pure x), (some (eval k X.env), do let x ← eval v X.env; standAt pos; pure x)]) _ _ s
  have hn := I.hok.fresh (Nat.le_refl s.heap.objs.size)
  have I1 := I.laid (a := s.heap.objs.size) (o := .dK []) (h' := s.heap.push { cls := .type "dict", data := .dict #[] }) (t' := s.toks) (fun _ _ q => Heap.get?_push_of_some _ q) (Nat.le_refl _) (dk_empty s.heap I.big)
  refine wpAny_disp (knd := mixKind X.prog X.w) (fun k' v' hk' a => ?_) ?_
  · rcases keyIs_shape hk' with ⟨i, t, _, e⟩ | ⟨x, t, _, e⟩ <;> rw [e] <;> intro z <;> cases z
  refine wpAny_bind (thn (hm.run pins _ σ _ _ I1 (h _ hn)) fun mv s1 ⟨x, H1, I2, rx, o, more, ex, ho, hd, hod, hml, q⟩ => wpAny_bind (wpAny_standAt (wpAny_pure ?_)))
  subst ex
  obtain rfl : mv = Value.ref o := rx
  obtain ⟨z0, hdS, vs0, r0, dd0⟩ := dk_of I2.hok hd
  cases r0
  obtain ⟨zm, hoS, ms, rm, dm⟩ := dk_of I2.hok ho
  have hlm : ms.length = more.length := (Paired.length rm).symm
  refine ⟨o, ms, rfl, hod.symm, hoS, dd0, dm, by omega, fun h1 dd1 hs1 => ?_⟩
  have hzm : (mergeK [] more).length ≤ sizeLine := by
    have h1 := length_mergeK more []
    rw [List.length_nil] at h1
    exact Nat.le_trans (show _ ≤ 100000 by omega) (by decide)
  have he1 : ∃ q, h1.get? s.heap.objs.size = some q := let ⟨q, _, _, hq, _⟩ := dd1; ⟨q, hq⟩
  have I3 := d_write (t' := s1.toks) I2 (by rw [hd]; exact True.intro) hs1 he1 (dk_new hzm hdS (rm.merge .nil) dd1)
  have hun := I3.hok.fresh (Nat.le_refl h1.objs.size)
  have I4 := I3.laid (a := h1.objs.size) (o := .dK []) (h' := h1.push { cls := .type "dict", data := .dict #[] }) (t' := s1.toks) (fun _ _ q => Heap.get?_push_of_some _ q) (Nat.le_refl _) (dk_empty h1 I3.big)
  refine evalPairs_cons (thn (hk.run pins _ σ _ _ I4 (q _ hun)) fun kv s2 ⟨y, H2, I5, ry, q2⟩ => wpAny_bind (thn (hv.run pins _ σ _ _ I5 q2) fun vv s3 ⟨z, H3, I6, rz, key, ey, hu3, hd3, hud, q3⟩ => wpAny_bind (wpAny_standAt (wpAny_pure (evalPairs_nil ?_)))))
  subst ey
  obtain ⟨zu, huS, us0, ru, du⟩ := dk_of I6.hok hu3
  cases ru
  obtain ⟨zd, _, ds, rd, dd⟩ := dk_of I6.hok hd3
  have hlm2 : (mergeK [] more).length ≤ 1000 := by
    have h1 := length_mergeK more []
    rw [List.length_nil] at h1
    omega
  have hkey : (mixKind X.prog X.w).is key kv = true := kV_is ry
  have d2 : s3.heap.DictOf (mixKind X.prog X.w) h1.objs.size [] := du
  refine ⟨[(key, vv)], ds, ⟨hkey, rfl, trivial⟩, du, by simp, huS, dd, by rw [← Paired.length rd]; omega, fun h2' h3 du3 su dd3 sd => ?_⟩
  have hres : Inv X pins σ (upd (upd H3 h1.objs.size (.dK [(key, z)])) s.heap.objs.size (.dK (mergeK (mergeK [] more) [(key, z)]))) { s3 with heap := h3, toks := s3.toks + 1 } := by
    have rk : KV [(key, z)] [(key, vv)] := .cons ⟨rfl, rz⟩ .nil
    have heu : ∃ q, h2'.get? h1.objs.size = some q := let ⟨q, _, _, hq, _⟩ := du3; ⟨q, hq⟩
    have I7 := d_write (t' := s3.toks) I6 (by rw [hu3]; exact True.intro) su heu (dk_new (kvs := [(key, z)]) (by show 1 ≤ sizeLine; decide) huS (rk.merge .nil) du3)
    have hed : ∃ q, h3.get? s.heap.objs.size = some q := let ⟨q, _, _, hq, _⟩ := dd3; ⟨q, hq⟩
    have hd7 : upd H3 h1.objs.size (.dK [(key, z)]) s.heap.objs.size = some (.dK (mergeK [] more)) := by rw [upd_ne hud.symm]; exact hd3
    have hz9 : (mergeK (mergeK [] more) [(key, z)]).length ≤ sizeLine := by
      have h1 := length_mergeK [(key, z)] (mergeK [] more)
      exact Nat.le_trans (show _ ≤ 100000 by simp at h1; omega) (by decide)
    have I8 := d_write (t' := s3.toks + 1) I7 (by rw [hd7]; exact True.intro) sd hed (dk_new hz9 hdS (rk.merge rd) dd3)
    exact I8
  exact ⟨.ref s.heap.objs.size, _, hres, rfl, q3⟩
end PWK
namespace PWK
open PySem PySem.Spec PyProof.Rows L2 GxR
/-! ### all(isinstance(side, tuple) and 1 <= len(side) <= MOST_SIDE for side in a tuple of tuples) -/
section
variable {prog : Program} {w : World}
/-- the element, at a tuple of one to four things -/
theorem elt_side {K : PySem.W.Frag} {mg mb : Str → Option Value} {tk4 : Tok} {sc : Scope} (hk : sc.kind = .function) (hx : sc.names.lookup ("side" : Str) = some .local) (h1 : sc.names.lookup ("isinstance" : Str) = some .globalImplicit)
    (h2 : sc.names.lookup ("tuple" : Str) = some .globalImplicit) (h3 : sc.names.lookup ("len" : Str) = some .globalImplicit) (h4 : sc.names.lookup ("MOST_SIDE" : Str) = some .globalImplicit)
    (m1 : mg "isinstance" = none) (m2 : mg "tuple" = none) (m3 : mg "len" = none) (m4 : mg "MOST_SIDE" = some (.int 4 tk4))
    {cenv : Env} (hc : cenv.scope = sc) {A' : Around} {E' : Value → Shared → Prop} {p : Addr} {its : Array Value} {s₂ : Shared} {m₂ : Str → Option Value} (hn : s₂.heap.Ns cenv.locals m₂) (hv : m₂ "side" = some (.ref p)) (ht : IsTup s₂.heap p its) (hz : 1 ≤ its.size) (hz4 : its.size ≤ 4)
    (hK : K.In s₂.heap) (hg : s₂.heap.Ns cenv.globals mg) (hb : s₂.heap.Ns cenv.builtins mb) (hmb : ∀ x : Str, x ≠ "__name__" → mb x = bootBuiltins x) {p1 p2 p3 p4 p5 p6 p7 p8 p9 p10 p11 : Pos} :
    wpAny (model prog w) A' (eval (.BoolOp .And [.Call (.Name "isinstance" p1) [.Name "side" p2, .Name "tuple" p3] [] p4, .Compare (.Constant (.int 1) 0 p5) [.LtE, .LtE] [.Call (.Name "len" p6) [.Name "side" p7] [] p8, .Name "MOST_SIDE" p9] p10] p11) cenv)
      (fun y s₃ => y = .bool true ∧ Keeps s₂ s₃) E' s₂ := by
  subst hc
  have ho : (63 : Int) = 63 := rfl
  have loc : ∀ {E1 : Value → Shared → Prop} {Q : Value → Shared → Prop} {k : Nat} {q : Pos}, Q (.ref p) { s₂ with toks := k } → wpAny (model prog w) A' (eval (.Name "side" q) cenv) Q E1 { s₂ with toks := k } :=
    fun {E1 Q k q} h => wpAny_Name (wpAny_loadName_local hk hx (s := { s₂ with toks := k }) hn hv h) (by decide)
  have blt : ∀ {E1 : Value → Shared → Prop} {Q : Value → Shared → Prop} {k : Nat} {q : Pos} {x : Str} {u : Value}, cenv.scope.names.lookup x = some .globalImplicit → mg x = none → bootBuiltins x = some u → x ≠ "__name__" → (x == ("__debug__" : Str)) = false → Q u { s₂ with toks := k } → wpAny (model prog w) A' (eval (.Name x q) cenv) Q E1 { s₂ with toks := k } :=
    fun {E1 Q k q x u} a b c d e h => Calls.Name_function_global (s := { s₂ with toks := k }) hk a (Calls.loadGlobal_builtin (s := { s₂ with toks := k }) hg b hb ((hmb x d).trans c) h) e
  refine BoolOp_and ?_
  refine wpAny_Call_Name_kw (blt (k := s₂.toks) h1 m1 (boot_isinstance) (by decide) (by decide) ?_)
  refine PyProof.Rows.callWith_builtin1 ?_ (by rfl) (by rfl)
  show wpAny _ _ (spliced ((false, eval (.Name "side" p2) cenv) :: (false, eval (.Name "tuple" p3) cenv) :: [])) _ _ _
  refine Calls.spliced_cons (loc ?_)
  refine Calls.spliced_cons (blt h2 m2 (u := .type "tuple") boot_tuple (by decide) (by decide) ?_)
  refine Calls.spliced_nil ?_
  have hcls : PySem.W.KitAt p "tuple" s₂.heap := let ⟨o, a, b, _⟩ := ht; ⟨o, a, b⟩
  refine PySem.W.kia_one (b := true) PySem.W.kitx_tuple hK hcls (by unfold PySem.W.kitOne; rw [if_pos (by simp)]) (by intro z; cases z) fun k => ?_
  refine wpAny_truthy_bool ?_
  rw [if_pos rfl]
  refine BoolOp_one (Compare_chain (wpAny_Constant_int ?_) (by with_unfolding_all rfl))
  refine chain_link ?_
  refine wpAny_Call_Name_kw (blt h3 m3 (boot_len) (by decide) (by decide) ?_)
  refine PyProof.Rows.callWith_builtin1 ?_ (by rfl) (by rfl)
  show wpAny _ _ (spliced ((false, eval (.Name "side" p7) cenv) :: [])) _ _ _
  refine Calls.spliced_cons (loc ?_)
  refine Calls.spliced_nil ?_
  refine len_tuple ht (by omega) ?_
  refine PyProof.Rows.le_int ?_
  refine wpAny_truthy_bool ?_
  rw [decide_eq_true (by omega)]
  refine ite_tt ?_
  refine chain_last ?_
  refine Calls.Name_function_global hk h4 (Calls.loadGlobal_global hg m4 ?_) (by decide)
  refine PyProof.Rows.le_int ?_
  rw [decide_eq_true (by omega)]
  exact ⟨rfl, keeps_tok _ _⟩
end
section
variable {X : Cx} {pins : List (Addr × Obj)} {σ : L2.St} {H : Hp} {s : Shared}
/-- a tuple of one to four things -/
def Side (H : Hp) (x : V) : Prop := ∃ p ws, x = .ref p ∧ H p = some (.tup ws) ∧ 1 ≤ ws.length ∧ ws.length ≤ 4
def ReadyT (X : Cx) (pins : List (Addr × Obj)) (σ : L2.St) (H1 : Hp) (P : Addr) (n : Nat) (g : Addr) (s5 : Shared) : Prop :=
  ∃ (fp wr : List Addr) (G : Array GenState → Array GenState → Prop) (F : Nat → Value → Prop) (St : Nat → Shared → Prop),
    WalksS X.prog X.w X.A.in1 g fp wr G n F St ∧ St 0 s5 ∧
    TruthOf X.prog X.w X.A.in1 F (fun _ => true) ∧
    ∀ s', Moved wr G s5 s' → ∃ H2, Tabbed P H1 H2 ∧ Inv X pins σ H2 s'
theorem vals_get : ∀ {xs : List V} {us : List Value}, Vals xs us → ∀ (i : Nat) (u : Value), us[i]? = some u → ∃ x, xs[i]? = some x ∧ RelV x u := by
  intro xs us h
  induction h with
  | nil => intro i u e; simp at e
  | @cons x u xs us r _ ih =>
    intro i y e
    cases i with
    | zero => simp at e; subst e; exact ⟨x, by simp, r⟩
    | succ i => simpa using ih i y (by simpa using e)
theorem gen_tup {c P : Addr} {iter : Expr} {px gpos : Pos} {scope : Scope} {te : TE} {k : Nat} {Q' : Value → Shared → Prop} {R : Hp → Prop} {tk4 : Tok} {p1 p2 p3 p4 p5 p6 p7 p8 p9 p10 p11 : Pos}
    (hr : Room k X.A) (TB : TabB X.base X.mg c P) (hcode : X.env.code = .ref c) (S : GenS X.env scope "side") (hi : PE X iter te)
    (h1 : scope.names.lookup ("isinstance" : Str) = some .globalImplicit) (h2 : scope.names.lookup ("tuple" : Str) = some .globalImplicit) (h3 : scope.names.lookup ("len" : Str) = some .globalImplicit) (h4 : scope.names.lookup ("MOST_SIDE" : Str) = some .globalImplicit)
    (m1 : X.mg "isinstance" = none) (m2 : X.mg "tuple" = none) (m3 : X.mg "len" = none) (m4 : X.mg "MOST_SIDE" = some (.int 4 tk4))
    (hs : ∀ v, genFold iter X.env v = pure v) (I : Inv X pins σ H s) (h : te σ H fun v H1 => ∃ a vs, v = .ref a ∧ H1 a = some (.tup vs) ∧ (∀ x ∈ vs, Side H1 x) ∧ TabG H1 P ∧ R H1)
    (hQ : ∀ H1 n g s5, R H1 → ReadyT X pins σ H1 P n g s5 → Q' (.ref g) s5) :
    wpAny (model X.prog X.w) X.A (eval (.GeneratorExp (.BoolOp .And [.Call (.Name "isinstance" p1) [.Name "side" p2, .Name "tuple" p3] [] p4, .Compare (.Constant (.int 1) 0 p5) [.LtE, .LtE] [.Call (.Name "len" p6) [.Name "side" p7] [] p8, .Name "MOST_SIDE" p9] p10] p11) [⟨.Name "side" px, iter, [], 0⟩] scope gpos) X.env) Q' X.xe s := by
  refine wpAny_GeneratorExp_walksQ hr.hd S.co (closure_ok S.free) S.cell S.dot S.loc S.kind (by have := hr.dp; omega) ?_ hs
  refine thn (hi.run pins s σ H _ I h) fun xv s1 ⟨v, H1, I1, r1, q1⟩ => ?_
  obtain ⟨a, vs, rfl, ha, hside, ⟨ps, hP, ht⟩, q1⟩ := q1
  cases r1
  obtain ⟨hvl, its, hvals, hT1⟩ := (show ObjOk X.prog X.w H1 s1.heap a (.tup vs) from I1.hok a _ ha)
  have hT : s1.heap.IsTuple a its.toArray := hT1
  refine wpAny_pyIter_tuple hT ?_
  have halt : a < s1.heap.objs.size := hT1.lt
  have hPs : s1.heap.get? P = some { cls := .none, data := .fields ps } := I1.hok P _ hP
  have hPlt : P < s1.heap.objs.size := Heap.lt_size hPs
  generalize ho : ({ cls := .type "tuple_iterator", data := .fields #[.ref a, .int 0 0] } : Obj) = o
  have hget : (s1.heap.push o).get? s1.heap.objs.size = some o := by subst ho; exact Heap.get?_push_size _ rfl
  have hP2 : (s1.heap.push o).get? P = some { cls := .none, data := .fields ps } := Heap.get?_push_of_some _ hPs
  have cd : PySem.W.CodeHd (s1.heap.push o) c P := TB.code.keeps fun b u e => Heap.get?_push_of_some _ (I1.bk b u e)
  have lim2 : (s1.heap.push o).NoLimit := I1.nolimit.push o
  have aP : a ≠ P := fun z => by rw [z, hP] at ha; cases ha
  have cont : ∀ (code : Value) (hp3 : Heap) (tk : Nat) (ps' : Array Value), Heap.ExtBut P (s1.heap.push o) hp3 → (s1.heap.push o).objs.size ≤ hp3.objs.size → hp3.get? P = some { cls := .none, data := .fields ps' } → (∃ more, ps' = ps ++ more) → TriplesOk ps'.toList →
      wpAny (model X.prog X.w) X.A (builtinsFor X.env.globals X.env.builtins) (fun bi s₄ =>
        ∃ Ia fp wr n₀ Pf St₀ pz F, Value.ref s1.heap.objs.size = .ref Ia ∧ (∀ A' : Around, A'.handled = none → Walks X.prog X.w A' Ia fp wr n₀ Pf St₀) ∧ St₀ 0 s₄.heap ∧ (∀ b ∈ fp, b < s₄.heap.objs.size) ∧ s₄.heap.NoLimit ∧ cStatics ∉ wr ∧
          (∀ href : Heap, (∀ b o, s₄.heap.get? b = some o → href.get? b = some o) →
            QuietGen X.prog X.w (genEnv scope (cloFrom X.env.cells scope.names []) s₄.heap.objs.size code bi X.env) ("side" : Str) [] (.BoolOp .And [.Call (.Name "isinstance" p1) [.Name "side" p2, .Name "tuple" p3] [] p4, .Compare (.Constant (.int 1) 0 p5) [.LtE, .LtE] [.Call (.Name "len" p6) [.Name "side" p7] [] p8, .Name "MOST_SIDE" p9] p10] p11) (List.range s₄.heap.objs.size) wr Pf pz F href) ∧
          (∀ a h₅ tk gs, gs.bare = true → s₄.heap.objs.size < a → h₅.objs.size = a + 1 → (∀ b o, s₄.heap.get? b = some o → h₅.get? b = some o) →
            WalksS X.prog X.w X.A.in4 a (a :: s₄.heap.objs.size :: List.range s₄.heap.objs.size) (s₄.heap.objs.size :: wr) (GenOnlyQ s₄.gens.size) (passing pz n₀ 0).length
              (fun j y => ∃ i, (passing pz n₀ 0)[j]? = some i ∧ F i y) (GenAt X.prog X.w X.A.in4 a s₄.gens.size s₄.heap.objs.size (List.range s₄.heap.objs.size) wr pz n₀ F) →
            GenAt X.prog X.w X.A.in4 a s₄.gens.size s₄.heap.objs.size (List.range s₄.heap.objs.size) wr pz n₀ F 0 { s₄ with gens := s₄.gens.push gs, toks := tk, heap := h₅ } →
            Q' (.ref a) { s₄ with gens := s₄.gens.push gs, toks := tk, heap := h₅ })) X.xe { s1 with heap := hp3, toks := tk } := by
    intro code hp3 tk ps' hx hsz hP3 hmore ht3
    obtain ⟨bm, ob, e1, e2, e3, e4, e5, e6, e7, e8⟩ := TB.bm
    have hcP : cStatics ≠ P := fun e => by
      obtain ⟨_, hns, _⟩ := I1.nolimit
      obtain ⟨o', es, ep, ho, hd, _⟩ := hns
      rw [e, hPs] at ho
      cases ho
      cases hd
    have hcl : cStatics < s1.heap.objs.size := let ⟨_, hns, _⟩ := I1.nolimit; hns.lt
    have sz2 : (s1.heap.push o).objs.size = s1.heap.objs.size + 1 := Heap.size_push ..
    have keep3 : ∀ b u, b ≠ P → s1.heap.get? b = some u → hp3.get? b = some u := fun b u hb e => hx b u hb (Heap.get?_push_of_some _ e)
    refine wpAny_builtinsFor (m := X.mg) (by rw [I1.ok.glob]; exact ((I1.mod.glob.keeps I1.bk).push o).extBut hx TB.gP) e1 e2 (keep3 _ _ e4 (I1.bk _ _ e5)) e6 e7 e8 ?_
    have St0 : hp3.IsTupleIter s1.heap.objs.size a 0 ∧ hp3.IsTuple a its.toArray := by
      refine ⟨⟨o, hx _ _ (fun z => Nat.ne_of_lt hPlt z.symm) hget, ?_⟩, ?_⟩
      · subst ho; exact ⟨rfl, rfl⟩
      · obtain ⟨oo, f1, f2⟩ := hT
        exact ⟨oo, keep3 _ _ aP f1, f2⟩
    refine ⟨s1.heap.objs.size, [s1.heap.objs.size, a], [s1.heap.objs.size], its.toArray.size, (fun i v => its.toArray[i]? = some v), _, (fun _ => true), (fun i y => y = .bool true), rfl, (fun A' hA => Walks.tuple hA s1.heap.objs.size a (Nat.ne_of_lt halt) its.toArray), St0, ?_, lim2.extBut hx hcP, ?_, ?_, ?_⟩
    · intro b hb
      rcases List.mem_cons.mp hb with z | z
      · rw [z]
        show s1.heap.objs.size < hp3.objs.size
        omega
      · rcases List.mem_cons.mp z with z | z
        · rw [z]
          exact Nat.lt_of_lt_of_le halt (by show s1.heap.objs.size ≤ hp3.objs.size; omega)
        · cases z
    · intro z
      rcases List.mem_cons.mp z with z | z
      · exact Nat.ne_of_lt hcl z
      · cases z
    · intro href hhref
      refine ⟨fun A' E' i v s₂ m₂ hA hPv hn hm hk => ?_, fun A' E' i v s₂ m₂ hA hPv hp hn hm hk => ?_⟩
      · simp only [List.forIn_nil]
        exact wpAny_pure ⟨rfl, keeps_refl _⟩
      · have hkeep : ∀ b u, b ≠ P → s1.heap.get? b = some u → s₂.heap.get? b = some u := fun b u hb e => by
          have hl : (b : Nat) < s1.heap.objs.size := Heap.lt_size e
          refine hk b (List.mem_range.mpr (Nat.lt_of_lt_of_le hl (by show s1.heap.objs.size ≤ hp3.objs.size; omega))) (fun z => ?_) u (hhref b u (keep3 b u hb e))
          rcases List.mem_cons.mp z with z | z
          · rw [z] at hl; exact Nat.lt_irrefl _ hl
          · cases z
        have hbase : ∀ b u, X.base.get? b = some u → s₂.heap.get? b = some u := fun b u e => by
          obtain ⟨q1, q2⟩ := I1.bs b u e
          exact hkeep b u (fun z => by rw [z, hP] at q2; cases q2) q1
        obtain ⟨x, hx1, rx⟩ := vals_get hvals i v (by simpa using hPv)
        obtain ⟨p, ws, rfl, hp1, hz, hz4⟩ := hside x (List.mem_of_getElem? hx1)
        cases rx
        obtain ⟨_, its2, hv2, hT2⟩ := (show ObjOk X.prog X.w H1 s1.heap p (.tup ws) from I1.hok p _ hp1)
        have hl2 := hv2.length
        obtain ⟨oo, f1, f2⟩ := hT2
        obtain ⟨mb, b1, b2⟩ := I1.mod.blt
        exact elt_side (K := X.K) (mg := X.mg) (mb := mb) (its := its2.toArray) S.kind S.loc h1 h2 h3 h4 m1 m2 m3 m4 rfl hn hm ⟨oo, hkeep p _ (fun z => by rw [z, hP] at hp1; cases hp1) f1, f2⟩ (by simp only [List.size_toArray]; omega) (by simp only [List.size_toArray]; omega)
          (I1.mod.kin.keeps hbase) (by show s₂.heap.Ns X.env.globals X.mg; rw [I1.ok.glob]; exact I1.mod.glob.keeps hbase) (b1.keeps hbase) b2
    · intro g h5 tk5 gs hgb hag hsz5 hk5 W5 hat
      simp only [GxR.passing_true, List.length_range] at W5
      refine hQ H1 _ g _ q1 ⟨_, _, _, _, _, W5.in4_1, hat, ?_, fun s' hm => ?_⟩
      · intro j y sj Qj Ej hy hQj
        obtain ⟨i, hij, rfl⟩ := hy
        exact wpAny_truthy_bool hQj
      · obtain ⟨more, em⟩ := hmore
        have nwr : ∀ b u, s1.heap.get? b = some u → b ∉ hp3.objs.size :: [s1.heap.objs.size] := fun b u e hb => by
          have hl := Heap.lt_size e
          rcases List.mem_cons.mp hb with z | z
          · rw [z] at hl
            have h9 : (hp3.objs.size : Nat) < s1.heap.objs.size := hl
            omega
          · rcases List.mem_cons.mp z with z | z
            · rw [z] at hl
              exact Nat.lt_irrefl _ hl
            · cases z
        have J := inv_tab (more := more) (h' := s'.heap) (g' := s'.gens) (d' := s'.drawn) (t' := s'.toks) I1 hP (fun b u hb e => hm.heap b u (nwr b u e) (hk5 b u (keep3 b u hb e)))
          (by rw [← em]; exact hm.heap P _ (nwr P _ hPs) (hk5 P _ hP3)) (AllBare.movedS (I1.bare.push hgb) hm)
        rw [sh_eta s1 s' hm.os] at J
        refine ⟨upd H1 P (.tbl (ps ++ more)), ⟨⟨ps ++ more, upd_same, by rw [← em]; exact ht3⟩, fun b hb => upd_ne hb⟩, J⟩
  refine ⟨lim2, ?_⟩
  cases hf : codeAmong gpos ps.toList with
  | none =>
    refine wpAny_genexprCodeX hcode (cd.code hP2 ht) (cd.tab hP2) hf fun c' h' tk hx hge hlt hco' _ htab' _ => ?_
    obtain ⟨o1, vs, f1, tf, fl, tg, inF, tx, tt, op, _, _, _, _, _, _, _, _, _, htr, _⟩ := hco'
    exact cont _ h' tk _ hx (Nat.le_trans hge (Nat.le_of_lt hlt)) htab'.2 ⟨_, rfl⟩ htr
  | some cv =>
    refine wpAny_genexprCode_hit hcode (cd.code hP2 ht) hf ?_
    exact cont cv (s1.heap.push o) s1.toks ps (Heap.ExtBut.refl _ _) (Nat.le_refl _) hP2 ⟨#[], by simp⟩ ht
/-- it is true; behind it the def's table may have grown -/
def tAllT (P : Addr) (te : TE) : TE := fun σ H Q => te σ H fun v H1 => ∃ a vs, v = .ref a ∧ H1 a = some (.tup vs) ∧ (∀ x ∈ vs, Side H1 x) ∧ TabG H1 P ∧ ∀ H2, Tabbed P H1 H2 → Q (.bl true) H2
theorem pe_allT {c P : Addr} {iter : Expr} {px p pos gpos : Pos} {scope : Scope} {te : TE} {k : Nat} {tk4 : Tok} {p1 p2 p3 p4 p5 p6 p7 p8 p9 p10 p11 : Pos}
    (hr : Room k X.A) (hg : Gl X "all") (hm : X.mg "all" = none) (TB : TabB X.base X.mg c P) (hcode : X.env.code = .ref c) (S : GenS X.env scope "side") (hi : PE X iter te)
    (h1 : scope.names.lookup ("isinstance" : Str) = some .globalImplicit) (h2 : scope.names.lookup ("tuple" : Str) = some .globalImplicit) (h3 : scope.names.lookup ("len" : Str) = some .globalImplicit) (h4 : scope.names.lookup ("MOST_SIDE" : Str) = some .globalImplicit)
    (m1 : X.mg "isinstance" = none) (m2 : X.mg "tuple" = none) (m3 : X.mg "len" = none) (m4 : X.mg "MOST_SIDE" = some (.int 4 tk4))
    (hs : ∀ v, genFold iter X.env v = pure v) :
    PE X (.Call (.Name "all" p) [.GeneratorExp (.BoolOp .And [.Call (.Name "isinstance" p1) [.Name "side" p2, .Name "tuple" p3] [] p4, .Compare (.Constant (.int 1) 0 p5) [.LtE, .LtE] [.Call (.Name "len" p6) [.Name "side" p7] [] p8, .Name "MOST_SIDE" p9] p10] p11) [⟨.Name "side" px, iter, [], 0⟩] scope gpos] [] pos) (tAllT P te) := by
  refine ⟨fun pins s σ H Q I h => ?_⟩
  refine wpAny_Call_Name_kw (ld_blt I hg hm boot_all ?_)
  refine PyProof.Rows.callWith_builtin1 ?_ (by rfl) (by rfl)
  rw [show starEach [Expr.GeneratorExp (.BoolOp .And [.Call (.Name "isinstance" p1) [.Name "side" p2, .Name "tuple" p3] [] p4, .Compare (.Constant (.int 1) 0 p5) [.LtE, .LtE] [.Call (.Name "len" p6) [.Name "side" p7] [] p8, .Name "MOST_SIDE" p9] p10] p11) [⟨.Name "side" px, iter, [], 0⟩] scope gpos] X.env = (false, eval (.GeneratorExp (.BoolOp .And [.Call (.Name "isinstance" p1) [.Name "side" p2, .Name "tuple" p3] [] p4, .Compare (.Constant (.int 1) 0 p5) [.LtE, .LtE] [.Call (.Name "len" p6) [.Name "side" p7] [] p8, .Name "MOST_SIDE" p9] p10] p11) [⟨.Name "side" px, iter, [], 0⟩] scope gpos) X.env) :: starEach [] X.env by rfl]
  refine Calls.spliced_cons (gen_tup (R := fun H1 => ∀ H2, Tabbed P H1 H2 → Q (.bl true) H2) hr TB hcode S hi h1 h2 h3 h4 m1 m2 m3 m4 hs I h fun H1 n g s5 hR hG => ?_)
  obtain ⟨fp, wr, G, F, St, W, hst, htr, hI⟩ := hG
  refine Calls.spliced_nil ?_
  refine call_all_walkS (W.self 0 _ _ _ hst ⟨g, fp, wr, G, _, F, St, _, rfl, W, hst, htr, fun s' hmv => ?_⟩)
  obtain ⟨H2, hT, J⟩ := hI s' hmv
  refine ⟨.bl _, H2, J, rfl, ?_⟩
  rw [show (List.range n).all (fun _ => true) = true by simp]
  exact hR H2 hT
end
end PWK
namespace PWK
open PySem PySem.Spec PyProof.Rows L2
abbrev sRatio : Stmt := topS 7
abbrev sPlus : Stmt := topS 8
abbrev sMinus : Stmt := topS 9
abbrev sBy : Stmt := topS 10
abbrev sOver : Stmt := topS 11
abbrev sLess : Stmt := topS 12
abbrev sTotal : Stmt := topS 13
theorem scRatio : FnScope ["top", "bottom", "common"] ["top", "bottom"] (defScope sRatio) := ⟨rfl, rfl, rfl, by decide +kernel, rfl, by decide +kernel, by decide +kernel⟩
theorem sc2 {s : Stmt} (h1 : (defScope s).kind = .function := by rfl) (h2 : (defScope s).isCoroutine = false := by rfl) (h3 : (defScope s).isGenerator = false := by rfl) (h4 : ∀ x ∈ (["one", "other"] : List Str), (defScope s).names.lookup x = some .local ∨ (defScope s).names.lookup x = some .cell := by decide +kernel)
    (h5 : ∀ y ∈ (defScope s).names, y.2 ≠ .free := by decide +kernel) : FnScope ["one", "other"] ["one", "other"] (defScope s) := ⟨h1, h2, h3, by decide +kernel, rfl, h4, h5⟩
section
variable {P : Program} {w : World} {K : PySem.W.Frag} {mg : Str → Option Value} {base : Heap}
/-! ### ratios -/
def spRatio : Sp := fun vs H Q _ => ∃ t b : Int, vs = [.int t, .int b] ∧ b ≠ 0 ∧ b.natAbs < 2 ^ 9000 ∧ ∀ H' v, Ext [] H H' → Rt H' v ((t : Rat) / (b : Rat)) → Q v H'
theorem ok_ratio {f : Addr} {fd : FuncData} (F : Fun K "ratio" "ratio" sRatio f fd) (mG : mg "gcd" = some (.builtin "math.gcd")) : FnOk P w K mg base CX0 1 f fd ["top", "bottom"] spRatio := by
  refine F.ok scRatio (fun vs H Q E h => ?_) (fun cdv A outer s H vs Q E hr h => ?_)
  · obtain ⟨t, b, rfl, _⟩ := h
    rfl
  · obtain ⟨t, b, rfl, hb, hl, q⟩ := h
    refine ⟨_, pss_cons (ps_set (i := 2) scRatio.nd rfl (.inl rfl) (pe_ifExp (pt_cmpR op_gt (pv 1) pe_int (nomark _))
        (pe_callBfun cr_gcd (by rfl) mG (pa_cons (pv 0) (pa_cons (pv 1) pa_nil))) (pe_op op_sub pe_int (pe_callBfun cr_gcd (by rfl) mG (pa_cons (pv 0) (pa_cons (pv 1) pa_nil))))))
      (pss_one (ps_ret (pe_tup (pa_cons (pe_op op_fdivX (pv 0) (pv 2)) (pa_cons (pe_op op_fdivX (pv 1) (pv 2)) pa_nil))))), ?_⟩
    have go : ∀ c : Int, (c = if 0 < b then ((t.natAbs.gcd b.natAbs : Nat) : Int) else 0 - ((t.natAbs.gcd b.natAbs : Nat) : Int)) →
        tRet (tTup (tCons (tOp (rI (fun _ j => j ≠ 0 ∧ j.natAbs.log2 < 9000) fun i j => .int (i.fdiv j)) (tVar 0) (tVar 2)) (tCons (tOp (rI (fun _ j => j ≠ 0 ∧ j.natAbs.log2 < 9000) fun i j => .int (i.fdiv j)) (tVar 1) (tVar 2)) tNil)))
          { nx := fun _ H' => Q .non H', rt := Q } [some (.int t), some (.int b), some (.int c)] H := fun c hc => by
      obtain ⟨h1, h2, h3, h4⟩ := PW.ratio_val hb hc
      have h5 : c.natAbs.log2 < 9000 := log_lt (Nat.lt_of_le_of_lt h2 hl) (by decide)
      refine ⟨_, rfl, _, rfl, t, c, rfl, rfl, ⟨h1, h5⟩, _, rfl, _, rfl, b, c, rfl, rfl, ⟨h1, h5⟩, two_le, fun p hp => ?_⟩
      refine q _ _ (Ext.new hp) ⟨p, rfl, ?_⟩
      rw [upd_same, ← h3, ← h4]
    refine ⟨_, rfl, _, _, rfl, rfl, _, rfl, ite2 (fun c => ?_) (fun c => ?_)⟩
    · have c' : 0 < b := of_decide_eq_true c
      refine ⟨_, rfl, _, rfl, t, b, rfl, ?_⟩
      exact go _ (by rw [if_pos c'])
    · have c' : ¬ 0 < b := of_decide_eq_false (Bool.eq_false_iff.mpr c)
      refine ⟨_, rfl, _, rfl, t, b, rfl, 0, _, rfl, rfl, ?_⟩
      exact go _ (by rw [if_neg c'])
/-- a def of two ratios: what it gives, where it may be asked -/
def spBin (g : Rat → Rat → Rat) (ok : Rat → Rat → Prop) : Sp := fun vs H Q _ => ∃ (v1 v2 : V) (x y : Rat) (a b : Nat), vs = [v1, v2] ∧ Rt H v1 x ∧ Rt H v2 y ∧ PW.Bk a x ∧ PW.Bk b y ∧ ok x y ∧ (0 < a ∧ 0 < b ∧ a + b ≤ 8999) ∧
  ∀ H' v, Ext [] H H' → Rt H' v (g x y) → Q v H'
theorem mw {i j : Int} {a b : Nat} (ha : i.natAbs < 2 ^ a) (hb : j.natAbs < 2 ^ b) (h : 0 < a ∧ 0 < b ∧ a + b ≤ 8999) : CMulW i j := wide_mul ha hb h.1 h.2.1 (by omega)
theorem dlt {r : Rat} {a : Nat} (h : PW.Bk a r) : ((r.den : Int)).natAbs < 2 ^ a := by simpa using h.2
theorem dne (x y : Rat) : (x.den : Int) * (y.den : Int) ≠ 0 := by
  have := x.den_nz
  have := y.den_nz
  exact Int.mul_ne_zero (by omega) (by omega)
theorem swp {a b : Nat} (h : 0 < a ∧ 0 < b ∧ a + b ≤ 8999) : 0 < b ∧ 0 < a ∧ b + a ≤ 8999 := by omega
theorem lim {i : Int} {a b : Nat} (h : i.natAbs < 2 ^ (a + b)) (hl : 0 < a ∧ 0 < b ∧ a + b ≤ 8999) : i.natAbs < 2 ^ 9000 := Nat.lt_of_lt_of_le h (Nat.pow_le_pow_right (by decide) (by omega))
theorem ok_plus {f fR : Addr} {fd fdR : FuncData} (F : Fun K "plus" "plus" sPlus f fd) (FR : Fun K "ratio" "ratio" sRatio fR fdR) (bR : Binds K fdR ["top", "bottom"] []) (gR : mg "ratio" = some (.ref fR)) (mG : mg "gcd" = some (.builtin "math.gcd")) :
    FnOk P w K mg base CX0 2 f fd ["one", "other"] (spBin (fun x y => x + y) fun _ _ => True) := by
  have GR : FnOk P w K mg base CX0 1 fR fdR ["top", "bottom"] spRatio := ok_ratio FR mG
  refine F.ok sc2 (fun vs H Q E h => ?_) (fun cdv A outer s H vs Q E hr h => ?_)
  · obtain ⟨v1, v2, _, _, _, _, rfl, _⟩ := h
    rfl
  · obtain ⟨v1, v2, x, y, a, b, rfl, ⟨a1, rfl, h1⟩, ⟨a2, rfl, h2⟩, bx, by_, _, hl, q⟩ := h
    refine ⟨_, pss_one (ps_ret (pe_call GR hr (by rfl) gR FR.kp bR .nil pass0 (pa_cons (pe_op op_add (pe_op op_mulW (tx (pv 0) pe_int) (tx (pv 1) pe_int)) (pe_op op_mulW (tx (pv 1) pe_int) (tx (pv 0) pe_int)))
      (pa_cons (pe_op op_mulW (tx (pv 0) pe_int) (tx (pv 1) pe_int)) pa_nil)))), ?_⟩
    refine ⟨_, rfl, a1, _, 0, _, rfl, rfl, SqT.of h1, atI_0, _, rfl, a2, _, 1, _, rfl, rfl, SqT.of h2, atI_1, _, _, rfl, rfl, mw bx.1 (dlt by_) hl, ?_⟩
    refine ⟨_, rfl, a2, _, 0, _, rfl, rfl, SqT.of h2, atI_0, _, rfl, a1, _, 1, _, rfl, rfl, SqT.of h1, atI_1, _, _, rfl, rfl, mw by_.1 (dlt bx) (swp hl), _, _, rfl, rfl, ?_⟩
    refine ⟨_, rfl, a1, _, 1, _, rfl, rfl, SqT.of h1, atI_1, _, rfl, a2, _, 1, _, rfl, rfl, SqT.of h2, atI_1, _, _, rfl, rfl, mw (dlt bx) (dlt by_) hl, ?_⟩
    refine ⟨_, _, rfl, dne x y, lim (PW.natAbs_mul_lt (dlt bx) (dlt by_)) hl, fun H' v e hv => ?_⟩
    rw [PW.plus_eq] at hv
    exact q H' v e hv
theorem ok_minus {f fR : Addr} {fd fdR : FuncData} (F : Fun K "minus" "minus" sMinus f fd) (FR : Fun K "ratio" "ratio" sRatio fR fdR) (bR : Binds K fdR ["top", "bottom"] []) (gR : mg "ratio" = some (.ref fR)) (mG : mg "gcd" = some (.builtin "math.gcd")) :
    FnOk P w K mg base CX0 2 f fd ["one", "other"] (spBin (fun x y => x - y) fun _ _ => True) := by
  have GR : FnOk P w K mg base CX0 1 fR fdR ["top", "bottom"] spRatio := ok_ratio FR mG
  refine F.ok sc2 (fun vs H Q E h => ?_) (fun cdv A outer s H vs Q E hr h => ?_)
  · obtain ⟨v1, v2, _, _, _, _, rfl, _⟩ := h
    rfl
  · obtain ⟨v1, v2, x, y, a, b, rfl, ⟨a1, rfl, h1⟩, ⟨a2, rfl, h2⟩, bx, by_, _, hl, q⟩ := h
    refine ⟨_, pss_one (ps_ret (pe_call GR hr (by rfl) gR FR.kp bR .nil pass0 (pa_cons (pe_op op_sub (pe_op op_mulW (tx (pv 0) pe_int) (tx (pv 1) pe_int)) (pe_op op_mulW (tx (pv 1) pe_int) (tx (pv 0) pe_int)))
      (pa_cons (pe_op op_mulW (tx (pv 0) pe_int) (tx (pv 1) pe_int)) pa_nil)))), ?_⟩
    refine ⟨_, rfl, a1, _, 0, _, rfl, rfl, SqT.of h1, atI_0, _, rfl, a2, _, 1, _, rfl, rfl, SqT.of h2, atI_1, _, _, rfl, rfl, mw bx.1 (dlt by_) hl, ?_⟩
    refine ⟨_, rfl, a2, _, 0, _, rfl, rfl, SqT.of h2, atI_0, _, rfl, a1, _, 1, _, rfl, rfl, SqT.of h1, atI_1, _, _, rfl, rfl, mw by_.1 (dlt bx) (swp hl), _, _, rfl, rfl, ?_⟩
    refine ⟨_, rfl, a1, _, 1, _, rfl, rfl, SqT.of h1, atI_1, _, rfl, a2, _, 1, _, rfl, rfl, SqT.of h2, atI_1, _, _, rfl, rfl, mw (dlt bx) (dlt by_) hl, ?_⟩
    refine ⟨_, _, rfl, dne x y, lim (PW.natAbs_mul_lt (dlt bx) (dlt by_)) hl, fun H' v e hv => ?_⟩
    rw [PW.minus_eq] at hv
    exact q H' v e hv
theorem ok_by {f fR : Addr} {fd fdR : FuncData} (F : Fun K "by" "by" sBy f fd) (FR : Fun K "ratio" "ratio" sRatio fR fdR) (bR : Binds K fdR ["top", "bottom"] []) (gR : mg "ratio" = some (.ref fR)) (mG : mg "gcd" = some (.builtin "math.gcd")) :
    FnOk P w K mg base CX0 2 f fd ["one", "other"] (spBin (fun x y => x * y) fun _ _ => True) := by
  have GR : FnOk P w K mg base CX0 1 fR fdR ["top", "bottom"] spRatio := ok_ratio FR mG
  refine F.ok sc2 (fun vs H Q E h => ?_) (fun cdv A outer s H vs Q E hr h => ?_)
  · obtain ⟨v1, v2, _, _, _, _, rfl, _⟩ := h
    rfl
  · obtain ⟨v1, v2, x, y, a, b, rfl, ⟨a1, rfl, h1⟩, ⟨a2, rfl, h2⟩, bx, by_, _, hl, q⟩ := h
    refine ⟨_, pss_one (ps_ret (pe_call GR hr (by rfl) gR FR.kp bR .nil pass0 (pa_cons (pe_op op_mulW (tx (pv 0) pe_int) (tx (pv 1) pe_int))
      (pa_cons (pe_op op_mulW (tx (pv 0) pe_int) (tx (pv 1) pe_int)) pa_nil)))), ?_⟩
    refine ⟨_, rfl, a1, _, 0, _, rfl, rfl, SqT.of h1, atI_0, _, rfl, a2, _, 0, _, rfl, rfl, SqT.of h2, atI_0, _, _, rfl, rfl, mw bx.1 by_.1 hl, ?_⟩
    refine ⟨_, rfl, a1, _, 1, _, rfl, rfl, SqT.of h1, atI_1, _, rfl, a2, _, 1, _, rfl, rfl, SqT.of h2, atI_1, _, _, rfl, rfl, mw (dlt bx) (dlt by_) hl, ?_⟩
    refine ⟨_, _, rfl, dne x y, lim (PW.natAbs_mul_lt (dlt bx) (dlt by_)) hl, fun H' v e hv => ?_⟩
    rw [PW.by_eq] at hv
    exact q H' v e hv
theorem ok_over {f fR : Addr} {fd fdR : FuncData} (F : Fun K "over" "over" sOver f fd) (FR : Fun K "ratio" "ratio" sRatio fR fdR) (bR : Binds K fdR ["top", "bottom"] []) (gR : mg "ratio" = some (.ref fR)) (mG : mg "gcd" = some (.builtin "math.gcd")) :
    FnOk P w K mg base CX0 2 f fd ["one", "other"] (spBin (fun x y => x / y) fun _ y => y ≠ 0) := by
  have GR : FnOk P w K mg base CX0 1 fR fdR ["top", "bottom"] spRatio := ok_ratio FR mG
  refine F.ok sc2 (fun vs H Q E h => ?_) (fun cdv A outer s H vs Q E hr h => ?_)
  · obtain ⟨v1, v2, _, _, _, _, rfl, _⟩ := h
    rfl
  · obtain ⟨v1, v2, x, y, a, b, rfl, ⟨a1, rfl, h1⟩, ⟨a2, rfl, h2⟩, bx, by_, hy, hl, q⟩ := h
    refine ⟨_, pss_one (ps_ret (pe_call GR hr (by rfl) gR FR.kp bR .nil pass0 (pa_cons (pe_op op_mulW (tx (pv 0) pe_int) (tx (pv 1) pe_int))
      (pa_cons (pe_op op_mulW (tx (pv 0) pe_int) (tx (pv 1) pe_int)) pa_nil)))), ?_⟩
    refine ⟨_, rfl, a1, _, 0, _, rfl, rfl, SqT.of h1, atI_0, _, rfl, a2, _, 1, _, rfl, rfl, SqT.of h2, atI_1, _, _, rfl, rfl, mw bx.1 (dlt by_) hl, ?_⟩
    refine ⟨_, rfl, a1, _, 1, _, rfl, rfl, SqT.of h1, atI_1, _, rfl, a2, _, 0, _, rfl, rfl, SqT.of h2, atI_0, _, _, rfl, rfl, mw (dlt bx) by_.1 hl, ?_⟩
    have hne : (x.den : Int) * y.num ≠ 0 := by
      have := x.den_nz
      have := PW.num_ne hy
      exact Int.mul_ne_zero (by omega) this
    refine ⟨_, _, rfl, hne, lim (PW.natAbs_mul_lt (dlt bx) by_.1) hl, fun H' v e hv => ?_⟩
    rw [PW.over_eq x y hy] at hv
    exact q H' v e hv
/-- less(one, other) -/
def spLess : Sp := fun vs H Q _ => ∃ (v1 v2 : V) (x y : Rat) (a b : Nat), vs = [v1, v2] ∧ Rt H v1 x ∧ Rt H v2 y ∧ PW.Bk a x ∧ PW.Bk b y ∧ (0 < a ∧ 0 < b ∧ a + b ≤ 8999) ∧ Q (.bl (decide (x < y))) H
theorem ok_less {f : Addr} {fd : FuncData} (F : Fun K "less" "less" sLess f fd) : FnOk P w K mg base CX0 1 f fd ["one", "other"] spLess := by
  refine F.ok sc2 (fun vs H Q E h => ?_) (fun cdv A outer s H vs Q E hr h => ?_)
  · obtain ⟨v1, v2, _, _, _, _, rfl, _⟩ := h
    rfl
  · obtain ⟨v1, v2, x, y, a, b, rfl, ⟨a1, rfl, h1⟩, ⟨a2, rfl, h2⟩, bx, by_, hl, q⟩ := h
    refine ⟨_, pss_one (ps_ret (pe_cmpR op_lt (pe_op op_mulW (tx (pv 0) pe_int) (tx (pv 1) pe_int)) (pe_op op_mulW (tx (pv 1) pe_int) (tx (pv 0) pe_int)) (nomark _))), ?_⟩
    refine ⟨_, rfl, a1, _, 0, _, rfl, rfl, SqT.of h1, atI_0, _, rfl, a2, _, 1, _, rfl, rfl, SqT.of h2, atI_1, _, _, rfl, rfl, mw bx.1 (dlt by_) hl, ?_⟩
    refine ⟨_, rfl, a2, _, 0, _, rfl, rfl, SqT.of h2, atI_0, _, rfl, a1, _, 1, _, rfl, rfl, SqT.of h1, atI_1, _, _, rfl, rfl, mw by_.1 (dlt bx) (swp hl), _, _, rfl, rfl, ?_⟩
    have e : decide (x.num * (y.den : Int) < y.num * (x.den : Int)) = decide (x < y) := decide_eq_decide.mpr (PW.less_iff x y)
    show Q (.bl (decide (x.num * (y.den : Int) < y.num * (x.den : Int)))) H
    rw [e]
    exact q
/-- total(some): a list of n ratios below 2 ^ k -/
def spTotal : Sp := fun vs H Q _ => ∃ (a : Addr) (xs : List V) (n k : Nat) (g : Nat → Rat), vs = [.ref a] ∧ H a = some (.lst xs) ∧ Rs H xs n g ∧ (∀ i, i < n → PW.Bk k (g i)) ∧ 0 < k ∧ (n + 1) * (k + 1) ≤ 8990 ∧ n ≤ 1000 ∧
  ∀ H' v, Ext [] H H' → Rt H' v (PW.sm n g) → Q v H'
theorem scTotal : FnScope ["some", "found", "one"] ["some"] (defScope sTotal) := ⟨rfl, rfl, rfl, by decide +kernel, rfl, by decide +kernel, by decide +kernel⟩
theorem Rs.lt {H : Hp} {xs : List V} {n : Nat} {f : Nat → Rat} (h : Rs H xs n f) {i : Nat} {v : V} (e : xs[i]? = some v) : i < n := by
  rw [← h.1]
  exact (List.getElem?_eq_some_iff.mp e).1
theorem ok_total {f fP : Addr} {fd fdP : FuncData} (F : Fun K "total" "total" sTotal f fd) (GP : FnOk P w K mg base CX0 2 fP fdP ["one", "other"] (spBin (fun x y => x + y) fun _ _ => True)) (kP : PySem.W.keepIn K (.ref fP) = true) (bP : Binds K fdP ["one", "other"] []) (gP : mg "plus" = some (.ref fP)) :
    FnOk P w K mg base CX0 3 f fd ["some"] spTotal := by
  refine F.ok scTotal (fun vs H Q E h => ?_) (fun cdv A outer s H vs Q E hr h => ?_)
  · obtain ⟨a, _, _, _, _, rfl, _⟩ := h
    rfl
  · obtain ⟨a, xs, n, k, g, rfl, hA, hR, hk, k0, hlim, hn, q⟩ := h
    refine ⟨_, pss_cons (ps_set (i := 1) scTotal.nd rfl (.inl rfl) (pe_tup (pa_cons pe_int (pa_cons pe_int pa_nil))))
      (pss_cons (ps_for PassesOwn.never rfl (pi_list (pv 0)) (pg_name (i := 2) scTotal.nd rfl (.inl rfl)) (pss_one (ps_set (i := 1) scTotal.nd rfl (.inl rfl) (pe_call GP hr (by rfl) gP kP bP .nil pass0 (pa_cons (pv 1) (pa_cons (pv 2) pa_nil))))))
      (pss_one (ps_ret (pv 1)))), ?_⟩
    refine ⟨two_le, fun p hp => ?_⟩
    have e1 : Ext [] H (upd H p (.tup [.int 0, .int 1])) := Ext.new hp
    refine ⟨_, rfl, a, rfl, ⟨xs, SqL.of (e1.lst0 hA)⟩, for_list (xs := xs) (fun i σ H' => ∃ v y2, σ = [some (.ref a), some v, y2] ∧ Ext [] H H' ∧ Rt H' v (PW.sm i g)) ⟨.ref p, none, rfl, e1, p, rfl, upd_same⟩
      (fun i σ H' _ ⟨v, y2, _, e, _⟩ => SqL.of (e.lst0 hA)) (fun i x σ H' hx ⟨v, y2, hσ, e, hv⟩ => ?_) (fun σ H' ⟨v, y2, hσ, e, hv⟩ => ?_)⟩
    · subst hσ
      have hi := hR.lt hx
      have hbk := PW.Bk.sm (f := g) (k := k) (n := i) fun j hj => hk j (by omega)
      have hle : (i + 1) * (k + 1) ≤ (n + 1) * (k + 1) := Nat.mul_le_mul_right _ (by omega)
      rw [Nat.add_mul, Nat.one_mul] at hle
      refine ⟨_, rfl, _, rfl, v, x, PW.sm i g, g i, _, k, rfl, hv, (hR.2 i x hx).ext e, hbk, hk i hi, trivial, ⟨by omega, k0, by omega⟩, fun H2 v2 e2 hv2 => ?_⟩
      exact ⟨v2, _, rfl, e.trans e2, hv2⟩
    · subst hσ
      rw [hR.1] at hv
      exact ⟨_, rfl, q _ _ e hv⟩
end
end PWK
namespace PWK
open PySem PySem.Spec PyProof.Rows L2
abbrev sInit : Stmt := inClass (topS 15) 0
abbrev sTurn : Stmt := inClass (topS 15) 1
abbrev sMult : Stmt := inClass (topS 15) 2
abbrev sClimb : Stmt := inClass (topS 15) 3
abbrev sLeave : Stmt := inClass (topS 15) 4
abbrev sAmounts : Stmt := inClass (topS 15) 5
abbrev sPrices : Stmt := inClass (topS 15) 6
/-- the attributes of a program -/
def fs (n : Nat) (ls la lb : Addr) : List (Str × V) := [("many", .int n), ("signs", .ref ls), ("rows", .ref la), ("basis", .ref lb)]
section
variable {n : Nat} {ls la lb : Addr}
theorem fs_many : (fs n ls la lb).lookup ("many" : Str) = some (.int n) := rfl
theorem fs_signs : (fs n ls la lb).lookup ("signs" : Str) = some (.ref ls) := rfl
theorem fs_rows : (fs n ls la lb).lookup ("rows" : Str) = some (.ref la) := rfl
theorem fs_basis : (fs n ls la lb).lookup ("basis" : Str) = some (.ref lb) := rfl
theorem fs_no_turn : (fs n ls la lb).lookup ("turn" : Str) = none := rfl
theorem fs_no_mult : (fs n ls la lb).lookup ("multiplier" : Str) = none := rfl
theorem fs_no_climb : (fs n ls la lb).lookup ("climb" : Str) = none := rfl
theorem fs_no_leave : (fs n ls la lb).lookup ("leave_help" : Str) = none := rfl
theorem fs_no_amounts : (fs n ls la lb).lookup ("amounts" : Str) = none := rfl
theorem fs_no_prices : (fs n ls la lb).lookup ("prices" : Str) = none := rfl
end
/-- rows of N ratios each: row i, column c holds f i c -/
def RowsAt (H : Hp) (la lb : Addr) (m N : Nat) (f : Nat → Nat → Rat) : Prop :=
  ∃ rs, H la = some (.lst rs) ∧ rs.length = m ∧ ∀ i v, rs[i]? = some v → ∃ a xs, v = .ref a ∧ a ≠ la ∧ a ≠ lb ∧ H a = some (.lst xs) ∧ Rs H xs N (f i)
theorem RowsAt.ext0 {H H' : Hp} {la lb : Addr} {m N : Nat} {f : Nat → Nat → Rat} (x : Ext [] H H') (h : RowsAt H la lb m N f) : RowsAt H' la lb m N f := by
  obtain ⟨rs, h1, h2, h3⟩ := h
  refine ⟨rs, x.lst0 h1, h2, fun i v e => ?_⟩
  obtain ⟨a, xs, q1, q2, q3, q4, q5⟩ := h3 i v e
  exact ⟨a, xs, q1, q2, q3, x.lst0 q4, q5.ext x⟩
theorem RowsAt.congr {H : Hp} {la lb : Addr} {m N : Nat} {f g : Nat → Nat → Rat} (h : RowsAt H la lb m N f) (e : ∀ i, i < m → ∀ c, c < N → f i c = g i c) : RowsAt H la lb m N g := by
  obtain ⟨rs, h1, h2, h3⟩ := h
  refine ⟨rs, h1, h2, fun i v ei => ?_⟩
  obtain ⟨a, xs, q1, q2, q3, q4, q5, q6⟩ := h3 i v ei
  have hi : i < m := by rw [← h2]; exact (List.getElem?_eq_some_iff.mp ei).1
  refine ⟨a, xs, q1, q2, q3, q4, q5, fun c v ec => ?_⟩
  have hc : c < N := by rw [← q5]; exact (List.getElem?_eq_some_iff.mp ec).1
  rw [← e i hi c hc]
  exact q6 c v ec
theorem RowsAt.get {H : Hp} {la lb : Addr} {m N : Nat} {f : Nat → Nat → Rat} (h : RowsAt H la lb m N f) {i : Nat} (hi : i < m) : ∃ rs a xs, H la = some (.lst rs) ∧ rs.length = m ∧ rs[i]? = some (.ref a) ∧ a ≠ la ∧ a ≠ lb ∧ H a = some (.lst xs) ∧ Rs H xs N (f i) := by
  obtain ⟨rs, h1, h2, h3⟩ := h
  have hi' : i < rs.length := by omega
  obtain ⟨a, xs, q1, q2, q3, q4, q5⟩ := h3 i _ (List.getElem?_eq_getElem hi')
  exact ⟨rs, a, xs, h1, h2, by rw [← q1]; exact List.getElem?_eq_getElem hi', q2, q3, q4, q5⟩
/-- a row put in another's place -/
theorem RowsAt.set {H : Hp} {la lb D : Addr} {m N : Nat} {f : Nat → Nat → Rat} {g : Nat → Rat} {rs xs : List V} (h : RowsAt H la lb m N f) (hl : H la = some (.lst rs)) (hD : H D = some (.lst xs)) (hR : Rs H xs N g) (d1 : D ≠ la) (d2 : D ≠ lb) (i : Nat) :
    RowsAt (upd H la (.lst (rs.set i (.ref D)))) la lb m N (fun l => if l = i then g else f l) := by
  obtain ⟨rs', h1, h2, h3⟩ := h
  rw [hl] at h1
  cases h1
  have put : Ext [la] H (upd H la (.lst (rs.set i (.ref D)))) := Ext.put (by simp) hl
  refine ⟨_, upd_same, by rw [List.length_set]; exact h2, fun j v e => ?_⟩
  by_cases hj : j = i
  · subst hj
    have hlt : j < rs.length := by
      have := (List.getElem?_eq_some_iff.mp e).1
      rw [List.length_set] at this
      exact this
    rw [List.getElem?_set_self hlt] at e
    refine ⟨D, xs, (Option.some.inj e).symm, d1, d2, put.lst (by simpa using d1) hD, ?_⟩
    show Rs _ xs N (if j = j then g else f j)
    rw [if_pos rfl]
    exact hR.ext put
  · rw [List.getElem?_set_ne (Ne.symm hj)] at e
    obtain ⟨a, ys, q1, q2, q3, q4, q5⟩ := h3 j v e
    refine ⟨a, ys, q1, q2, q3, put.lst (by simpa using q2) q4, ?_⟩
    show Rs _ ys N (if j = i then g else f j)
    rw [if_neg hj]
    exact q5.ext put
/-- a program: its object, what it holds -/
structure PO (C p ls la lb : Addr) (m n : Nat) (t : PW.Tb) (H : Hp) : Prop where
  ob : ∃ dx, H p = some (.ins C dx (fs n ls la lb))
  rows : RowsAt H la lb m (n + m + 1) t.T
  basis : H lb = some (.lst ((List.range m).map fun j => V.int (t.B j)))
  signs : ∃ xs, H ls = some (.lst xs) ∧ Rs H xs m (fun _ => 1)
  ab : la ≠ lb
  sa : ls ≠ la
  sb : ls ≠ lb
theorem PO.ext0 {C p ls la lb : Addr} {m n : Nat} {t : PW.Tb} {H H' : Hp} (x : Ext [] H H') (h : PO C p ls la lb m n t H) : PO C p ls la lb m n t H' :=
  ⟨let ⟨dx, e⟩ := h.ob; ⟨dx, x.ins (by simp) e⟩, h.rows.ext0 x, x.lst0 h.basis, let ⟨xs, e, r⟩ := h.signs; ⟨xs, x.lst0 e, r.ext x⟩, h.ab, h.sa, h.sb⟩
/-- what the text has of the class -/
structure Txt (K : PySem.W.Frag) (mg : Str → Option Value) (C : Addr) : Prop where
  cl : Cls K C
  nM : NoAttr K C "many"
  nS : NoAttr K C "signs"
  nR : NoAttr K C "rows"
  nB : NoAttr K C "basis"
  len : mg "len" = none
  range : mg "range" = none
  enumerate : mg "enumerate" = none
  zip : mg "zip" = none
/-- a def of two ratios as it stands, ready to be called -/
structure Cal (P : Program) (w : World) (K : PySem.W.Frag) (mg : Str → Option Value) (base : Heap) (k : Nat) (x : Str) (ps : List Str) (sp : Sp) : Prop where
  ex : ∃ (f : Addr) (fd : FuncData), FnOk P w K mg base CX0 k f fd ps sp ∧ mg x = some (.ref f) ∧ PySem.W.keepIn K (.ref f) = true ∧ Binds K fd ps []
section
variable {P : Program} {w : World} {K : PySem.W.Frag} {mg : Str → Option Value} {base : Heap}
theorem ixN_nat {n j : Nat} (h : j < n) : ixN n (j : Int) = some j := by
  unfold ixN
  rw [if_pos (by omega), if_pos (by omega)]
  simp
theorem ins_ne {H : Hp} {a b C dx : Addr} {fs : List (Str × V)} {xs : List V} (h : H a = some (.ins C dx fs)) (h' : H b = some (.lst xs)) : a ≠ b := ne_of h h' (by intro z; cases z)
section
variable {C p ls la lb : Addr} {m n : Nat} {t : PW.Tb} {H : Hp} {σ : L2.St}
theorem PO.congr (h : PO C p ls la lb m n t H) {t' : PW.Tb} (e : ∀ i, i < m → ∀ c, c ≤ n + m → t.T i c = t'.T i c) (eB : t'.B = t.B) : PO C p ls la lb m n t' H :=
  ⟨h.ob, h.rows.congr fun i hi c hc => e i hi c (by omega), by rw [eB]; exact h.basis, h.signs, h.ab, h.sa, h.sb⟩
/-- self.rows[i] -/
theorem r_row (hP : PO C p ls la lb m n t H) (T : Txt K mg C) {x i : Nat} {Q : VK} (h0 : σ[0]? = some (some (.ref p))) (hx : σ[x]? = some (some (.int (i : Nat)))) (hi : i < m)
    (q : ∀ a xs, a ≠ la → a ≠ lb → H a = some (.lst xs) → Rs H xs (n + m + 1) (t.T i) → Q (.ref a) H) : tOp (rIxL K) (tFld K (tVar 0) "rows") (tVar x) σ H Q := by
  obtain ⟨dx, ho⟩ := hP.ob
  obtain ⟨rs, a, xs, h1, h2, h3, h4, h5, h6, h7⟩ := hP.rows.get hi
  exact ⟨_, h0, p, C, dx, _, _, rfl, ho, T.cl, T.nR, fs_rows, _, hx, la, rs, i, _, rfl, rfl, SqL.of h1, atI_nat h3, q a xs h4 h5 h6 h7⟩
/-- self.rows[i][k] -/
theorem r_ent (hP : PO C p ls la lb m n t H) (T : Txt K mg C) {x y i k : Nat} {Q : VK} (h0 : σ[0]? = some (some (.ref p))) (hx : σ[x]? = some (some (.int (i : Nat)))) (hi : i < m) (hy : σ[y]? = some (some (.int (k : Nat)))) (hk : k ≤ n + m)
    (q : ∀ v, Rt H v (t.T i k) → Q v H) : tOp (rIxL K) (tOp (rIxL K) (tFld K (tVar 0) "rows") (tVar x)) (tVar y) σ H Q := by
  refine r_row hP T h0 hx hi fun a xs _ _ ha hR => ?_
  obtain ⟨v, hv, hr⟩ := hR.get (i := k) (by omega)
  exact ⟨_, hy, a, xs, k, v, rfl, rfl, SqL.of ha, atI_nat hv, q v hr⟩
/-- self.rows[i] = the list at D -/
theorem w_row (hP : PO C p ls la lb m n t H) (T : Txt K mg C) {x i : Nat} {D : Addr} {xs : List V} {g : Nat → Rat} {Q : L2.St → Hp → Prop} (h0 : σ[0]? = some (some (.ref p))) (hx : σ[x]? = some (some (.int (i : Nat)))) (hi : i < m)
    (hD : H D = some (.lst xs)) (hR : Rs H xs (n + m + 1) g) (d1 : D ≠ la) (d2 : D ≠ lb) (q : ∀ H', Ext [la, lb] H H' → PO C p ls la lb m n ⟨fun l => if l = i then g else t.T l, t.B⟩ H' → Q σ H') :
    gSub (tFld K (tVar 0) "rows") (tVar x) rSetL (.ref D) σ H Q := by
  obtain ⟨dx, ho⟩ := hP.ob
  obtain ⟨rs, a, ys, h1, h2, h3, h4, h5, h6, h7⟩ := hP.rows.get hi
  have put : Ext [la] H (upd H la (.lst (rs.set i (.ref D)))) := Ext.put (by simp) h1
  refine ⟨_, h0, p, C, dx, _, _, rfl, ho, T.cl, T.nR, fs_rows, _, hx, la, rs, i, i, rfl, rfl, h1, ixN_nat (by omega), q _ (put.mono fun b hb => by simp at hb; simp [hb]) ⟨⟨dx, ?_⟩, hP.rows.set h1 hD hR d1 d2 i, ?_, ?_, hP.ab, hP.sa, hP.sb⟩⟩
  · exact put.ins (by simpa using ins_ne ho h1) ho
  · exact put.lst (by simpa using hP.ab.symm) hP.basis
  · obtain ⟨zs, e, r⟩ := hP.signs
    exact ⟨zs, put.lst (by simpa using hP.sa) e, r.ext put⟩
end
/-- a turn half done -/
def half (t : PW.Tb) (j k i : Nat) : PW.Tb := ⟨fun l c => if l = j ∨ l < i then (PW.piv t j k).T l c else t.T l c, t.B⟩
theorem scTurn : FnScope ["self", "j", "k", "pivot", "i", "factor", "one", "a", "b"] ["self", "j", "k"] (defScope sTurn) := ⟨rfl, rfl, rfl, by decide +kernel, rfl, by decide +kernel, by decide +kernel⟩
def spTurn (C : Addr) : Sp := fun vs H Q _ => ∃ (p ls la lb : Addr) (m n j k : Nat) (t : PW.Tb), vs = [.ref p, .int j, .int k] ∧ PO C p ls la lb m n t H ∧ j < m ∧ k ≤ n + m ∧ t.T j k ≠ 0 ∧ (∀ i, i < m → ∀ c, c ≤ n + m → PW.Bk 301 (t.T i c)) ∧ m ≤ 100 ∧ n ≤ 1000 ∧
  ∀ H', Ext [la, lb] H H' → PO C p ls la lb m n (PW.piv t j k) H' → Q .non H'
theorem ok_turn {f C fO fM fB : Addr} {fd fdO fdM fdB : FuncData} (F : Fun K "turn" "Program.turn" sTurn f fd) (T : Txt K mg C)
    (GO : FnOk P w K mg base CX0 2 fO fdO ["one", "other"] (spBin (fun x y => x / y) fun _ y => y ≠ 0)) (kO : PySem.W.keepIn K (.ref fO) = true) (bO : Binds K fdO ["one", "other"] []) (gO : mg "over" = some (.ref fO))
    (GM : FnOk P w K mg base CX0 2 fM fdM ["one", "other"] (spBin (fun x y => x - y) fun _ _ => True)) (kM : PySem.W.keepIn K (.ref fM) = true) (bM : Binds K fdM ["one", "other"] []) (gM : mg "minus" = some (.ref fM))
    (GB : FnOk P w K mg base CX0 2 fB fdB ["one", "other"] (spBin (fun x y => x * y) fun _ _ => True)) (kB : PySem.W.keepIn K (.ref fB) = true) (bB : Binds K fdB ["one", "other"] []) (gB : mg "by" = some (.ref fB)) :
    FnOk P w K mg base CX0 3 f fd ["self", "j", "k"] (spTurn C) := by
  refine F.ok scTurn (fun vs H Q E h => ?_) (fun cdv A outer s H vs Q E hr h => ?_)
  · obtain ⟨p, ls, la, lb, m, n, j, k, t, rfl, _⟩ := h
    rfl
  · obtain ⟨p, ls, la, lb, m, n, j, k, t, rfl, hP, hj, hk, hp, hB, hm, hn, q⟩ := h
    refine ⟨_, pss_cons (ps_asg (lx (lx (pe_fld (pv 0) rfl) (pv 1)) (pv 2)) (pg_name (i := 3) scTurn.nd rfl (.inr rfl)))
      (pss_cons (ps_asg (pe_lc (own := [("one", 6)]) (g := gName 6) rfl scTurn.nd (pi_list (lx (pe_fld (pv 0) rfl) (pv 1))) (blkOk_by (N := ["self", "j", "k", "pivot", "i", "factor", "one", "a", "b"]) (sc := defScope sTurn) (by decide +kernel))
          (fun _ _ _ _ _ => pg_name (i := 6) scTurn.nd rfl (.inl rfl)) (fun _ _ _ _ _ => pts_nil)
          (fun _ _ _ _ _ => pe_call GO hr (by rfl) gO kO bO .nil pass0 (pa_cons (pv 6) (pa_cons (pv 3) pa_nil)))) (pg_sub (pe_fld (pv 0) rfl) (pv 1) set_list))
      (pss_cons (ps_for PassesOwn.never rfl (pi_range1 rfl T.range (pa_cons (pe_callB call_len_seq (by rfl) T.len PySem.boot_len (pa_cons (pe_fld (pv 0) rfl) pa_nil)) pa_nil)) (pg_name (i := 4) scTurn.nd rfl (.inl rfl))
        (pss_cons (ps_asg (lx (lx (pe_fld (pv 0) rfl) (pv 4)) (pv 2)) (pg_name (i := 5) scTurn.nd rfl (.inr rfl)))
        (pss_one (ps_if (PW.pt (pw_and (pt_cmpR op_ne (pv 4) (pv 1) (nomark _)) (pw_and1 (pt_cmpR op_ne (tx (pv 5) pe_int) pe_int (nomark _)))))
          (pss_one (ps_asg (pe_lc (own := [("a", 7), ("b", 8)]) (g := gTup K 2 (gCons (gName 7) (gCons (gName 8) gNil))) rfl scTurn.nd (pi_zip (by rfl) T.zip (pa_cons (lx (pe_fld (pv 0) rfl) (pv 4)) (pa_cons (lx (pe_fld (pv 0) rfl) (pv 1)) pa_nil)))
            (blkOk_by (N := ["self", "j", "k", "pivot", "i", "factor", "one", "a", "b"]) (sc := defScope sTurn) (by decide +kernel))
            (fun _ _ _ _ _ => pg_tup rfl (pgs_cons (pg_name (i := 7) scTurn.nd rfl (.inl rfl)) (pgs_cons (pg_name (i := 8) scTurn.nd rfl (.inl rfl)) pgs_nil))) (fun _ _ _ _ _ => pts_nil)
            (fun _ _ _ _ _ => pe_call GM hr (by rfl) gM kM bM .nil pass0 (pa_cons (pv 7) (pa_cons (pe_call GB hr (by rfl) gB kB bB .nil pass0 (pa_cons (pv 5) (pa_cons (pv 8) pa_nil))) pa_nil)))) (pg_sub (pe_fld (pv 0) rfl) (pv 4) set_list))) pss_nil))))
      (pss_one (ps_asg (pv 2) (pg_sub (pe_fld (pv 0) rfl) (pv 1) set_list))))), ?_⟩
    refine r_ent (x := 1) (y := 2) hP T rfl rfl hj rfl hk fun pv hpv => ?_
    refine r_row (x := 1) hP T rfl rfl hj fun a xs a1 a2 ha hR => ⟨a, rfl, ⟨xs, SqL.of ha⟩, ?_⟩
    refine lc_map walk_list (fun c v H' => Rt H' v (t.T j c / t.T j k)) (fun _ _ _ _ _ x h => Pr.ext x h) yat_ext (fun H' e => SqL.of (e.lst0 ha)) (by rw [hR.1]; omega) (fun c x H' H'' hc e y R k2 => ?_) (fun D H1 ys hD e1 hL hl hv => ?_)
    · obtain ⟨rfl, hx⟩ := y
      refine ⟨rfl, _, rfl, _, rfl, x, pv, t.T j c, t.T j k, 301, 301, rfl, (hR.2 c x hx).ext e, hpv.ext e, hB j hj c (by have := hR.lt hx; omega), hB j hj k hk, hp, by omega, fun H4 v e4 hv => k2 v H4 e4 hv⟩
    have hla : ∃ rs, H la = some (.lst rs) := let ⟨rs, h1, _⟩ := hP.rows; ⟨rs, h1⟩
    obtain ⟨rs0, hla⟩ := hla
    refine w_row (x := 1) (g := fun c => t.T j c / t.T j k) (hP.ext0 e1) T rfl rfl hj hL ⟨by rw [hl, hR.1], fun c v ec => hv c v ec⟩ (ne_of_none hla hD).symm (ne_of_none hP.basis hD).symm fun H2 e2 hP2 => ?_
    have hP2' : PO C p ls la lb m n (half t j k 0) H2 := hP2.congr (fun l hl c _ => by
      show (if l = j then fun c => t.T j c / t.T j k else t.T l) c = if l = j ∨ l < 0 then (PW.piv t j k).T l c else t.T l c
      by_cases z : l = j
      · rw [if_pos z, if_pos (.inl z), PW.piv_T, if_pos z]
      · rw [if_neg z, if_neg (by omega)]) rfl
    have e12 : Ext [la, lb] H H2 := e1.up.trans e2
    obtain ⟨dx, ho⟩ := hP2'.ob
    obtain ⟨rs, h1, h2, _⟩ := hP2'.rows
    refine ⟨_, rfl, p, C, dx, _, _, rfl, ho, T.cl, T.nR, fs_rows, la, rs, rfl, .inl (SqL.of h1), _, rfl, by omega, by omega, ?_⟩
    have em : ((rs.length : Nat) : Int).toNat = m := by omega
    rw [em]
    refine for_range (lo := 0) (n := m) (fun i σ H' => ∃ y4 y5, σ = [some (.ref p), some (.int j), some (.int k), some pv, y4, y5, none, none, none] ∧ Ext [la, lb] H H' ∧ PO C p ls la lb m n (half t j k i) H') ⟨none, none, rfl, e12, hP2'⟩ (fun i σ H' hi ⟨y4, y5, hσ, e, hPi⟩ => ?_) (fun σ H' ⟨y4, y5, hσ, e, hPi⟩ => ?_)
    · subst hσ
      have e0 : (0 : Int) + (i : Int) = (i : Int) := Int.zero_add _
      rw [e0]
      refine r_ent (x := 4) (y := 2) hPi T rfl rfl hi rfl hk fun fv hfv => ?_
      refine ⟨_, rfl, _, rfl, rfl, _, rfl, ?_⟩
      by_cases hij : i = j
      · have d : (!decide (V.int (i : Int) = V.int (j : Int))) = false := by rw [hij]; simp
        rw [d]
        refine ⟨some (.int i), some fv, rfl, e, hPi.congr (fun l _ c _ => ?_) rfl⟩
        show (if l = j ∨ l < i then _ else _) = if l = j ∨ l < i + 1 then _ else _
        by_cases z : l = j ∨ l < i
        · rw [if_pos z, if_pos (by omega)]
        · rw [if_neg z, if_neg (by omega)]
      · have d : (!decide (V.int (i : Int) = V.int (j : Int))) = true := by
          rw [decide_eq_false (fun z => hij (by have := V.int.inj z; omega))]; rfl
        rw [d]
        have hT : (half t j k i).T i k = t.T i k := by
          show (if i = j ∨ i < i then _ else _) = _
          rw [if_neg (by omega)]
        rw [hT] at hfv
        obtain ⟨af, rfl, haf⟩ := id hfv
        refine ⟨_, rfl, af, _, 0, _, rfl, rfl, SqT.of haf, atI_0, rfl, _, rfl, ?_⟩
        by_cases hz : t.T i k = 0
        · have d2 : (!decide (V.int (t.T i k).num = V.int 0)) = false := by rw [hz]; rfl
          rw [d2]
          refine ⟨some (.int i), some (.ref af), rfl, e, hPi.congr (fun l _ c _ => ?_) rfl⟩
          show (if l = j ∨ l < i then (PW.piv t j k).T l c else t.T l c) = if l = j ∨ l < i + 1 then (PW.piv t j k).T l c else t.T l c
          by_cases z : l = j ∨ l < i
          · rw [if_pos z, if_pos (by omega)]
          · rw [if_neg z]
            by_cases z2 : l = i
            · rw [if_pos (by omega), PW.piv_T, if_neg (by omega), z2, hz]
              grind
            · rw [if_neg (by omega)]
        · have d2 : (!decide (V.int (t.T i k).num = V.int 0)) = true := by
            rw [decide_eq_false (fun z => PW.num_ne hz (V.int.inj z))]; rfl
          rw [d2]
          refine r_row (x := 4) hPi T rfl rfl hi fun ai xi _ _ hai hRi => ?_
          refine r_row (x := 1) hPi T rfl rfl hj fun aj xj _ _ haj hRj => ?_
          refine ⟨ai, aj, xi, xj, rfl, SqL.of hai, SqL.of haj, ?_⟩
          refine lc_map (walk_zip (n := n + m + 1) (by rw [hRi.1, hRj.1]; omega)) (fun c v H' => Rt H' v (t.T i c - t.T i k * (t.T j c / t.T j k))) (fun _ _ _ _ _ x h => Pr.ext x h) ypair_ext (fun H' e' => ⟨SqL.of (e'.lst0 hai), SqL.of (e'.lst0 haj)⟩) (by omega)
            (fun c x H3 H4 hc e4 y R k2 => ?_) (fun D H3 ys hD e3 hL hl hv => ?_)
          · obtain ⟨T0, x1, x2, rfl, hT0, eH, f1, f2⟩ := y
            have s1 : H4 T0 = some (.tup [x1, x2]) := by rw [eH, upd_same]
            refine ⟨T0, [x1, x2], rfl, SqT.of s1, rfl, x1, [x2], rfl, x2, [], rfl, rfl, rfl, ?_⟩
            have r1 : Rt H4 x1 (t.T i c) := by
              have := hRi.2 c x1 f1
              rw [show (half t j k i).T i c = t.T i c from if_neg (by omega)] at this
              exact this.ext e4
            have r2 : Rt H4 x2 (t.T j c / t.T j k) := by
              have := hRj.2 c x2 f2
              rw [show (half t j k i).T j c = t.T j c / t.T j k by
                show (if j = j ∨ j < i then (PW.piv t j k).T j c else _) = _
                rw [if_pos (.inl rfl), PW.piv_T, if_pos rfl]] at this
              exact this.ext e4
            refine ⟨_, rfl, _, rfl, _, rfl, _, _, t.T i k, t.T j c / t.T j k, 301, 602, rfl, hfv.ext e4, r2, hB i hi k hk, (hB j hj c (by omega)).over (hB j hj k hk) hp, trivial, by omega, fun H5 v5 e5 hv5 => ?_⟩
            refine ⟨_, _, t.T i c, t.T i k * (t.T j c / t.T j k), 301, 903, rfl, r1.ext e5, hv5, hB i hi c (by omega), (hB i hi k hk).mul ((hB j hj c (by omega)).over (hB j hj k hk) hp), trivial, by omega, fun H6 v6 e6 hv6 => k2 v6 H6 (e5.trans e6) hv6⟩
          have hP3 := hPi.ext0 e3
          have hla3 : ∃ rs, H' la = some (.lst rs) := let ⟨rs, h1, _⟩ := hPi.rows; ⟨rs, h1⟩
          obtain ⟨rs3, hla3⟩ := hla3
          refine w_row (x := 4) (g := fun c => t.T i c - t.T i k * (t.T j c / t.T j k)) hP3 T rfl rfl hi hL ⟨hl, fun c v ec => hv c v ec⟩ (ne_of_none hla3 hD).symm (ne_of_none hPi.basis hD).symm fun H5 e5 hP5 => ?_
          refine ⟨some (.int i), some (.ref af), rfl, e.trans (e3.up.trans e5), hP5.congr (fun l _ c _ => ?_) rfl⟩
          show (if l = i then fun c => t.T i c - t.T i k * (t.T j c / t.T j k) else fun c => if l = j ∨ l < i then (PW.piv t j k).T l c else t.T l c) c = if l = j ∨ l < i + 1 then (PW.piv t j k).T l c else t.T l c
          by_cases z : l = i
          · rw [if_pos z, if_pos (by omega), PW.piv_T, if_neg (by omega), z]
          · rw [if_neg z]
            by_cases z2 : l = j ∨ l < i
            · rw [if_pos z2, if_pos (by omega)]
            · rw [if_neg z2, if_neg (by omega)]
    · subst hσ
      obtain ⟨dx, ho⟩ := hPi.ob
      have hb := hPi.basis
      have put : Ext [lb] H' (upd H' lb (.lst (((List.range m).map fun j => V.int (t.B j)).set j (.int k)))) := Ext.put (by simp) hb
      refine ⟨_, rfl, _, rfl, p, C, dx, _, _, rfl, ho, T.cl, T.nB, fs_basis, _, rfl, lb, _, j, j, rfl, rfl, hb, ixN_nat (by simpa using hj), ?_⟩
      refine q _ (e.trans (put.mono fun b hb => by simp at hb; simp [hb])) ⟨⟨dx, put.ins (by simpa using ins_ne ho hb) ho⟩, ?_, ?_, ?_, hPi.ab, hPi.sa, hPi.sb⟩
      · obtain ⟨rs, h1, h2, h3⟩ := hPi.rows
        refine ⟨rs, put.lst (by simpa using hPi.ab) h1, h2, fun i v ei => ?_⟩
        obtain ⟨a, xs, q1, q2, q3, q4, q5⟩ := h3 i v ei
        have hi : i < m := by rw [← h2]; exact (List.getElem?_eq_some_iff.mp ei).1
        have q6 := q5.ext put
        rw [show (half t j k m).T i = (PW.piv t j k).T i from funext fun c => if_pos (.inr hi)] at q6
        exact ⟨a, xs, q1, q2, q3, put.lst (by simpa using q3) q4, q6⟩
      · rw [upd_same]
        congr 2
        refine List.ext_getElem? fun i => ?_
        by_cases z : i = j
        · subst z
          rw [List.getElem?_set_self (by simpa using hj), List.getElem?_map, List.getElem?_range hj]
          show _ = some (V.int (((PW.piv t i k).B i : Nat) : Int))
          rw [PW.piv_B, if_pos rfl]
        · rw [List.getElem?_set_ne (Ne.symm z), List.getElem?_map, List.getElem?_map]
          by_cases z2 : i < m
          · rw [List.getElem?_range z2]
            show some (V.int ((t.B i : Nat) : Int)) = some (V.int (((PW.piv t j k).B i : Nat) : Int))
            rw [PW.piv_B, if_neg z]
          · rw [List.getElem?_eq_none (by simpa using z2)]
            rfl
      · obtain ⟨zs, ez, r⟩ := hPi.signs
        exact ⟨zs, put.lst (by simpa using hPi.sb) ez, r.ext put⟩
end
end PWK
namespace PWK
open PySem PySem.Spec PyProof.Rows L2
section
variable {P : Program} {w : World} {K : PySem.W.Frag} {mg : Str → Option Value} {base : Heap}
theorem scMult : FnScope ["self", "costs", "k", "j", "row"] ["self", "costs", "k"] (defScope sMult) := ⟨rfl, rfl, rfl, by decide +kernel, rfl, by decide +kernel, by decide +kernel⟩
/-- the multiplier of column k: costs c of L columns, all of the basis among them -/
def spMult (C : Addr) : Sp := fun vs H Q _ => ∃ (p ls la lb ca : Addr) (m n k L : Nat) (t : PW.Tb) (cs : List V) (c : Nat → Rat), vs = [.ref p, .ref ca, .int k] ∧ PO C p ls la lb m n t H ∧ H ca = some (.lst cs) ∧ Rs H cs L c ∧ (∀ j, j < m → t.B j < L) ∧ k ≤ n + m ∧
  (∀ j, j < m → PW.Bk 301 (t.T j k)) ∧ (∀ i, i < L → PW.Bk 2 (c i)) ∧ m ≤ 12 ∧ ∀ H' v, Ext [] H H' → Rt H' v (PW.lin m c t k) → Q v H'
theorem lin_bk {m : Nat} {c : Nat → Rat} {t : PW.Tb} {k L : Nat} (hm : m ≤ 12) (hB : ∀ j, j < m → t.B j < L) (hT : ∀ j, j < m → PW.Bk 301 (t.T j k)) (hc : ∀ i, i < L → PW.Bk 2 (c i)) : PW.Bk 3700 (PW.lin m c t k) := by
  have h := PW.Bk.sm (f := fun j => c (t.B j) * t.T j k) (k := 303) (n := m) fun j hj => (hc _ (hB j hj)).mul (hT j hj)
  exact h.mono (by omega)
theorem ok_mult {f C fT fB : Addr} {fd fdT fdB : FuncData} (F : Fun K "multiplier" "Program.multiplier" sMult f fd) (T : Txt K mg C)
    (GT : FnOk P w K mg base CX0 3 fT fdT ["some"] spTotal) (kT : PySem.W.keepIn K (.ref fT) = true) (bT : Binds K fdT ["some"] []) (gT : mg "total" = some (.ref fT))
    (GB : FnOk P w K mg base CX0 2 fB fdB ["one", "other"] (spBin (fun x y => x * y) fun _ _ => True)) (kB : PySem.W.keepIn K (.ref fB) = true) (bB : Binds K fdB ["one", "other"] []) (gB : mg "by" = some (.ref fB)) :
    FnOk P w K mg base CX0 4 f fd ["self", "costs", "k"] (spMult C) := by
  refine F.ok scMult (fun vs H Q E h => ?_) (fun cdv A outer s H vs Q E hr h => ?_)
  · obtain ⟨p, ls, la, lb, ca, m, n, k, L, t, cs, c, rfl, _⟩ := h
    rfl
  · obtain ⟨p, ls, la, lb, ca, m, n, k, L, t, cs, c, rfl, hP, hca, hcs, hBL, hk, hT, hc, hm, q⟩ := h
    have hr2 : Room 2 _ := hr.mono (by decide)
    refine ⟨_, pss_one (ps_ret (pe_call GT hr (by rfl) gT kT bT .nil pass0 (pa_cons
      (pe_lc (own := [("j", 3), ("row", 4)]) (g := gTup K 2 (gCons (gName 3) (gCons (gName 4) gNil))) rfl scMult.nd (pi_enum (by rfl) T.enumerate (pa_cons (pe_fld (pv 0) rfl) pa_nil))
        (blkOk_by (N := ["self", "costs", "k", "j", "row"]) (sc := defScope sMult) (by decide +kernel))
        (fun _ _ _ _ _ => pg_tup rfl (pgs_cons (pg_name (i := 3) scMult.nd rfl (.inl rfl)) (pgs_cons (pg_name (i := 4) scMult.nd rfl (.inl rfl)) pgs_nil))) (fun _ _ _ _ _ => pts_nil)
        (fun _ _ _ _ _ => pe_call GB hr2 rfl gB kB bB .nil pass0 (pa_cons (lxB K (pv 1) (lxB K (fldB K (pv 0)) (pv 3))) (pa_cons (lxB K (pv 4) (pv 2)) pa_nil)))) pa_nil))), ?_⟩
    obtain ⟨dx, ho⟩ := hP.ob
    obtain ⟨rs, h1, h2, h3⟩ := hP.rows
    refine ⟨_, rfl, p, C, dx, _, _, rfl, ho, T.cl, T.nR, fs_rows, la, rs, rfl, SqL.of h1, ?_⟩
    refine lc_map walk_enum (fun j v H' => Rt H' v (c (t.B j) * t.T j k)) (fun _ _ _ _ _ x h => Pr.ext x h) ypair_ext (fun H' e => SqL.of (e.lst0 h1)) (by omega) (fun j x H' H'' hj e y R k2 => ?_) (fun D H' ys hD e hL hl hv => ?_)
    · obtain ⟨T0, x1, x2, rfl, hT0, eH, f1, f2⟩ := y
      have s1 : H'' T0 = some (.tup [x1, x2]) := by rw [eH, upd_same]
      have ex1 : x1 = V.int (j : Nat) := (Option.some.inj f1).symm
      subst ex1
      obtain ⟨a, xs, rfl, _, _, ha, hR⟩ := h3 j x2 f2
      have hj' : j < m := by omega
      obtain ⟨v, hv, hrv⟩ := hR.get (i := k) (by omega)
      obtain ⟨cv, hcv, hrc⟩ := hcs.get (i := t.B j) (hBL j hj')
      refine ⟨T0, _, rfl, SqT.of s1, rfl, _, _, rfl, _, _, rfl, rfl, rfl, ?_⟩
      refine ⟨_, rfl, _, rfl, p, C, dx, _, _, rfl, e.ins (by simp) ho, T.cl, T.nB, fs_basis, _, rfl, lb, _, j, _, rfl, rfl, SqL.of (e.lst0 hP.basis), atI_nat (j := j) (v := V.int (t.B j)) (by rw [List.getElem?_map, List.getElem?_range hj']; rfl), ca, cs, _, _, rfl, rfl, SqL.of (e.lst0 hca), atI_nat hcv, ?_⟩
      refine ⟨_, rfl, _, rfl, a, xs, k, v, rfl, rfl, SqL.of (e.lst0 ha), atI_nat hv, ?_⟩
      exact ⟨cv, v, c (t.B j), t.T j k, 2, 301, rfl, hrc.ext e, hrv.ext e, hc _ (hBL j hj'), hT j hj', trivial, by omega, fun H4 v4 e4 hv4 => k2 v4 H4 e4 hv4⟩
    · refine ⟨D, ys, m, 303, fun j => c (t.B j) * t.T j k, rfl, hL, ⟨by omega, hv⟩, fun j hj => (hc _ (hBL j hj)).mul (hT j hj), by decide, ?_, by omega, fun H2 v e2 hv2 => q H2 v (e.trans e2) hv2⟩
      have : (m + 1) * (303 + 1) ≤ 13 * 304 := Nat.mul_le_mul_right _ (by omega)
      omega
end
end PWK
namespace PWK
open PySem PySem.Spec PyProof.Rows L2
section
variable {P : Program} {w : World} {K : PySem.W.Frag} {mg : Str → Option Value} {base : Heap}
theorem scClimb : FnScope ["self", "costs", "columns", "k", "up", "best", "j", "row", "here"] ["self", "costs", "columns"] (defScope sClimb) := ⟨rfl, rfl, rfl, by decide +kernel, rfl, by decide +kernel, by decide +kernel⟩
/-- climb(costs, n): from a tableau t of A; all tableaus of A have small entries; the climb ends -/
def spClimb (C : Addr) : Sp := fun vs H Q _ => ∃ (p ls la lb ca : Addr) (m n L : Nat) (A : Nat → Nat → Rat) (t : PW.Tb) (cs : List V) (c : Nat → Rat), vs = [.ref p, .ref ca, .int n] ∧ PO C p ls la lb m n t H ∧ ca ≠ la ∧ ca ≠ lb ∧ H ca = some (.lst cs) ∧ Rs H cs L c ∧ n + m ≤ L ∧
  PW.Good m n A t ∧ (∀ t', PW.Good m n A t' → ∀ i, i < m → ∀ k, k ≤ n + m → PW.Bk 301 (t'.T i k)) ∧ (∀ i, i < L → PW.Bk 2 (c i)) ∧ (∀ i, c i ≤ 0) ∧ m ≤ 12 ∧ n ≤ 1000 ∧ (∃ μ, PW.Trm m n c μ t) ∧
  ∀ H' t', Ext [la, lb] H H' → PO C p ls la lb m n t' H' → PW.Good m n A t' → PW.Top m n c t' → ((∀ j, j < m → t.B j < n) → ∀ j, j < m → t'.B j < n) → Q (.bl true) H'
/-- the best row so far -/
def Best (m n : Nat) (t : PW.Tb) (k i : Nat) (H : Hp) (v : V) : Prop :=
  (v = .non ∧ ∀ l, l < i → ¬ 0 < t.T l k) ∨
  ∃ a hv j, v = .ref a ∧ H a = some (.tup [hv, .int (j : Nat)]) ∧ j < i ∧ 0 < t.T j k ∧ Rt H hv (t.T j (n + m) / t.T j k) ∧ ∀ l, l < i → 0 < t.T l k → t.T j (n + m) / t.T j k ≤ t.T l (n + m) / t.T l k ∧ (t.T l (n + m) / t.T l k = t.T j (n + m) / t.T j k → t.B j ≤ t.B l)
theorem Best.ext {m n : Nat} {t : PW.Tb} {k i : Nat} {H H' : Hp} {v : V} {S : List Addr} (x : Ext S H H') (h : Best m n t k i H v) : Best m n t k i H' v := by
  rcases h with h | ⟨a, hv, j, h1, h2, h3, h4, h5, h6⟩
  · exact .inl h
  · exact .inr ⟨a, hv, j, h1, x.tup _ _ h2, h3, h4, h5.ext x, h6⟩
theorem ok_climb {f C fT fM fO fL : Addr} {fd fdT fdM fdO fdL : FuncData} (F : Fun K "climb" "Program.climb" sClimb f fd) (T : Txt K mg C)
    (GM : FnOk P w K mg base CX0 4 fM fdM ["self", "costs", "k"] (spMult C)) (mM : Meth K C "multiplier" fM) (bM : Binds K fdM ["self", "costs", "k"] [])
    (GT : FnOk P w K mg base CX0 3 fT fdT ["self", "j", "k"] (spTurn C)) (mT : Meth K C "turn" fT) (bT : Binds K fdT ["self", "j", "k"] [])
    (GO : FnOk P w K mg base CX0 2 fO fdO ["one", "other"] (spBin (fun x y => x / y) fun _ y => y ≠ 0)) (kO : PySem.W.keepIn K (.ref fO) = true) (bO : Binds K fdO ["one", "other"] []) (gO : mg "over" = some (.ref fO))
    (GL : FnOk P w K mg base CX0 1 fL fdL ["one", "other"] spLess) (kL : PySem.W.keepIn K (.ref fL) = true) (bL : Binds K fdL ["one", "other"] []) (gL : mg "less" = some (.ref fL)) :
    FnOk P w K mg base CX0 5 f fd ["self", "costs", "columns"] (spClimb C) := by
  refine F.ok scClimb (fun vs H Q E h => ?_) (fun cdv A outer s H vs Q E hr h => ?_)
  · obtain ⟨p, ls, la, lb, ca, m, n, L, A, t, cs, c, rfl, _⟩ := h
    rfl
  · obtain ⟨p, ls, la, lb, ca, m, n, L, A, t, cs, c, rfl, hP, ca1, ca2, hca, hcs, hL, hg, hsz, hc, hc0, hm, hn, ⟨μ, hμ⟩, q⟩ := h
    have hr3 : Room 3 _ := hr.mono (by decide)
    have hr2 : Room 2 _ := hr.mono (by decide)
    have hr1 : Room 1 _ := hr.mono (by decide)
    refine ⟨_, pss_one (ps_while PassesOwn.never (pt_val pe_bl)
      (pss_cons (ps_setLc (i := 4) (own := [("k", 3)]) (g := gName 3) rfl scClimb.nd rfl rfl (sw_true rfl rfl rfl (by decide +kernel)) (pi_range1 rfl T.range (pa_cons (pv 2) pa_nil))
          (blkOk_by (N := ["self", "costs", "columns", "k", "up", "best", "j", "row", "here"]) (sc := defScope sClimb) (by decide +kernel))
          (fun _ _ _ _ _ => pg_name (i := 3) scClimb.nd rfl (.inl rfl))
          (fun _ _ _ _ _ => pts_one (pt_val (pe_call GL hr1 rfl gL kL bL .nil pass0 (pa_cons (pe_meth (pv 0) T.cl mM GM hr bM .nil pass0 (pa_cons (pv 1) (pa_cons (pv 3) pa_nil))) (pa_cons (lxB K (pv 1) (pv 3)) pa_nil)))))
          (fun _ _ _ _ _ => pv 3))
      (pss_cons (ps_if (pt_not (pt_truth (pv 4) (by intro _; rfl))) (pss_one (ps_ret pe_bl)) pss_nil)
      (pss_cons (ps_par (i := 3) (j := 5) rfl scClimb.nd rfl rfl (by decide) rfl rfl (pa_cons (lx (pv 4) pe_int) (pa_cons pe_non pa_nil)) rfl)
      (pss_cons (ps_for PassesOwn.never rfl (pi_enum rfl T.enumerate (pa_cons (pe_fld (pv 0) rfl) pa_nil)) (pg_tup rfl (pgs_cons (pg_name (i := 6) scClimb.nd rfl (.inl rfl)) (pgs_cons (pg_name (i := 7) scClimb.nd rfl (.inl rfl)) pgs_nil)))
        (pss_one (ps_if (pt_cmpR op_gt (tx (lx (pv 7) (pv 3)) pe_int) pe_int (nomark _))
          (pss_cons (ps_set (i := 8) scClimb.nd rfl (.inl rfl) (pe_call GO hr2 rfl gO kO bO .nil pass0 (pa_cons (lx (pv 7) (pe_un un_neg pe_int)) (pa_cons (lx (pv 7) (pv 3)) pa_nil))))
          (pss_one (ps_if (PW.pt (pw_or (pt_cmpR op_isN (pv 5) pe_non (nomark _)) (pw_or (pt_val (pe_call GL hr1 rfl gL kL bL .nil pass0 (pa_cons (pv 8) (pa_cons (tx (pv 5) pe_int) pa_nil))))
              (pw_or1 (PW.pt (pw_and (pt_cmpR (op_eqD hr.units) (pv 8) (tx (pv 5) pe_int) (nomark _)) (pw_and1 (pt_cmpR op_lt (lx (pe_fld (pv 0) rfl) (pv 6)) (lx (pe_fld (pv 0) rfl) (tx (pv 5) pe_int)) (nomark _)))))))))
            (pss_one (ps_set (i := 5) scClimb.nd rfl (.inl rfl) (pe_tup (pa_cons (pv 8) (pa_cons (pv 6) pa_nil))))) pss_nil))) pss_nil)))
      (pss_cons (ps_if (pt_cmpR op_isN (pv 5) pe_non (nomark _)) (pss_one (ps_ret pe_bl)) pss_nil)
      (pss_one (ps_expr (pe_meth (pv 0) T.cl mT GT hr3 bT .nil pass0 (pa_cons (tx (pv 5) pe_int) (pa_cons (pv 3) pa_nil)))))))))))
      , ?_⟩
    refine ⟨fun μ σ H' => ∃ t' y3 y4 y5 y6 y7 y8, σ = [some (.ref p), some (.ref ca), some (.int n), y3, y4, y5, y6, y7, y8] ∧ Ext [la, lb] H H' ∧ PO C p ls la lb m n t' H' ∧ PW.Good m n A t' ∧ PW.Trm m n c μ t' ∧ ((∀ j, j < m → t.B j < n) → ∀ j, j < m → t'.B j < n),
      ⟨μ, t, none, none, none, none, none, none, rfl, Ext.refl, hP, hg, hμ, fun h => h⟩, fun μ σ H0 ⟨t', y3, y4, y5, y6, y7, y8, hσ, e0, hP0, hg0, hμ0, hBn⟩ => ?_⟩
    subst hσ
    refine ⟨true, rfl, _, fun _ _ h => h, ?_⟩
    have hca0 : H0 ca = some (.lst cs) := e0.lst (by simp [ca1, ca2]) hca
    have hcs0 : Rs H0 cs L c := hcs.ext e0
    have hBL : ∀ j, j < m → t'.B j < L := fun j hj => by have := hg0.blt j hj; omega
    refine ⟨_, rfl, n, rfl, by omega, by omega, ?_⟩
    rw [Int.toNat_natCast]
    refine lc_some walk_range0 (fun k => decide (PW.lin m c t' k < c k)) (fun k => V.int (k : Nat)) yfn_ext (fun _ _ => trivial) (by omega) (fun k x H1 H2 hk e y R1 R0 k1 k0 => ?_) (fun D H1 hD e1 hL => ?_)
    · obtain ⟨rfl, rfl⟩ := y
      obtain ⟨dx, ho⟩ := hP0.ob
      obtain ⟨cv, hcv, hrc⟩ := hcs0.get (i := k) (by omega)
      refine ⟨rfl, _, rfl, p, dx, _, rfl, e.ins (by simp) ho, fs_no_mult, _, rfl, _, rfl, ?_⟩
      refine ⟨p, ls, la, lb, ca, m, n, k, L, t', cs, c, rfl, hP0.ext0 e, e.lst0 hca0, hcs0.ext e, hBL, by omega, fun j hj => hsz t' hg0 j hj k (by omega), hc, hm, fun H5 v e5 hv => ?_⟩
      refine ⟨_, rfl, _, rfl, ca, cs, k, cv, rfl, rfl, SqL.of (e5.lst0 (e.lst0 hca0)), atI_nat hcv, ?_⟩
      refine ⟨v, cv, PW.lin m c t' k, c k, 3700, 2, rfl, hv, hrc.ext (e.trans e5), lin_bk hm hBL (fun j hj => hsz t' hg0 j hj k (by omega)) hc, hc k (by omega), by omega, _, rfl, ?_⟩
      by_cases z : PW.lin m c t' k < c k
      · rw [decide_eq_true z]
        exact ⟨_, rfl, k1 H5 (decide_eq_true z) e5⟩
      · rw [decide_eq_false z]
        exact k0 H5 (decide_eq_false z) e5
    have hP1 := hP0.ext0 e1
    refine ⟨_, rfl, _, .inl ⟨_, SqL.of hL, rfl⟩, ?_⟩
    cases hup : (List.range n).filter (fun k => decide (PW.lin m c t' k < c k)) with
    | nil =>
      refine q H1 t' (e0.trans e1.up) hP1 hg0 (fun k hk => ?_) hBn
      have := of_decide_eq_false (filter_nil hup hk)
      grind
    | cons e r =>
      obtain ⟨he, hce, hmin⟩ := filter_cons hup
      have hce := of_decide_eq_true hce
      rw [hup] at hL
      refine ⟨_, rfl, D, _, 0, _, rfl, rfl, SqL.of hL, atI_0, _, _, rfl, ?_⟩
      obtain ⟨dx, ho⟩ := hP1.ob
      obtain ⟨rs, h1, h2, h3⟩ := hP1.rows
      refine ⟨_, rfl, p, C, dx, _, _, rfl, ho, T.cl, T.nR, fs_rows, la, rs, rfl, SqL.of h1, ?_⟩
      refine for_it walk_enum (fun i σ H' => ∃ bv y6 y7 y8, σ = [some (.ref p), some (.ref ca), some (.int n), some (.int (e : Nat)), some (.ref D), some bv, y6, y7, y8] ∧ Ext [] H1 H' ∧ Best m n t' e i H' bv)
        ⟨.non, y6, y7, y8, rfl, Ext.refl, .inl ⟨rfl, fun l hl => by omega⟩⟩ (fun i σ H' _ ⟨_, _, _, _, _, e2, _⟩ => SqL.of (e2.lst0 h1)) (fun i x σ H2 H3 hi ⟨bv, z6, z7, z8, hσ, e2, hB⟩ y => ?_) (fun σ H2 ⟨bv, z6, z7, z8, hσ, e2, hB⟩ => ?_)
      · subst hσ
        obtain ⟨T0, x1, x2, rfl, hT0, eH, f1, f2⟩ := y
        have s1 : H3 T0 = some (.tup [x1, x2]) := by rw [eH, upd_same]
        have e3 : Ext [] H2 H3 := by rw [eH]; exact Ext.new hT0
        have ex1 : x1 = V.int (i : Nat) := (Option.some.inj f1).symm
        subst ex1
        have e13 := e2.trans e3
        obtain ⟨a, xs, rfl, _, _, ha, hR⟩ := h3 i x2 f2
        have hi' : i < m := by omega
        obtain ⟨v, hv, hrv⟩ := hR.get (i := e) (by omega)
        obtain ⟨bvv, hbv, hrb⟩ := hR.get (i := n + m) (by omega)
        have ha3 := e13.lst0 ha
        obtain ⟨av, rfl, hav⟩ := hrv.ext e13
        refine ⟨T0, _, rfl, SqT.of s1, rfl, _, _, rfl, _, _, rfl, rfl, ?_⟩
        refine ⟨_, rfl, _, rfl, a, xs, e, _, rfl, rfl, SqL.of ha3, atI_nat hv, av, _, 0, _, rfl, rfl, SqT.of hav, atI_0, _, _, rfl, rfl, _, rfl, ite2 (fun z => ?_) (fun z => ?_)⟩
        · have hpos : 0 < t'.T i e := num_pos.mp (of_decide_eq_true z)
          have hbk1 := hsz t' hg0 i hi' (n + m) (Nat.le_refl _)
          have hbk2 := hsz t' hg0 i hi' e (by omega)
          have hne : t'.T i e ≠ 0 := by grind
          refine ⟨_, rfl, 1, rfl, a, xs, _, _, rfl, rfl, SqL.of ha3, atI_end hR.1 hbv, _, rfl, _, rfl, a, xs, e, _, rfl, rfl, SqL.of ha3, atI_nat hv, ?_⟩
          refine ⟨_, _, t'.T i (n + m), t'.T i e, 301, 301, rfl, hrb.ext e13, ⟨av, rfl, hav⟩, hbk1, hbk2, hne, by omega, fun H4 hv4 e4 hr4 => ?_⟩
          have hB4 : Best m n t' e i H4 bv := (hB.ext e3).ext e4
          have take : (∀ l, l < i → 0 < t'.T l e → t'.T i (n + m) / t'.T i e ≤ t'.T l (n + m) / t'.T l e ∧ (t'.T l (n + m) / t'.T l e = t'.T i (n + m) / t'.T i e → t'.B i ≤ t'.B l)) →
              ∀ p0, H4 p0 = none → ∃ bv y6 y7 y8, ([some (.ref p), some (.ref ca), some (.int n), some (.int (e : Nat)), some (.ref D), some (.ref p0), some (.int (i : Nat)), some (.ref a), some hv4] : L2.St) = [some (.ref p), some (.ref ca), some (.int n), some (.int (e : Nat)), some (.ref D), some bv, y6, y7, y8] ∧ Ext [] H1 (upd H4 p0 (.tup [hv4, .int (i : Nat)])) ∧ Best m n t' e (i + 1) (upd H4 p0 (.tup [hv4, .int (i : Nat)])) bv := fun hall p0 hp0 => by
            have en : Ext [] H4 (upd H4 p0 (.tup [hv4, .int (i : Nat)])) := Ext.new hp0
            refine ⟨_, _, _, _, rfl, (e13.trans e4).trans en, .inr ⟨p0, hv4, i, rfl, upd_same, by omega, hpos, hr4.ext en, fun l hl hl0 => ?_⟩⟩
            by_cases zl : l = i
            · subst zl
              exact ⟨Rat.le_refl, fun _ => Nat.le_refl _⟩
            · exact hall l (by omega) hl0
          rcases hB4 with ⟨rfl, hno⟩ | ⟨ab, bhv, j, rfl, hab, hj, hjp, hbr, hbest⟩
          · refine ⟨_, rfl, rfl, _, rfl, ?_⟩
            refine ⟨_, rfl, _, rfl, two_le, fun p0 hp0 => ?_⟩
            exact take (fun l hl hl0 => (hno l hl hl0).elim) p0 hp0
          · refine ⟨_, rfl, rfl, _, rfl, ?_⟩
            have hbkj := hsz t' hg0 j (by omega) (n + m) (Nat.le_refl _)
            have hbkj2 := hsz t' hg0 j (by omega) e (by omega)
            have hnej : t'.T j e ≠ 0 := by grind
            refine ⟨_, rfl, _, rfl, ab, _, 0, _, rfl, rfl, SqT.of hab, atI_0, ?_⟩
            refine ⟨_, _, t'.T i (n + m) / t'.T i e, t'.T j (n + m) / t'.T j e, 602, 602, rfl, hr4, hbr, hbk1.over hbk2 hne, hbkj.over hbkj2 hnej, by omega, _, rfl, ?_⟩
            by_cases zl : t'.T i (n + m) / t'.T i e < t'.T j (n + m) / t'.T j e
            · rw [decide_eq_true zl]
              refine ⟨_, rfl, _, rfl, two_le, fun p0 hp0 => ?_⟩
              refine take (fun l hl hl0 => ?_) p0 hp0
              have := hbest l hl hl0
              exact ⟨by grind, fun z => by grind⟩
            · rw [decide_eq_false zl]
              refine ⟨_, rfl, _, rfl, ab, _, 0, _, rfl, rfl, SqT.of hab, atI_0, _, _, pr_dp hr4, pr_dp hbr, shaped_pair _ _, shaped_pair _ _, _, rfl, ?_⟩
              rw [eqv_rt]
              have keep : (t'.T i (n + m) / t'.T i e = t'.T j (n + m) / t'.T j e → t'.B j ≤ t'.B i) → ∃ bv y6 y7 y8, ([some (.ref p), some (.ref ca), some (.int n), some (.int (e : Nat)), some (.ref D), some (.ref ab), some (.int (i : Nat)), some (.ref a), some hv4] : L2.St) = [some (.ref p), some (.ref ca), some (.int n), some (.int (e : Nat)), some (.ref D), some bv, y6, y7, y8] ∧ Ext [] H1 H4 ∧ Best m n t' e (i + 1) H4 bv := fun hle => by
                refine ⟨_, _, _, _, rfl, e13.trans e4, .inr ⟨ab, bhv, j, rfl, hab, by omega, hjp, hbr, fun l hl hl0 => ?_⟩⟩
                by_cases zl2 : l = i
                · subst zl2
                  exact ⟨by grind, hle⟩
                · exact hbest l (by omega) hl0
              by_cases zq : t'.T i (n + m) / t'.T i e = t'.T j (n + m) / t'.T j e
              · rw [decide_eq_true zq]
                have hob4 := (e13.trans e4).ins (by simp) ho
                have hba4 := (e13.trans e4).lst0 hP1.basis
                refine ⟨_, rfl, p, C, dx, _, _, rfl, hob4, T.cl, T.nB, fs_basis, _, rfl, lb, _, i, _, rfl, rfl, SqL.of hba4, atI_nat (j := i) (v := V.int (t'.B i)) (by rw [List.getElem?_map, List.getElem?_range hi']; rfl), ?_⟩
                refine ⟨_, rfl, p, C, dx, _, _, rfl, hob4, T.cl, T.nB, fs_basis, _, rfl, ab, _, 1, _, rfl, rfl, SqT.of hab, atI_1, lb, _, j, _, rfl, rfl, SqL.of hba4, atI_nat (j := j) (v := V.int (t'.B j)) (by rw [List.getElem?_map, List.getElem?_range (by omega)]; rfl), _, _, rfl, rfl, _, rfl, ?_⟩
                refine ite2 (fun zb => ?_) (fun zb => ?_)
                · have zb' := of_decide_eq_true zb
                  refine ⟨_, rfl, _, rfl, two_le, fun p0 hp0 => ?_⟩
                  refine take (fun l hl hl0 => ?_) p0 hp0
                  have := hbest l hl hl0
                  refine ⟨by grind, fun z => ?_⟩
                  have h9 := this.2 (z.trans zq)
                  omega
                · have zb' := of_decide_eq_false (Bool.eq_false_iff.mpr zb)
                  exact keep fun _ => by omega
              · rw [decide_eq_false zq]
                exact keep fun z => (zq z).elim
        · have hnp : ¬ 0 < t'.T i e := fun z2 => of_decide_eq_false (Bool.eq_false_iff.mpr z) (num_pos.mpr z2)
          refine ⟨bv, _, _, _, rfl, e13, ?_⟩
          rcases hB.ext e3 with ⟨rfl, hno⟩ | ⟨ab, bhv, j, rfl, hab, hj, hjp, hbr, hbest⟩
          · refine .inl ⟨rfl, fun l hl => ?_⟩
            by_cases zl : l = i
            · rw [zl]; exact hnp
            · exact hno l (by omega)
          · refine .inr ⟨ab, bhv, j, rfl, hab, by omega, hjp, hbr, fun l hl hl0 => ?_⟩
            by_cases zl : l = i
            · rw [zl] at hl0
              exact (hnp hl0).elim
            · exact hbest l (by omega) hl0
      · subst hσ
        rw [h2] at hB
        obtain ⟨i0, hi0, hi1⟩ := PW.has_pos (s := t') hc0 hce
        rcases hB with ⟨_, hno⟩ | ⟨ab, bhv, j, rfl, hab, hj, hjp, hbr, hbest⟩
        · exact (hno i0 hi0 hi1).elim
        · -- if best is None
          refine ⟨_, rfl, rfl, _, rfl, ?_⟩
          have hP2 := hP1.ext0 e2
          obtain ⟨dx2, ho2⟩ := hP2.ob
          have hstp : PW.Stp m n c t' e j := ⟨he, hce, fun k hk => by
            have := of_decide_eq_false (hmin k hk)
            grind, hj, hjp, fun l hl hl0 => (hbest l hl hl0).1, fun l hl hl0 => (hbest l hl hl0).2⟩
          obtain ⟨μ', hμ', ht'⟩ := hμ0.step hstp
          refine ⟨_, rfl, p, dx2, _, rfl, ho2, fs_no_turn, _, rfl, ab, _, 1, _, rfl, rfl, SqT.of hab, atI_1, _, rfl, ?_⟩
          refine ⟨p, ls, la, lb, m, n, j, e, t', rfl, hP2, hj, by omega, hstp.ne, fun i hi k hk => hsz t' hg0 i hi k hk, by omega, hn, fun H6 e6 hP6 => ?_⟩
          exact ⟨μ', hμ', _, _, _, _, _, _, _, rfl, ((e0.trans e1.up).trans e2.up).trans e6, hP6, hstp.good hg0, ht', fun hb0 l hl => by
            rw [PW.piv_B]
            by_cases zl : l = j
            · rw [if_pos zl]; exact he
            · rw [if_neg zl]; exact hBn hb0 l hl⟩
end
end PWK
namespace PWK
open PySem PySem.Spec PyProof.Rows L2
theorem nat_neg_range {m : Nat} (hm : m ≤ 1000) : RgC ((m : Int) - 1) (-1) (-1) m := by
  have h := RgC.neg (i := (m : Int) - 1) (j := -1) (by omega) (by omega) (by omega) (by omega)
  rw [show ((m : Int) - 1 - -1).toNat = m by omega] at h
  exact h
section
variable {P : Program} {w : World} {K : PySem.W.Frag} {mg : Str → Option Value} {base : Heap}
theorem scLeave : FnScope ["self", "j", "some", "k"] ["self"] (defScope sLeave) := ⟨rfl, rfl, rfl, by decide +kernel, rfl, by decide +kernel, by decide +kernel⟩
/-- leave_help(): each equation has a column of its own; the helping ones in the basis are 0 -/
def spLeave (C : Addr) : Sp := fun vs H Q _ => ∃ (p ls la lb : Addr) (m n : Nat) (A : Nat → Nat → Rat) (t : PW.Tb), vs = [.ref p] ∧ PO C p ls la lb m n t H ∧ PW.Good m n A t ∧ PW.HasUnit m n A ∧
  (∀ t', PW.Good m n A t' → ∀ i, i < m → ∀ k, k ≤ n + m → PW.Bk 301 (t'.T i k)) ∧ (∀ j, j < m → n ≤ t.B j → t.T j (n + m) = 0) ∧ m ≤ 12 ∧ n ≤ 1000 ∧
  ∀ H' t', Ext [la, lb] H H' → PO C p ls la lb m n t' H' → PW.Good m n A t' → (∀ j, j < m → t'.B j < n) → Q .non H'
theorem ok_leave {f C fT : Addr} {fd fdT : FuncData} (F : Fun K "leave_help" "Program.leave_help" sLeave f fd) (T : Txt K mg C)
    (GT : FnOk P w K mg base CX0 3 fT fdT ["self", "j", "k"] (spTurn C)) (mT : Meth K C "turn" fT) (bT : Binds K fdT ["self", "j", "k"] []) :
    FnOk P w K mg base CX0 4 f fd ["self"] (spLeave C) := by
  refine F.ok scLeave (fun vs H Q E h => ?_) (fun cdv A outer s H vs Q E hr h => ?_)
  · obtain ⟨p, ls, la, lb, m, n, A, t, rfl, _⟩ := h
    rfl
  · obtain ⟨p, ls, la, lb, m, n, A, t, rfl, hP, hg, hu, hsz, hz, hm, hn, q⟩ := h
    refine ⟨_, pss_one (ps_for PassesOwn.never rfl (pi_range3 rfl T.range (pa_cons (pe_op op_sub (pe_callB call_len_seq rfl T.len PySem.boot_len (pa_cons (pe_fld (pv 0) rfl) pa_nil)) pe_int) (pa_cons (pe_un un_neg pe_int) (pa_cons (pe_un un_neg pe_int) pa_nil))))
        (pg_name (i := 1) scLeave.nd rfl (.inr rfl))
      (pss_one (ps_if (pt_cmpR op_ge (lx (pe_fld (pv 0) rfl) (pv 1)) (pe_fld (pv 0) rfl) (nomark _))
        (pss_cons (ps_setLc (i := 2) (own := [("k", 3)]) (g := gName 3) rfl scLeave.nd rfl rfl (sw_true rfl rfl rfl (by decide +kernel)) (pi_range1 rfl T.range (pa_cons (pe_fld (pv 0) rfl) pa_nil))
          (blkOk_by (N := ["self", "j", "some", "k"]) (sc := defScope sLeave) (by decide +kernel))
          (fun _ _ _ _ _ => pg_name (i := 3) scLeave.nd rfl (.inl rfl))
          (fun _ _ _ _ _ => pts_one (pt_cmpR op_ne (txB K (lxB K (lxB K (fldB K (pv 0)) (pv 1)) (pv 3)) pe_int) pe_int (nomark _)))
          (fun _ _ _ _ _ => pv 3))
        (pss_one (ps_if (pt_truth (pv 2) (by intro _; rfl)) (pss_one (ps_expr (pe_meth (pv 0) T.cl mT GT hr bT .nil pass0 (pa_cons (pv 1) (pa_cons (lx (pv 2) pe_int) pa_nil))))) pss_never))) pss_nil))), ?_⟩
    obtain ⟨dx, ho⟩ := hP.ob
    obtain ⟨rs, h1, h2, h3⟩ := hP.rows
    refine ⟨_, rfl, p, C, dx, _, _, rfl, ho, T.cl, T.nR, fs_rows, la, rs, rfl, .inl (SqL.of h1), _, 1, rfl, rfl, 1, rfl, 1, rfl, (m : Int) - 1, -1, -1, m, ?_, nat_neg_range (by omega), ?_⟩
    · rw [h2]
    refine for_it walk_rangeC (fun i σ H' => ∃ t' y2, (∃ y1, σ = [some (.ref p), y1, y2, none]) ∧ Ext [la, lb] H H' ∧ PO C p ls la lb m n t' H' ∧ PW.Good m n A t' ∧ (∀ j, j < m → n ≤ t'.B j → t'.T j (n + m) = 0) ∧ ∀ j, j < m → m ≤ j + i → t'.B j < n)
      ⟨t, none, ⟨none, rfl⟩, Ext.refl, hP, hg, hz, fun j hj hj2 => by omega⟩ (fun _ _ _ _ _ => trivial) (fun i x σ H1 H2 hi ⟨t', y2, ⟨y1, hσ⟩, e, hP1, hg1, hz1, hb1⟩ y => ?_) (fun σ H1 ⟨t', y2, _, e, hP1, hg1, hz1, hb1⟩ => q H1 t' e hP1 hg1 fun j hj => hb1 j hj (by omega))
    subst hσ
    obtain ⟨rfl, hx⟩ := y
    have hx' : x = V.int ((m - 1 - i : Nat) : Int) := by
      rw [hx]
      show V.int ((m : Int) - 1 + (i : Int) * (-1)) = _
      congr 1
      omega
    rw [hx']
    generalize hj : m - 1 - i = j
    have hjm : j < m := by omega
    obtain ⟨dx1, ho1⟩ := hP1.ob
    refine ⟨_, rfl, p, C, dx1, _, _, rfl, ho1, T.cl, T.nB, fs_basis, _, rfl, lb, _, j, _, rfl, rfl, SqL.of hP1.basis, atI_nat (j := j) (v := V.int (t'.B j)) (by rw [List.getElem?_map, List.getElem?_range hjm]; rfl), ?_⟩
    refine ⟨_, rfl, p, C, dx1, _, _, rfl, ho1, T.cl, T.nM, fs_many, _, _, rfl, rfl, _, rfl, ite2 (fun z => ?_) (fun z => ?_)⟩
    · have z' : n ≤ t'.B j := by have := of_decide_eq_true z; omega
      refine ⟨_, rfl, p, C, dx1, _, _, rfl, ho1, T.cl, T.nM, fs_many, n, rfl, by omega, by omega, ?_⟩
      rw [Int.toNat_natCast]
      refine lc_some walk_range0 (fun k => decide (t'.T j k ≠ 0)) (fun k => V.int (k : Nat)) yfn_ext (fun _ _ => trivial) (by omega) (fun k x H1 H2 hk e y R1 R0 k1 k0 => ?_) (fun D H3 hD e3 hL => ?_)
      · obtain ⟨rfl, rfl⟩ := y
        refine ⟨rfl, ?_⟩
        refine r_ent (x := 1) (y := 3) (hP1.ext0 e) T rfl rfl hjm rfl (by omega) fun v hv => ?_
        obtain ⟨av, rfl, hav⟩ := hv
        refine ⟨av, _, 0, _, rfl, rfl, SqT.of hav, atI_0, rfl, _, rfl, ?_⟩
        by_cases z2 : t'.T j k = 0
        · have d2 : (!decide (V.int (t'.T j k).num = V.int 0)) = false := by rw [z2]; rfl
          rw [d2]
          exact k0 _ (by simp [z2]) Ext.refl
        · have d2 : (!decide (V.int (t'.T j k).num = V.int 0)) = true := by
            rw [decide_eq_false (fun z => PW.num_ne z2 (V.int.inj z))]; rfl
          rw [d2]
          exact ⟨_, rfl, k1 _ (by simp [z2]) Ext.refl⟩
      obtain ⟨k1, hk1, hk2⟩ := PW.row_some hg1 hu hjm z'
      cases hf : (List.range n).filter (fun k => decide (t'.T j k ≠ 0)) with
      | nil =>
        have := filter_nil hf hk1
        simp at this
        exact (hk2 this).elim
      | cons e0 r =>
        obtain ⟨he, hce, _⟩ := filter_cons hf
        have hce : t'.T j e0 ≠ 0 := of_decide_eq_true hce
        rw [hf] at hL
        refine ⟨_, rfl, _, .inl ⟨_, SqL.of hL, rfl⟩, ?_⟩
        have hP3 := hP1.ext0 e3
        obtain ⟨dx3, ho3⟩ := hP3.ob
        have h0 := hz1 j hjm z'
        refine ⟨_, rfl, p, dx3, _, rfl, ho3, fs_no_turn, _, rfl, _, rfl, D, _, 0, _, rfl, rfl, SqL.of hL, atI_0, ?_⟩
        refine ⟨p, ls, la, lb, m, n, j, e0, t', rfl, hP3, hjm, by omega, hce, fun i hi k hk => hsz t' hg1 i hi k hk, by omega, hn, fun H6 e6 hP6 => ?_⟩
        refine ⟨_, _, ⟨_, rfl⟩, (e.trans e3.up).trans e6, hP6, hg1.piv0 hjm (by omega) hce h0, fun l hl hl2 => ?_, fun l hl hl2 => ?_⟩
        · rw [PW.piv_pos0 hg1 h0 l hl]
          rw [PW.piv_B] at hl2
          by_cases zl : l = j
          · rw [zl]; exact h0
          · rw [if_neg zl] at hl2
            exact hz1 l hl hl2
        · rw [PW.piv_B]
          by_cases zl : l = j
          · rw [if_pos zl]; exact he
          · rw [if_neg zl]
            exact hb1 l hl (by omega)
    · have z' : ¬ n ≤ t'.B j := fun z2 => by
        have := of_decide_eq_false (Bool.eq_false_iff.mpr z)
        omega
      refine ⟨t', _, ⟨_, rfl⟩, e, hP1, hg1, hz1, fun l hl hl2 => ?_⟩
      by_cases zl : l = j
      · rw [zl]; omega
      · exact hb1 l hl (by omega)
/-! ### amounts, prices -/
theorem scAmounts : FnScope ["self", "found", "j", "row", "k"] ["self"] (defScope sAmounts) := ⟨rfl, rfl, rfl, by decide +kernel, rfl, by decide +kernel, by decide +kernel⟩
def spAmounts (C : Addr) : Sp := fun vs H Q _ => ∃ (p ls la lb : Addr) (m n : Nat) (A : Nat → Nat → Rat) (t : PW.Tb), vs = [.ref p] ∧ PO C p ls la lb m n t H ∧ PW.Good m n A t ∧ (∀ j, j < m → t.B j < n) ∧ m ≤ 12 ∧ n ≤ 1000 ∧
  ∀ H' a xs, Ext [] H H' → H a = none → H' a = some (.lst xs) → Rs H' xs n (PW.amt m n t) → Q (.ref a) H'
theorem ok_amounts {f C : Addr} {fd : FuncData} (F : Fun K "amounts" "Program.amounts" sAmounts f fd) (T : Txt K mg C) : FnOk P w K mg base CX0 1 f fd ["self"] (spAmounts C) := by
  refine F.ok scAmounts (fun vs H Q E h => ?_) (fun cdv A outer s H vs Q E hr h => ?_)
  · obtain ⟨p, ls, la, lb, m, n, A, t, rfl, _⟩ := h
    rfl
  · obtain ⟨p, ls, la, lb, m, n, A, t, rfl, hP, hg, hb, hm, hn, q⟩ := h
    refine ⟨_, pss_cons (ps_setLc (i := 1) (own := [("k", 4)]) (g := gName 4) rfl scAmounts.nd rfl rfl (sw_true rfl rfl rfl (by decide +kernel)) (pi_range1 rfl T.range (pa_cons (pe_fld (pv 0) rfl) pa_nil))
          (blkOk_by (N := ["self", "found", "j", "row", "k"]) (sc := defScope sAmounts) (by decide +kernel))
          (fun _ _ _ _ _ => pg_name (i := 4) scAmounts.nd rfl (.inl rfl)) (fun _ _ _ _ _ => pts_nil) (fun _ _ _ _ _ => pe_tup (pa_cons pe_int (pa_cons pe_int pa_nil))))
      (pss_cons (ps_for PassesOwn.never rfl (pi_enum rfl T.enumerate (pa_cons (pe_fld (pv 0) rfl) pa_nil)) (pg_tup rfl (pgs_cons (pg_name (i := 2) scAmounts.nd rfl (.inl rfl)) (pgs_cons (pg_name (i := 3) scAmounts.nd rfl (.inl rfl)) pgs_nil)))
        (pss_one (ps_if (pt_cmpR op_lt (lx (pe_fld (pv 0) rfl) (pv 2)) (pe_fld (pv 0) rfl) (nomark _))
          (pss_one (ps_asg (lx (pv 3) (pe_un un_neg pe_int)) (pg_sub (pv 1) (lx (pe_fld (pv 0) rfl) (pv 2)) set_list))) pss_nil)))
      (pss_one (ps_ret (pv 1)))), ?_⟩
    obtain ⟨dx, ho⟩ := hP.ob
    refine ⟨_, rfl, p, C, dx, _, _, rfl, ho, T.cl, T.nM, fs_many, n, rfl, by omega, by omega, ?_⟩
    rw [Int.toNat_natCast]
    refine lc_map walk_range0 (fun k v H' => Rt H' v 0) (fun _ _ _ _ _ x h => Pr.ext x h) yfn_ext (fun _ _ => trivial) (by omega) (fun k x H1 H2 hk e y R k2 => ?_) (fun D H1 ys hD e1 hL hl hv => ?_)
    · obtain ⟨rfl, rfl⟩ := y
      exact ⟨rfl, two_le, fun p0 hp0 => k2 _ _ (Ext.new hp0) ⟨p0, rfl, upd_same⟩⟩
    have hP1 := hP.ext0 e1
    obtain ⟨dx1, ho1⟩ := hP1.ob
    obtain ⟨rs, h1, h2, h3⟩ := hP1.rows
    have hDla : D ≠ la := by
      obtain ⟨rs0, h0, _⟩ := hP.rows
      exact (ne_of_none h0 hD).symm
    have hDlb : D ≠ lb := (ne_of_none hP.basis hD).symm
    refine ⟨_, rfl, p, C, dx1, _, _, rfl, ho1, T.cl, T.nR, fs_rows, la, rs, rfl, SqL.of h1, ?_⟩
    refine for_it walk_enum (fun i σ H' => ∃ y2 y3 xs, σ = [some (.ref p), some (.ref D), y2, y3, none] ∧ Ext [] H H' ∧ PO C p ls la lb m n t H' ∧ H' la = some (.lst rs) ∧ H' D = some (.lst xs) ∧ Rs H' xs n (fun k => PW.sm i (fun j => if t.B j = k then t.T j (n + m) else 0)))
      ⟨none, none, ys, rfl, e1, hP1, h1, hL, hl, hv⟩ (fun i σ H' _ ⟨_, _, _, _, _, _, h, _⟩ => SqL.of h) (fun i x σ H2 H3 hi ⟨y2, y3, xs, hσ, e2, hP2, hla2, hD2, hR2⟩ y => ?_) (fun σ H2 ⟨y2, y3, xs, hσ, e2, hP2, hla2, hD2, hR2⟩ => ?_)
    · subst hσ
      obtain ⟨T0, x1, x2, rfl, hT0, eH, f1, f2⟩ := y
      have s1 : H3 T0 = some (.tup [x1, x2]) := by rw [eH, upd_same]
      have e3 : Ext [] H2 H3 := by rw [eH]; exact Ext.new hT0
      have ex1 : x1 = V.int (i : Nat) := (Option.some.inj f1).symm
      subst ex1
      have hP3 := hP2.ext0 e3
      obtain ⟨dx3, ho3⟩ := hP3.ob
      obtain ⟨rs3, g1, g2, g3⟩ := hP3.rows
      have er : rs3 = rs := by
        have := e3.lst0 hla2
        rw [g1] at this
        cases this
        rfl
      subst er
      have hi' : i < m := by omega
      obtain ⟨a, zs, rfl, _, _, ha, hR⟩ := g3 i x2 f2
      obtain ⟨bv, hbv, hrb⟩ := hR.get (i := n + m) (by omega)
      have hD3 := e3.lst0 hD2
      have hbi : t.B i < n := hb i hi'
      refine ⟨T0, _, rfl, SqT.of s1, rfl, _, _, rfl, _, _, rfl, rfl, ?_⟩
      refine ⟨_, rfl, p, C, dx3, _, _, rfl, ho3, T.cl, T.nB, fs_basis, _, rfl, lb, _, i, _, rfl, rfl, SqL.of hP3.basis, atI_nat (j := i) (v := V.int (t.B i)) (by rw [List.getElem?_map, List.getElem?_range hi']; rfl), ?_⟩
      refine ⟨_, rfl, p, C, dx3, _, _, rfl, ho3, T.cl, T.nM, fs_many, _, _, rfl, rfl, _, rfl, ?_⟩
      rw [show decide (((t.B i : Nat) : Int) < ((n : Nat) : Int)) = true from decide_eq_true (by omega)]
      refine ⟨_, rfl, 1, rfl, a, zs, _, _, rfl, rfl, SqL.of ha, atI_end hR.1 hbv, _, rfl, ?_⟩
      refine ⟨_, rfl, p, C, dx3, _, _, rfl, ho3, T.cl, T.nB, fs_basis, _, rfl, lb, _, i, _, rfl, rfl, SqL.of hP3.basis, atI_nat (j := i) (v := V.int (t.B i)) (by rw [List.getElem?_map, List.getElem?_range hi']; rfl), ?_⟩
      refine ⟨D, xs, _, t.B i, rfl, rfl, hD3, ixN_nat (by rw [hR2.1]; exact hbi), ?_⟩
      have put : Ext [D] H3 (upd H3 D (.lst (xs.set (t.B i) bv))) := Ext.put (by simp) hD3
      have e4 : Ext [] H (upd H3 D (.lst (xs.set (t.B i) bv))) := ((e2.trans e3).up (S := [D])).trans put |>.less fun b hb' _ => by
        have : b = D := by simpa using hb'
        rw [this]; exact hD
      refine ⟨_, _, _, rfl, e4, ⟨⟨dx3, put.ins (by simpa using ins_ne ho3 hD3) ho3⟩, ?_, put.lst (by simpa using hDlb.symm) hP3.basis, ?_, hP3.ab, hP3.sa, hP3.sb⟩, put.lst (by simpa using hDla.symm) g1, upd_same, by rw [List.length_set]; exact hR2.1, fun k v ek => ?_⟩
      · refine ⟨rs3, put.lst (by simpa using hDla.symm) g1, g2, fun l v el => ?_⟩
        obtain ⟨rs0, w0, w1, w2⟩ := hP.rows
        have w0' := (e2.trans e3).lst0 w0
        rw [g1] at w0'
        cases w0'
        obtain ⟨a', zs', q1, q2, q3, q4, q5⟩ := w2 l v el
        have hne : a' ≠ D := ne_of_none q4 hD
        exact ⟨a', zs', q1, q2, q3, put.lst (by simpa using hne) ((e2.trans e3).lst0 q4), (q5.ext (e2.trans e3)).ext put⟩
      · obtain ⟨zs', e5, r⟩ := hP.signs
        have hne : ls ≠ D := ne_of_none e5 hD
        exact ⟨zs', put.lst (by simpa using hne) ((e2.trans e3).lst0 e5), (r.ext (e2.trans e3)).ext put⟩
      · by_cases zk : k = t.B i
        · subst zk
          rw [List.getElem?_set_self (by rw [hR2.1]; exact hbi)] at ek
          have ev : bv = v := Option.some.inj ek
          rw [← ev]
          show Rt _ bv (PW.sm i (fun j => if t.B j = t.B i then t.T j (n + m) else 0) + (if t.B i = t.B i then t.T i (n + m) else 0))
          rw [PW.sm_zero fun j hj => if_neg fun z => by have := hg.binj (by omega) hi' z; omega, if_pos rfl, show (0 : Rat) + t.T i (n + m) = t.T i (n + m) by grind]
          exact hrb.ext put
        · rw [List.getElem?_set_ne (Ne.symm zk)] at ek
          show Rt _ v (PW.sm i (fun j => if t.B j = k then t.T j (n + m) else 0) + (if t.B i = k then t.T i (n + m) else 0))
          rw [if_neg (fun z => zk z.symm), show PW.sm i (fun j => if t.B j = k then t.T j (n + m) else 0) + 0 = PW.sm i (fun j => if t.B j = k then t.T j (n + m) else 0) by grind]
          exact ((hR2.2 k v ek).ext e3).ext put
    · subst hσ
      rw [h2] at hR2
      exact ⟨_, rfl, q H2 D xs e2 hD hD2 hR2⟩
theorem scPrices : FnScope ["self", "costs", "j", "sign"] ["self", "costs"] (defScope sPrices) := ⟨rfl, rfl, rfl, by decide +kernel, rfl, by decide +kernel, by decide +kernel⟩
def spPrices (C : Addr) : Sp := fun vs H Q _ => ∃ (p ls la lb ca : Addr) (m n L : Nat) (t : PW.Tb) (cs : List V) (c : Nat → Rat), vs = [.ref p, .ref ca] ∧ PO C p ls la lb m n t H ∧ H ca = some (.lst cs) ∧ Rs H cs L c ∧ (∀ j, j < m → t.B j < L) ∧
  (∀ j, j < m → ∀ k, k ≤ n + m → PW.Bk 301 (t.T j k)) ∧ (∀ i, i < L → PW.Bk 2 (c i)) ∧ m ≤ 12 ∧ ∀ H' a, Ext [] H H' → Q (.ref a) H'
theorem ok_prices {f C fM fB : Addr} {fd fdM fdB : FuncData} (F : Fun K "prices" "Program.prices" sPrices f fd) (T : Txt K mg C)
    (GM : FnOk P w K mg base CX0 4 fM fdM ["self", "costs", "k"] (spMult C)) (mM : Meth K C "multiplier" fM) (bM : Binds K fdM ["self", "costs", "k"] [])
    (GB : FnOk P w K mg base CX0 2 fB fdB ["one", "other"] (spBin (fun x y => x * y) fun _ _ => True)) (kB : PySem.W.keepIn K (.ref fB) = true) (bB : Binds K fdB ["one", "other"] []) (gB : mg "by" = some (.ref fB)) :
    FnOk P w K mg base CX0 5 f fd ["self", "costs"] (spPrices C) := by
  refine F.ok scPrices (fun vs H Q E h => ?_) (fun cdv A outer s H vs Q E hr h => ?_)
  · obtain ⟨p, ls, la, lb, ca, m, n, L, t, cs, c, rfl, _⟩ := h
    rfl
  · obtain ⟨p, ls, la, lb, ca, m, n, L, t, cs, c, rfl, hP, hca, hcs, hBL, hT, hc, hm, q⟩ := h
    have hr2 : Room 2 _ := hr.mono (by decide)
    refine ⟨_, pss_one (ps_ret (pe_lc (own := [("j", 2), ("sign", 3)]) (g := gTup K 2 (gCons (gName 2) (gCons (gName 3) gNil))) rfl scPrices.nd (pi_enum rfl T.enumerate (pa_cons (pe_fld (pv 0) rfl) pa_nil))
        (blkOk_by (N := ["self", "costs", "j", "sign"]) (sc := defScope sPrices) (by decide +kernel))
        (fun _ _ _ _ _ => pg_tup rfl (pgs_cons (pg_name (i := 2) scPrices.nd rfl (.inl rfl)) (pgs_cons (pg_name (i := 3) scPrices.nd rfl (.inl rfl)) pgs_nil))) (fun _ _ _ _ _ => pts_nil)
        (fun _ _ _ _ _ => pe_call GB hr2 rfl gB kB bB .nil pass0 (pa_cons (pv 3) (pa_cons (pe_meth (pv 0) T.cl mM GM hr bM .nil pass0 (pa_cons (pv 1) (pa_cons (pe_op op_add (fldB K (pv 0)) (pv 2)) pa_nil))) pa_nil))))), ?_⟩
    obtain ⟨dx, ho⟩ := hP.ob
    obtain ⟨zs, hs1, hs2⟩ := hP.signs
    refine ⟨_, rfl, p, C, dx, _, _, rfl, ho, T.cl, T.nS, fs_signs, ls, zs, rfl, SqL.of hs1, ?_⟩
    refine lc_map walk_enum (fun _ _ _ => True) (fun _ _ _ _ _ _ h => h) ypair_ext (fun H' e => SqL.of (e.lst0 hs1)) (by rw [hs2.1]; omega) (fun j x H' H'' hj e y R k2 => ?_) (fun D H' ys hD e hL hl hv => q H' D e)
    obtain ⟨T0, x1, x2, rfl, hT0, eH, f1, f2⟩ := y
    have s1 : H'' T0 = some (.tup [x1, x2]) := by rw [eH, upd_same]
    have ex1 : x1 = V.int (j : Nat) := (Option.some.inj f1).symm
    subst ex1
    have hj' : j < m := hs2.lt f2
    have hr1 := hs2.2 j x2 f2
    refine ⟨T0, _, rfl, SqT.of s1, rfl, _, _, rfl, _, _, rfl, rfl, rfl, ?_⟩
    refine ⟨_, rfl, _, rfl, p, dx, _, rfl, e.ins (by simp) ho, fs_no_mult, _, rfl, _, rfl, p, C, dx, _, _, rfl, e.ins (by simp) ho, T.cl, T.nM, fs_many, _, rfl, _, _, rfl, rfl, ?_⟩
    refine ⟨p, ls, la, lb, ca, m, n, n + j, L, t, cs, c, by rw [Int.natCast_add]; rfl, hP.ext0 e, e.lst0 hca, hcs.ext e, hBL, by omega, fun i hi => hT i hi _ (by omega), hc, hm, fun H5 v e5 hv => ?_⟩
    exact ⟨_, v, 1, PW.lin m c t (n + j), 2, 3700, rfl, hr1.ext (e.trans e5), hv, ⟨by decide, by decide⟩, lin_bk hm hBL (fun i hi => hT i hi _ (by omega)) hc, trivial, by omega, fun H6 v6 e6 _ => k2 v6 H6 (e5.trans e6) trivial⟩
end
end PWK
namespace PWK
open PySem PySem.Spec PyProof.Rows L2
theorem fs_put {n : Nat} {ls la lb : Addr} : putF "basis" (.ref lb) (putF "rows" (.ref la) (putF "signs" (.ref ls) (putF "many" (.int n) []))) = fs n ls la lb := rfl
theorem rt_int {H : Hp} {v : V} {a : Addr} (i : Int) (e : v = .ref a) (h : H a = some (.tup [.int i, .int 1])) : Rt H v (i : Rat) := ⟨a, e, by simpa using h⟩
/-- rows of n ratios, as they are given -/
def InRows (H : Hp) (ra : Addr) (m n : Nat) (A : Nat → Nat → Rat) : Prop := ∃ rl, H ra = some (.lst rl) ∧ rl.length = m ∧ ∀ i v, rl[i]? = some v → ∃ a xs, v = .ref a ∧ H a = some (.lst xs) ∧ Rs H xs n (A i)
theorem InRows.ext0 {H H' : Hp} {ra : Addr} {m n : Nat} {A : Nat → Nat → Rat} (x : Ext [] H H') (h : InRows H ra m n A) : InRows H' ra m n A := by
  obtain ⟨rl, h1, h2, h3⟩ := h
  refine ⟨rl, x.lst0 h1, h2, fun i v e => ?_⟩
  obtain ⟨a, xs, q1, q2, q3⟩ := h3 i v e
  exact ⟨a, xs, q1, x.lst0 q2, q3.ext x⟩
theorem InRows.extP {H H' : Hp} {ra p C dx : Addr} {fs : List (Str × V)} {m n : Nat} {A : Nat → Nat → Rat} (x : Ext [p] H H') (hp : H p = some (.ins C dx fs)) (h : InRows H ra m n A) : InRows H' ra m n A := by
  obtain ⟨rl, h1, h2, h3⟩ := h
  refine ⟨rl, x.lst (by simpa using (ins_ne hp h1).symm) h1, h2, fun i v e => ?_⟩
  obtain ⟨a, xs, q1, q2, q3⟩ := h3 i v e
  exact ⟨a, xs, q1, x.lst (by simpa using (ins_ne hp q2).symm) q2, q3.ext x⟩
/-- something new behind something that may change -/
theorem Ext.put0 {S : List Addr} {H H' : Hp} {a : Addr} {xs : List V} {o : HO} (x : Ext S H H') (h0 : H a = none) (h : H' a = some (.lst xs)) : Ext S H (upd H' a o) := by
  have y : Ext (a :: S) H' (upd H' a o) := Ext.put (by simp) h
  refine ((x.mono fun b hb => List.mem_cons_of_mem a hb).trans y).less fun b hb hb2 => ?_
  rcases List.mem_cons.mp hb with z | z
  · rw [z]; exact h0
  · exact absurd z hb2
theorem Rs.app {H : Hp} {xs ys : List V} {n m : Nat} {f g : Nat → Rat} (h : Rs H xs n f) (h' : Rs H ys m g) : Rs H (xs ++ ys) (n + m) (fun c => if c < n then f c else g (c - n)) := by
  refine ⟨by rw [List.length_append, h.1, h'.1], fun i v e => ?_⟩
  rcases Nat.lt_or_ge i n with z | z
  · rw [List.getElem?_append_left (by rw [h.1]; exact z)] at e
    show Rt H v (if i < n then f i else g (i - n))
    rw [if_pos z]
    exact h.2 i v e
  · rw [List.getElem?_append_right (by rw [h.1]; exact z), h.1] at e
    show Rt H v (if i < n then f i else g (i - n))
    rw [if_neg (by omega)]
    exact h'.2 _ v e
theorem Rs.congr {H : Hp} {xs : List V} {n : Nat} {f g : Nat → Rat} (h : Rs H xs n f) (e : ∀ i, i < n → f i = g i) : Rs H xs n g :=
  ⟨h.1, fun i v ei => by rw [← e i (h.lt ei)]; exact h.2 i v ei⟩
section
variable {P : Program} {w : World} {K : PySem.W.Frag} {mg : Str → Option Value} {base : Heap}
theorem scInit : FnScope ["self", "rows", "goals", "j", "row", "helping", "goal", "k", "one"] ["self", "rows", "goals"] (defScope sInit) := ⟨rfl, rfl, rfl, by decide +kernel, rfl, by decide +kernel, by decide +kernel⟩
def spInit (C : Addr) : Sp := fun vs H Q _ => ∃ (p ra ga dx : Addr) (m n : Nat) (A : Nat → Nat → Rat) (gs : List V), vs = [.ref p, .ref ra, .ref ga] ∧ H p = some (.ins C dx []) ∧ InRows H ra m n A ∧ H ga = some (.lst gs) ∧ Rs H gs m (fun i => A i (n + m)) ∧
  0 < m ∧ (∀ i, i < m → 0 ≤ A i (n + m)) ∧ (∀ i, i < m → ∀ l, l < m → A i (n + l) = if i = l then 1 else 0) ∧ (∀ i, i < m → ∀ k, k ≤ n + m → PW.Bk 301 (A i k)) ∧ m ≤ 12 ∧ n ≤ 1000 ∧
  ∀ H' ls la lb, Ext [p] H H' → H ls = none → H la = none → H lb = none → PO C p ls la lb m n ⟨A, fun j => n + j⟩ H' → Q .non H'
theorem ok_init {f C fB : Addr} {fd fdB : FuncData} (F : Fun K "__init__" "Program.__init__" sInit f fd) (T : Txt K mg C)
    (GB : FnOk P w K mg base CX0 2 fB fdB ["one", "other"] (spBin (fun x y => x * y) fun _ _ => True)) (kB : PySem.W.keepIn K (.ref fB) = true) (bB : Binds K fdB ["one", "other"] []) (gB : mg "by" = some (.ref fB)) :
    FnOk P w K mg base CX0 3 f fd ["self", "rows", "goals"] (spInit C) := by
  refine F.ok scInit (fun vs H Q E h => ?_) (fun cdv A outer s H vs Q E hr h => ?_)
  · obtain ⟨p, ra, ga, dx, m, n, A, gs, rfl, _⟩ := h
    rfl
  · obtain ⟨p, ra, ga, dx, m, n, A, gs, rfl, hp, hrows, hga, hgs, hm0, hpos, hI, hbk, hm, hn, q⟩ := h
    refine ⟨_, pss_cons (ps_fld (pv 0) (pe_callB call_len_seq rfl T.len PySem.boot_len (pa_cons (lx (pv 1) pe_int) pa_nil)) rfl)
      (pss_cons (ps_fld (pv 0) (pe_lc (own := [("goal", 6)]) (g := gName 6) rfl scInit.nd (pi_list (pv 2)) (blkOk_by (N := ["self", "rows", "goals", "j", "row", "helping", "goal", "k", "one"]) (sc := defScope sInit) (by decide +kernel))
          (fun _ _ _ _ _ => pg_name (i := 6) scInit.nd rfl (.inl rfl)) (fun _ _ _ _ _ => pts_nil)
          (fun _ _ _ _ _ => pe_ifExp (pt_cmpR op_lt (txB K (pv 6) pe_int) pe_int (nomark _)) (pe_tup (pa_cons (pe_un un_neg pe_int) (pa_cons pe_int pa_nil))) (pe_tup (pa_cons pe_int (pa_cons pe_int pa_nil))))) rfl)
      (pss_cons (ps_fld (pv 0) (pe_lst pa_nil) rfl)
      (pss_cons (ps_fld (pv 0) (pe_lst pa_nil) rfl)
      (pss_one (ps_for PassesOwn.never rfl (pi_enum rfl T.enumerate (pa_cons (pv 1) pa_nil)) (pg_tup rfl (pgs_cons (pg_name (i := 3) scInit.nd rfl (.inr rfl)) (pgs_cons (pg_name (i := 4) scInit.nd rfl (.inl rfl)) pgs_nil)))
        (pss_cons (ps_setLc (i := 5) (own := [("k", 7)]) (g := gName 7) rfl scInit.nd rfl rfl (sw_true rfl rfl rfl (by decide +kernel)) (pi_range1 rfl T.range (pa_cons (pe_callB call_len_seq rfl T.len PySem.boot_len (pa_cons (pv 1) pa_nil)) pa_nil))
            (blkOk_by (N := ["self", "rows", "goals", "j", "row", "helping", "goal", "k", "one"]) (sc := defScope sInit) (by decide +kernel))
            (fun _ _ _ _ _ => pg_name (i := 7) scInit.nd rfl (.inl rfl)) (fun _ _ _ _ _ => pts_nil)
            (fun _ _ _ _ _ => pe_ifExp (pt_cmpR op_eq (pv 7) (pv 3) (nomark _)) (pe_tup (pa_cons pe_int (pa_cons pe_int pa_nil))) (pe_tup (pa_cons pe_int (pa_cons pe_int pa_nil)))))
        (pss_cons (ps_expr (pe_bm PySem.F.plainAttrs_list PySem.F.slot_list_append PySem.F.type_list_append mt_append (pe_fld (pv 0) rfl) (pa_cons
            (pe_op op_cat (pe_op op_cat (pe_lc (own := [("one", 8)]) (g := gName 8) rfl scInit.nd (pi_list (pv 4)) (blkOk_by (N := ["self", "rows", "goals", "j", "row", "helping", "goal", "k", "one"]) (sc := defScope sInit) (by decide +kernel))
                (fun _ _ _ _ _ => pg_name (i := 8) scInit.nd rfl (.inl rfl)) (fun _ _ _ _ _ => pts_nil)
                (fun _ _ _ _ _ => pe_call GB hr rfl gB kB bB .nil pass0 (pa_cons (pv 8) (pa_cons (lxB K (fldB K (pv 0)) (pv 3)) pa_nil)))) (pv 5))
              (pe_lst (pa_cons (pe_call GB hr rfl gB kB bB .nil pass0 (pa_cons (lx (pv 2) (pv 3)) (pa_cons (lx (pe_fld (pv 0) rfl) (pv 3)) pa_nil))) pa_nil))) pa_nil)))
        (pss_one (ps_expr (pe_bm PySem.F.plainAttrs_list PySem.F.slot_list_append PySem.F.type_list_append mt_append (pe_fld (pv 0) rfl) (pa_cons (pe_op op_add (pe_fld (pv 0) rfl) (pv 3)) pa_nil))))))))))), ?_⟩
    obtain ⟨rl, hrl, hrl2, hrl3⟩ := id hrows
    obtain ⟨a0, xs0, ea0, ha0, hR0⟩ := hrl3 0 _ (List.getElem?_eq_getElem (by omega))
    have ea0' : rl[0]? = some (.ref a0) := by rw [← ea0]; exact List.getElem?_eq_getElem (by omega)
    refine ⟨_, rfl, ra, rl, 0, _, rfl, rfl, SqL.of hrl, atI_nat (j := 0) ea0', a0, xs0, rfl, .inl (SqL.of ha0), _, rfl, p, C, dx, [], rfl, hp, T.cl, T.nM, (by show 0 < 1000; decide), ?_⟩
    rw [hR0.1]
    generalize hH1 : upd H p (.ins C dx (putF "many" (.int n) [])) = H1
    have e1 : Ext [p] H H1 := by rw [← hH1]; exact Ext.putI (by simp) hp
    have p1 : H1 p = some (.ins C dx (putF "many" (.int n) [])) := by rw [← hH1, upd_same]
    have hga1 : H1 ga = some (.lst gs) := e1.lst (by simpa using (ins_ne hp hga).symm) hga
    refine ⟨_, rfl, ga, rfl, ⟨gs, SqL.of hga1⟩, ?_⟩
    refine lc_map walk_list (fun _ v H' => Rt H' v 1) (fun _ _ _ _ _ x h => Pr.ext x h) yat_ext (fun H' e => SqL.of (e.lst0 hga1)) (by rw [hgs.1]; omega) (fun i x H2 H3 hi e y R k2 => ?_) (fun ls H2 ys hls1 e2 hL hl hv => ?_)
    · obtain ⟨rfl, hx⟩ := y
      have hi' := hgs.lt hx
      obtain ⟨av, rfl, hav⟩ := ((hgs.2 i x hx).ext e1).ext e
      refine ⟨rfl, _, rfl, av, _, 0, _, rfl, rfl, SqT.of hav, atI_0, _, _, rfl, rfl, _, rfl, ?_⟩
      have hn0 : ¬ (A i (n + m)).num < 0 := by
        have := Rat.num_nonneg.mpr (hpos i hi')
        omega
      rw [decide_eq_false hn0]
      exact ⟨two_le, fun p0 hp0 => k2 _ _ (Ext.new hp0) ⟨p0, rfl, upd_same⟩⟩
    have hls : H ls = none := e1.non ls hls1
    have p2 : H2 p = some (.ins C dx (putF "many" (.int n) [])) := e2.ins (by simp) p1
    refine ⟨_, rfl, p, C, dx, _, rfl, p2, T.cl, T.nS, (by show 1 < 1000; decide), ?_⟩
    generalize hH3 : upd H2 p (.ins C dx (putF "signs" (.ref ls) (putF "many" (.int n) []))) = H3
    have e23 : Ext [p] H2 H3 := by rw [← hH3]; exact Ext.putI (by simp) p2
    have e3 : Ext [p] H H3 := (e1.trans e2.up).trans e23
    have p3 : H3 p = some (.ins C dx (putF "signs" (.ref ls) (putF "many" (.int n) []))) := by rw [← hH3, upd_same]
    have lsp : ls ≠ p := (ne_of_none hp hls).symm
    have ls3 : H3 ls = some (.lst ys) := e23.lst (by simpa using lsp) hL
    have rs3 : Rs H3 ys m (fun _ => 1) := Rs.ext e23 ⟨by rw [hl, hgs.1], hv⟩
    refine ⟨Nat.zero_le _, fun la hla3 => ?_⟩
    have hla : H la = none := e3.non la hla3
    have e34 : Ext [] H3 (upd H3 la (.lst [])) := Ext.new hla3
    refine ⟨_, rfl, p, C, dx, _, rfl, e34.ins (by simp) p3, T.cl, T.nR, (by show 2 < 1000; decide), ?_⟩
    generalize hH5 : upd (upd H3 la (.lst [])) p (.ins C dx (putF "rows" (.ref la) (putF "signs" (.ref ls) (putF "many" (.int n) [])))) = H5
    have e45 : Ext [p] (upd H3 la (.lst [])) H5 := by rw [← hH5]; exact Ext.putI (by simp) (e34.ins (by simp) p3)
    have e5 : Ext [p] H H5 := (e3.trans e34.up).trans e45
    have lap : la ≠ p := (ne_of_none hp hla).symm
    have p5 : H5 p = some (.ins C dx (putF "rows" (.ref la) (putF "signs" (.ref ls) (putF "many" (.int n) [])))) := by rw [← hH5, upd_same]
    have la5 : H5 la = some (.lst []) := e45.lst (by simpa using lap) upd_same
    have ls5 : H5 ls = some (.lst ys) := e45.lst (by simpa using lsp) (e34.lst0 ls3)
    have lsla : ls ≠ la := ne_of_none ls3 hla3
    refine ⟨Nat.zero_le _, fun lb hlb5 => ?_⟩
    have hlb : H lb = none := e5.non lb hlb5
    have e56 : Ext [] H5 (upd H5 lb (.lst [])) := Ext.new hlb5
    refine ⟨_, rfl, p, C, dx, _, rfl, e56.ins (by simp) p5, T.cl, T.nB, (by show 3 < 1000; decide), ?_⟩
    rw [fs_put]
    generalize hH7 : upd (upd H5 lb (.lst [])) p (.ins C dx (fs n ls la lb)) = H7
    have e67 : Ext [p] (upd H5 lb (.lst [])) H7 := by rw [← hH7]; exact Ext.putI (by simp) (e56.ins (by simp) p5)
    have e7 : Ext [p] H H7 := (e5.trans e56.up).trans e67
    have lbp : lb ≠ p := (ne_of_none hp hlb).symm
    have p7 : H7 p = some (.ins C dx (fs n ls la lb)) := by rw [← hH7, upd_same]
    have lb7 : H7 lb = some (.lst []) := e67.lst (by simpa using lbp) upd_same
    have la7 : H7 la = some (.lst []) := e67.lst (by simpa using lap) (e56.lst0 la5)
    have ls7 : H7 ls = some (.lst ys) := e67.lst (by simpa using lsp) (e56.lst0 ls5)
    have rs7 : Rs H7 ys m (fun _ => 1) := (((rs3.ext e34).ext e45).ext e56).ext e67
    have lalb : la ≠ lb := ne_of_none la5 hlb5
    have lslb : ls ≠ lb := ne_of_none ls5 hlb5
    have hr7 : InRows H7 ra m n A := hrows.extP e7 hp
    obtain ⟨rl7, hrl7, hrl72, hrl73⟩ := id hr7
    refine ⟨_, rfl, ra, rl7, rfl, SqL.of hrl7, ?_⟩
    refine for_it walk_enum (fun i σ H' => ∃ y3 y4 y5 rs, σ = [some (.ref p), some (.ref ra), some (.ref ga), y3, y4, y5, none, none, none] ∧ Ext [p] H H' ∧ H' p = some (.ins C dx (fs n ls la lb)) ∧ H' ls = some (.lst ys) ∧ Rs H' ys m (fun _ => 1) ∧ InRows H' ra m n A ∧ H' ra = some (.lst rl7) ∧
        H' la = some (.lst rs) ∧ rs.length = i ∧ (∀ l v, rs[l]? = some v → ∃ a xs, v = .ref a ∧ a ≠ la ∧ a ≠ lb ∧ H' a = some (.lst xs) ∧ Rs H' xs (n + m + 1) (A l)) ∧ H' lb = some (.lst ((List.range i).map fun j => V.int ((n + j : Nat) : Int))))
      ⟨none, none, none, [], rfl, e7, p7, ls7, rs7, hr7, hrl7, la7, rfl, fun l v e => by simp at e, lb7⟩ (fun i σ H' _ ⟨_, _, _, _, _, _, _, _, _, _, h, _⟩ => SqL.of h) (fun i x σ H2 H3 hi ⟨y3, y4, y5, rs, hσ, e2, p2, ls2, rs2, hr2, hra2, la2, hlen, hall, lb2⟩ y => ?_)
      (fun σ H2 ⟨y3, y4, y5, rs, hσ, e2, p2, ls2, rs2, hr2, hra2, la2, hlen, hall, lb2⟩ => ?_)
    · subst hσ
      obtain ⟨T0, x1, x2, rfl, hT0, eH, f1, f2⟩ := y
      have s1 : H3 T0 = some (.tup [x1, x2]) := by rw [eH, upd_same]
      have e3 : Ext [] H2 H3 := by rw [eH]; exact Ext.new hT0
      have ex1 : x1 = V.int (i : Nat) := (Option.some.inj f1).symm
      subst ex1
      have hi' : i < m := by omega
      have hr3 := hr2.ext0 e3
      obtain ⟨rl3, hrl3', hrl32, hrl33⟩ := id hr3
      have er : rl3 = rl7 := by
        have := e3.lst0 hra2
        rw [hrl3'] at this
        cases this
        rfl
      subst er
      obtain ⟨a, xs, rfl, ha, hR⟩ := hrl33 i x2 f2
      have lb2n : H2 lb ≠ none := by rw [lb2]; simp
      refine ⟨T0, _, rfl, SqT.of s1, rfl, _, _, rfl, _, _, rfl, rfl, ?_⟩
      refine ⟨_, rfl, ra, rl3, rfl, .inl (SqL.of hrl3'), _, rfl, by omega, by omega, ?_⟩
      rw [hrl32, Int.toNat_natCast]
      refine lc_map walk_range0 (fun k v H' => Rt H' v (if i = k then 1 else 0)) (fun _ _ _ _ _ x h => Pr.ext x h) yfn_ext (fun _ _ => trivial) (by omega) (fun k x H4 H5 hk e y R k2 => ?_) (fun Dh H4 hs hDh e4 hLh hlh hvh => ?_)
      · obtain ⟨rfl, rfl⟩ := y
        refine ⟨rfl, _, rfl, _, rfl, rfl, _, rfl, ?_⟩
        by_cases z : i = k
        · subst z
          rw [decide_eq_true rfl]
          refine ⟨two_le, fun p0 hp0 => k2 _ _ (Ext.new hp0) ⟨p0, rfl, ?_⟩⟩
          rw [upd_same, if_pos rfl]
          rfl
        · rw [decide_eq_false (fun z2 => z (by have := V.int.inj z2; omega))]
          refine ⟨two_le, fun p0 hp0 => k2 _ _ (Ext.new hp0) ⟨p0, rfl, ?_⟩⟩
          rw [upd_same, if_neg z]
          rfl
      have e24 := e3.trans e4
      have p4 := e24.ins (by simp) p2
      have la4 := e24.lst0 la2
      have ha4 := e4.lst0 ha
      have hR4 := hR.ext e4
      obtain ⟨gv, hgv, hgr⟩ := hgs.get hi'
      obtain ⟨sv, hsv, hsr⟩ := rs2.get hi'
      have hga2 : H2 ga = some (.lst gs) := e2.lst (by simpa using (ins_ne hp hga).symm) hga
      refine ⟨_, rfl, p, C, dx, _, _, rfl, p4, T.cl, T.nR, fs_rows, .inl ⟨rfl, _, SqL.of la4⟩, _, rfl, a, rfl, ⟨xs, SqL.of ha4⟩, ?_⟩
      refine lc_map walk_list (fun c v H' => Rt H' v (A i c)) (fun _ _ _ _ _ x h => Pr.ext x h) yat_ext (fun H' e => SqL.of (e.lst0 ha4)) (by rw [hR.1]; omega) (fun c x H5 H6 hc e y R k2 => ?_) (fun D1 H5 ys1 hD1 e5 hL1 hl1 hv1 => ?_)
      · obtain ⟨rfl, hx⟩ := y
        have hc' := hR.lt hx
        refine ⟨rfl, _, rfl, _, rfl, p, C, dx, _, _, rfl, e.ins (by simp) p4, T.cl, T.nS, fs_signs, _, rfl, ls, ys, i, _, rfl, rfl, SqL.of (e.lst0 (e24.lst0 ls2)), atI_nat hsv, ?_⟩
        refine ⟨x, sv, A i c, 1, 301, 2, rfl, (hR4.2 c x hx).ext e, (hsr.ext e24).ext e, hbk i hi' c (by omega), ⟨by decide, by decide⟩, trivial, by omega, fun H7 v7 e7 hv7 => ?_⟩
        have hv7 : Rt H7 v7 (A i c * 1) := hv7
        rw [Rat.mul_one] at hv7
        exact k2 v7 H7 e7 hv7
      have e25 := e24.trans e5
      refine ⟨_, rfl, D1, Dh, ys1, hs, rfl, rfl, hL1, e5.lst0 hLh, sz (by rw [hl1, hlh, hR.1]; omega), fun p1 hp1 => ?_⟩
      have e56 : Ext [] H5 (upd H5 p1 (.lst (ys1 ++ hs))) := Ext.new hp1
      have e26 := e25.trans e56
      refine ⟨_, rfl, _, rfl, ga, gs, i, gv, rfl, rfl, SqL.of (e26.lst0 hga2), atI_nat hgv, _, rfl, p, C, dx, _, _, rfl, e26.ins (by simp) p2, T.cl, T.nS, fs_signs, _, rfl, ls, ys, i, sv, rfl, rfl, SqL.of (e26.lst0 ls2), atI_nat hsv, ?_⟩
      refine ⟨gv, sv, A i (n + m), 1, 301, 2, rfl, (hgr.ext e2).ext e26, hsr.ext e26, hbk i hi' (n + m) (Nat.le_refl _), ⟨by decide, by decide⟩, trivial, by omega, fun H7 v7 e7 hv7 => ?_⟩
      have hv7 : Rt H7 v7 (A i (n + m) * 1) := hv7
      rw [Rat.mul_one] at hv7
      refine ⟨by show 1 ≤ sizeLine; decide, fun p2' hp2 => ?_⟩
      have e78 : Ext [] H7 (upd H7 p2' (.lst [v7])) := Ext.new hp2
      refine ⟨p1, p2', _, _, rfl, rfl, e78.lst0 (e7.lst0 upd_same), upd_same, sz (by rw [List.length_append, hl1, hlh, hR.1]; simp; omega), fun p3' hp3 => ?_⟩
      generalize hH9 : upd (upd H7 p2' (.lst [v7])) p3' (.lst (ys1 ++ hs ++ [v7])) = H9
      have e89 : Ext [] (upd H7 p2' (.lst [v7])) H9 := by rw [← hH9]; exact Ext.new hp3
      have e69 : Ext [] (upd H5 p1 (.lst (ys1 ++ hs))) H9 := (e7.trans e78).trans e89
      have e29 : Ext [] H2 H9 := e26.trans e69
      have p39 : H9 p3' = some (.lst (ys1 ++ hs ++ [v7])) := by rw [← hH9, upd_same]
      have p3H2 : H2 p3' = none := e25.non p3' (e56.non p3' (e7.non p3' (e78.non p3' hp3)))
      have la9 := e29.lst0 la2
      have row9 : Rs H9 (ys1 ++ hs ++ [v7]) (n + m + 1) (A i) := by
        have r1 : Rs H9 ys1 n (A i) := Rs.ext (e56.trans e69) ⟨by rw [hl1, hR.1], hv1⟩
        have r2 : Rs H9 hs m (fun k => if i = k then 1 else 0) := Rs.ext (e5.trans (e56.trans e69)) ⟨hlh, hvh⟩
        have r3 : Rs H9 [v7] 1 (fun _ => A i (n + m)) := ⟨rfl, fun j v e => by
          cases j with
          | zero =>
            have ev : v7 = v := Option.some.inj e
            rw [← ev]
            exact hv7.ext (e78.trans e89)
          | succ j => simp at e⟩
        refine ((r1.app r2).app r3).congr fun c hc => ?_
        show (if c < n + m then (if c < n then A i c else if i = c - n then 1 else 0) else A i (n + m)) = A i c
        by_cases z1 : c < n + m
        · rw [if_pos z1]
          by_cases z2 : c < n
          · rw [if_pos z2]
          · rw [if_neg z2, ← hI i hi' (c - n) (by omega), show n + (c - n) = c by omega]
        · rw [if_neg z1, show c = n + m by omega]
      refine ⟨la, rs, _, rfl, rfl, la9, szl (by omega), ?_⟩
      generalize hH10 : upd H9 la (.lst (rs ++ [.ref p3'])) = H10
      have e910 : Ext [la] H9 H10 := by rw [← hH10]; exact Ext.put (by simp) la9
      have e10 : Ext [p] H H10 := by rw [← hH10]; exact (e2.trans e29.up).put0 hla la9
      have p10 : H10 p = some (.ins C dx (fs n ls la lb)) := e910.ins (by simpa using lap.symm) (e29.ins (by simp) p2)
      have lb10 : H10 lb = some (.lst ((List.range i).map fun j => V.int ((n + j : Nat) : Int))) := e910.lst (by simpa using lalb.symm) (e29.lst0 lb2)
      refine ⟨_, rfl, p, C, dx, _, _, rfl, p10, T.cl, T.nB, fs_basis, .inl ⟨rfl, _, SqL.of lb10⟩, _, rfl, p, C, dx, _, _, rfl, p10, T.cl, T.nM, fs_many, _, rfl, _, _, rfl, rfl, lb, _, _, rfl, rfl, lb10, szl (by rw [List.length_map, List.length_range]; omega), ?_⟩
      generalize hH11 : upd H10 lb (.lst (((List.range i).map fun j => V.int ((n + j : Nat) : Int)) ++ [.int ((n : Int) + (i : Int))])) = H11
      have e1011 : Ext [lb] H10 H11 := by rw [← hH11]; exact Ext.put (by simp) lb10
      have e11 : Ext [p] H H11 := by rw [← hH11]; exact e10.put0 hlb lb10
      have bb : Ext [la, lb] H2 H11 := (e29.up.trans (e910.mono fun b hb => by simp at hb; simp [hb])).trans (e1011.mono fun b hb => by simp at hb; simp [hb])
      refine ⟨_, _, _, rs ++ [.ref p3'], rfl, e11, e1011.ins (by simpa using lbp.symm) p10, bb.lst (by simp [lsla, lslb]) ls2, rs2.ext bb, hrows.extP e11 hp, ?_, ?_, by simp [hlen], fun l v el => ?_, ?_⟩
      · have n1 : ra ≠ la := ne_of_none hrl hla
        have n2 : ra ≠ lb := ne_of_none hrl hlb
        exact bb.lst (by simp [n1, n2]) hra2
      · refine e1011.lst (by simpa using lalb) ?_
        rw [← hH10, upd_same]
      · rcases Nat.lt_or_ge l rs.length with z | z
        · rw [List.getElem?_append_left z] at el
          obtain ⟨a', zs, q1, q2, q3, q4, q5⟩ := hall l v el
          exact ⟨a', zs, q1, q2, q3, bb.lst (by simp [q2, q3]) q4, q5.ext bb⟩
        · rw [List.getElem?_append_right z] at el
          have hl0 : l - rs.length = 0 := by
            rcases Nat.eq_zero_or_pos (l - rs.length) with z0 | z0
            · exact z0
            · rw [List.getElem?_eq_none (by simp; omega)] at el
              cases el
          rw [hl0] at el
          have ev : V.ref p3' = v := Option.some.inj el
          have n1 : p3' ≠ la := (ne_of_none la2 p3H2).symm
          have n2 : p3' ≠ lb := (ne_of_none lb2 p3H2).symm
          refine ⟨p3', _, ev.symm, n1, n2, e1011.lst (by simpa using n2) (e910.lst (by simpa using n1) p39), ?_⟩
          rw [show l = i by omega]
          exact (row9.ext e910).ext e1011
      · rw [← hH11, upd_same, List.range_succ, List.map_append]
        congr 3
    · subst hσ
      refine q H2 ls la lb e2 hls hla hlb ⟨⟨dx, p2⟩, ⟨rs, la2, by omega, hall⟩, ?_, ⟨ys, ls2, rs2⟩, lalb, lsla, lslb⟩
      rw [lb2, show rl7.length = m from hrl72]
end
end PWK
namespace PWK
open PySem PySem.Spec PyProof.Rows L2
abbrev sSolved : Stmt := topS 16
/-- a list made anew of what a list holds: list(xs) -/
theorem rt_m1 {H : Hp} {a : Addr} (h : H a = some (.tup [.int (-1), .int 1])) : Rt H (.ref a) (-1) := ⟨a, rfl, h⟩
theorem rt_0 {H : Hp} {a : Addr} (h : H a = some (.tup [.int 0, .int 1])) : Rt H (.ref a) 0 := ⟨a, rfl, h⟩
theorem bk2_cost (w : PW.Wt) (k : Nat) : PW.Bk 2 (w.cost k) := by
  unfold PW.Wt.cost
  split <;> exact ⟨by decide, by decide⟩
theorem bk2_help (w : PW.Wt) (k : Nat) : PW.Bk 2 (w.help k) := by
  unfold PW.Wt.help
  split <;> exact ⟨by decide, by decide⟩
theorem wt_m {w : PW.Wt} (o : w.Ok) : 0 < w.m ∧ w.m ≤ 12 ∧ w.n ≤ 1000 := by
  have h1 := o.W0
  have h2 := o.S4
  have h3 := o.W4
  have h4 : w.S * w.W ≤ 4 * 4 := Nat.mul_le_mul h2 h3
  unfold PW.Wt.n PW.Wt.m
  omega
section
variable {P : Program} {w : World} {K : PySem.W.Frag} {mg : Str → Option Value} {base : Heap}
theorem scSolved : FnScope ["rows", "goals", "costs", "program", "helping", "all_costs", "k", "row"] ["rows", "goals", "costs"] (defScope sSolved) := ⟨rfl, rfl, rfl, by decide +kernel, rfl, by decide +kernel, by decide +kernel⟩
def spSolved : Sp := fun vs H Q _ => ∃ (wt : PW.Wt) (ra ga ca : Addr) (gs cs : List V), vs = [.ref ra, .ref ga, .ref ca] ∧ wt.Ok ∧ InRows H ra wt.m wt.n wt.A ∧ H ga = some (.lst gs) ∧ Rs H gs wt.m (fun i => wt.A i (wt.n + wt.m)) ∧ H ca = some (.lst cs) ∧ Rs H cs wt.n wt.cost ∧
  ∀ H' q am xs t pr, Ext [] H H' → H' q = some (.tup [.str "best", .ref am, .ref pr]) → H' am = some (.lst xs) → Rs H' xs wt.n (PW.amt wt.m wt.n t) → PW.Good wt.m wt.n wt.A t → PW.Top wt.m wt.n wt.cost t → (∀ j, j < wt.m → t.B j < wt.n) → Q (.ref q) H'
theorem ok_solved {f C fI fM fC fL fA fP : Addr} {fd fdI fdM fdC fdL fdA fdP : FuncData} (F : Fun K "solved" "solved" sSolved f fd) (T : Txt K mg C) (mC : mg "Program" = some (.ref C)) (ml : mg "list" = none) (M : Mk K C fI)
    (GI : FnOk P w K mg base CX0 3 fI fdI ["self", "rows", "goals"] (spInit C)) (bI : Binds K fdI ["self", "rows", "goals"] [])
    (GM : FnOk P w K mg base CX0 4 fM fdM ["self", "costs", "k"] (spMult C)) (mM : Meth K C "multiplier" fM) (bM : Binds K fdM ["self", "costs", "k"] [])
    (GC : FnOk P w K mg base CX0 5 fC fdC ["self", "costs", "columns"] (spClimb C)) (mCl : Meth K C "climb" fC) (bC : Binds K fdC ["self", "costs", "columns"] [])
    (GL : FnOk P w K mg base CX0 4 fL fdL ["self"] (spLeave C)) (mL : Meth K C "leave_help" fL) (bL : Binds K fdL ["self"] [])
    (GA : FnOk P w K mg base CX0 1 fA fdA ["self"] (spAmounts C)) (mA : Meth K C "amounts" fA) (bA : Binds K fdA ["self"] [])
    (GP : FnOk P w K mg base CX0 5 fP fdP ["self", "costs"] (spPrices C)) (mP : Meth K C "prices" fP) (bP : Binds K fdP ["self", "costs"] []) :
    FnOk P w K mg base CX0 6 f fd ["rows", "goals", "costs"] spSolved := by
  refine F.ok scSolved (fun vs H Q E h => ?_) (fun cdv A outer s H vs Q E hr h => ?_)
  · obtain ⟨wt, ra, ga, ca, gs, cs, rfl, _⟩ := h
    rfl
  · obtain ⟨wt, ra, ga, ca, gs, cs, rfl, o, hrows, hga, hgs, hca, hcs, q⟩ := h
    have hr4 : Room 4 _ := hr.mono (by decide)
    have hr1 : Room 1 _ := hr.mono (by decide)
    have hr3 : Room (3 + 1) _ := hr.mono (by decide)
    obtain ⟨hm0, hm12, hn1000⟩ := wt_m o
    refine ⟨_, pss_cons (ps_set (i := 3) scSolved.nd rfl (.inl rfl) (pe_make M GI hr3 rfl mC bI .nil pass0 (pa_cons (pv 0) (pa_cons (pv 1) pa_nil))))
      (pss_cons (ps_set (i := 4) scSolved.nd rfl (.inl rfl) (pe_op op_cat
          (pe_lc (own := [("k", 6)]) (g := gName 6) rfl scSolved.nd (pi_list (pv 2)) (blkOk_by (N := ["rows", "goals", "costs", "program", "helping", "all_costs", "k", "row"]) (sc := defScope sSolved) (by decide +kernel))
            (fun _ _ _ _ _ => pg_name (i := 6) scSolved.nd rfl (.inl rfl)) (fun _ _ _ _ _ => pts_nil) (fun _ _ _ _ _ => pe_tup (pa_cons pe_int (pa_cons pe_int pa_nil))))
          (pe_lc (own := [("row", 7)]) (g := gName 7) rfl scSolved.nd (pi_list (pv 0)) (blkOk_by (N := ["rows", "goals", "costs", "program", "helping", "all_costs", "k", "row"]) (sc := defScope sSolved) (by decide +kernel))
            (fun _ _ _ _ _ => pg_name (i := 7) scSolved.nd rfl (.inl rfl)) (fun _ _ _ _ _ => pts_nil) (fun _ _ _ _ _ => pe_tup (pa_cons (pe_un un_neg pe_int) (pa_cons pe_int pa_nil))))))
      (pss_cons (ps_expr (pe_meth (pv 3) T.cl mCl GC hr bC .nil pass0 (pa_cons (pv 4) (pa_cons (pe_fld (pv 3) rfl) pa_nil))))
      (pss_cons (ps_if (pt_cmpR op_lt (tx (pe_meth (pv 3) T.cl mM GM hr4 bM .nil pass0 (pa_cons (pv 4) (pa_cons (pe_op op_add (pe_fld (pv 3) rfl) (pe_callB call_len_seq rfl T.len PySem.boot_len (pa_cons (pv 0) pa_nil))) pa_nil))) pe_int) pe_int (nomark _)) pss_never pss_nil)
      (pss_cons (ps_expr (pe_meth0 (pv 3) T.cl mL GL hr4 bL .nil pass0))
      (pss_cons (ps_set (i := 5) scSolved.nd rfl (.inl rfl) (pe_op op_cat (pe_callTy call_list_of rfl ml (by decide +kernel) (pa_cons (pv 2) pa_nil))
          (pe_lc (own := [("row", 7)]) (g := gName 7) rfl scSolved.nd (pi_list (pv 0)) (blkOk_by (N := ["rows", "goals", "costs", "program", "helping", "all_costs", "k", "row"]) (sc := defScope sSolved) (by decide +kernel))
            (fun _ _ _ _ _ => pg_name (i := 7) scSolved.nd rfl (.inl rfl)) (fun _ _ _ _ _ => pts_nil) (fun _ _ _ _ _ => pe_tup (pa_cons pe_int (pa_cons pe_int pa_nil))))))
      (pss_cons (ps_if (pt_not (pt_val (pe_meth (pv 3) T.cl mCl GC hr bC .nil pass0 (pa_cons (pv 5) (pa_cons (pe_fld (pv 3) rfl) pa_nil))))) pss_never pss_nil)
      (pss_one (ps_ret (pe_tup (pa_cons pe_str (pa_cons (pe_meth0 (pv 3) T.cl mA GA hr1 bA .nil pass0) (pa_cons (pe_meth (pv 3) T.cl mP GP hr bP .nil pass0 (pa_cons (pv 5) pa_nil)) pa_nil)))))))))))), ?_⟩
    have hsz : ∀ t', PW.Good wt.m wt.n wt.A t' → ∀ i, i < wt.m → ∀ k, k ≤ wt.n + wt.m → PW.Bk 301 (t'.T i k) := fun t' g i hi k hk => (o.sizes g hi hk).bk
    refine ⟨_, rfl, _, rfl, fun p dx hp hdx hne => ?_⟩
    generalize hH0 : upd (upd H dx (.own p)) p (.ins C dx []) = H0
    have e0 : Ext [] H H0 := by
      rw [← hH0]
      refine (Ext.new hdx).trans (Ext.new ?_)
      rw [upd_ne hne.symm]
      exact hp
    have p0 : H0 p = some (.ins C dx []) := by rw [← hH0, upd_same]
    refine ⟨p, ra, ga, dx, wt.m, wt.n, wt.A, gs, rfl, p0, hrows.ext0 e0, e0.lst0 hga, hgs.ext e0, hm0, o.good.pos, fun i hi l hl => PW.Wt.A_help hl, hsz _ o.good, hm12, hn1000, fun H1 ls la lb e1 hls hla hlb hP1 => ⟨rfl, ?_⟩⟩
    have e01 : Ext [] H H1 := ((e0.up (S := [p])).trans e1).less fun b hb _ => by
      have : b = p := by simpa using hb
      rw [this]; exact hp
    have la0 : H la = none := e0.non la hla
    have lb0 : H lb = none := e0.non lb hlb
    have hg0 := o.good
    have hca1 := e01.lst0 hca
    have hcs1 := hcs.ext e01
    obtain ⟨rl, hrl, hrl2, hrl3⟩ := hrows.ext0 e01
    refine ⟨_, rfl, ca, rfl, ⟨cs, SqL.of hca1⟩, ?_⟩
    refine lc_map walk_list (fun _ v H' => Rt H' v 0) (fun _ _ _ _ _ x h => Pr.ext x h) yat_ext (fun H' e => SqL.of (e.lst0 hca1)) (by rw [hcs1.1]; omega) (fun i x H2 H3 hi e y R k2 => ?_) (fun D1 H2 ys1 hD1 e2 hL1 hl1 hv1 => ?_)
    · obtain ⟨rfl, hx⟩ := y
      exact ⟨rfl, two_le, fun p0 hp0 => k2 _ _ (Ext.new hp0) (rt_0 upd_same)⟩
    have hrl' := e2.lst0 hrl
    refine ⟨_, rfl, ra, rfl, ⟨rl, SqL.of hrl'⟩, ?_⟩
    refine lc_map walk_list (fun _ v H' => Rt H' v (-1)) (fun _ _ _ _ _ x h => Pr.ext x h) yat_ext (fun H' e => SqL.of (e.lst0 hrl')) (by omega) (fun i x H3 H4 hi e y R k2 => ?_) (fun D2 H3 ys2 hD2 e3 hL2 hl2 hv2 => ?_)
    · obtain ⟨rfl, hx⟩ := y
      exact ⟨rfl, 1, rfl, two_le, fun p0 hp0 => k2 _ _ (Ext.new hp0) (rt_m1 upd_same)⟩
    refine ⟨D1, D2, ys1, ys2, rfl, rfl, e3.lst0 hL1, hL2, sz (by rw [hl1, hl2, hcs1.1]; omega), fun hl hhl => ?_⟩
    generalize hH4 : upd H3 hl (.lst (ys1 ++ ys2)) = H4
    have e34 : Ext [] H3 H4 := by rw [← hH4]; exact Ext.new hhl
    have e14 : Ext [] H1 H4 := (e2.trans e3).trans e34
    have hP4 := hP1.ext0 e14
    have hl4 : H4 hl = some (.lst (ys1 ++ ys2)) := by rw [← hH4, upd_same]
    have help4 : Rs H4 (ys1 ++ ys2) (wt.n + wt.m) wt.help := by
      have r1 : Rs H4 ys1 wt.n (fun _ => 0) := Rs.ext (e3.trans e34) ⟨by rw [hl1, hcs1.1], hv1⟩
      have r2 : Rs H4 ys2 wt.m (fun _ => -1) := Rs.ext e34 ⟨by rw [hl2, hrl2], hv2⟩
      refine (r1.app r2).congr fun c hc => ?_
      show (if c < wt.n then (0 : Rat) else -1) = wt.help c
      unfold PW.Wt.help
      by_cases z : c < wt.n
      · rw [if_pos z, if_neg (by omega)]
      · rw [if_neg z, if_pos (by omega)]
    have hl1n : H1 hl = none := (e2.trans e3).non hl hhl
    have hlla : hl ≠ la := by
      obtain ⟨rs, w1, _⟩ := hP1.rows
      exact (ne_of_none w1 hl1n).symm
    have hllb : hl ≠ lb := (ne_of_none hP1.basis hl1n).symm
    obtain ⟨dx4, ho4⟩ := hP4.ob
    refine ⟨_, rfl, p, dx4, _, rfl, ho4, fs_no_climb, _, rfl, _, rfl, p, C, dx4, _, _, rfl, ho4, T.cl, T.nM, fs_many, ?_⟩
    refine ⟨p, ls, la, lb, hl, wt.m, wt.n, wt.n + wt.m, wt.A, _, ys1 ++ ys2, wt.help, rfl, hP4, hlla, hllb, hl4, help4, Nat.le_refl _, hg0, hsz, fun i _ => bk2_help wt i, PW.Wt.help_le, hm12, hn1000, PW.climbs o.whole PW.Wt.help_int PW.Wt.help_le hg0, fun H5 t1 e5 hP5 hg1 htop1 _ => ?_⟩
    obtain ⟨hz0, hz1⟩ := o.phase1 hg1 htop1
    obtain ⟨dx5, ho5⟩ := hP5.ob
    have hl5 := e5.lst (by simp [hlla, hllb]) hl4
    have rala : ra ≠ la := by
      obtain ⟨r0, w0, _⟩ := hrows
      exact ne_of_none w0 la0
    have ralb : ra ≠ lb := by
      obtain ⟨r0, w0, _⟩ := hrows
      exact ne_of_none w0 lb0
    have hrl5 : H5 ra = some (.lst rl) := e5.lst (by simp [rala, ralb]) (e14.lst0 hrl)
    refine ⟨_, rfl, p, dx5, _, rfl, ho5, fs_no_mult, _, rfl, _, rfl, p, C, dx5, _, _, rfl, ho5, T.cl, T.nM, fs_many, _, rfl, ra, rl, rfl, .inl (SqL.of hrl5), _, _, rfl, rfl, ?_⟩
    refine ⟨p, ls, la, lb, hl, wt.m, wt.n, wt.n + wt.m, wt.n + wt.m, t1, ys1 ++ ys2, wt.help, by rw [hrl2, Int.natCast_add]; rfl, hP5, hl5, help4.ext e5, hg1.blt, Nat.le_refl _, fun j hj => hsz t1 hg1 j hj _ (Nat.le_refl _), fun i _ => bk2_help wt i, hm12, fun H6 v6 e6 hv6 => ?_⟩
    rw [hz0] at hv6
    obtain ⟨av, rfl, hav⟩ := hv6
    refine ⟨av, _, 0, _, rfl, rfl, SqT.of hav, atI_0, _, _, rfl, rfl, _, rfl, ?_⟩
    rw [show decide ((0 : Rat).num < 0) = false from by decide]
    have hP6 := hP5.ext0 e6
    obtain ⟨dx6, ho6⟩ := hP6.ob
    refine ⟨_, rfl, p, dx6, _, rfl, ho6, fs_no_leave, ?_⟩
    refine ⟨p, ls, la, lb, wt.m, wt.n, wt.A, t1, rfl, hP6, hg1, o.unit, hsz, hz1, hm12, hn1000, fun H7 t2 e7 hP7 hg2 hb2 => ?_⟩
    have e17 : Ext [la, lb] H1 H7 := (e14.up.trans (e5.trans e6.up)).trans e7
    have cala : ca ≠ la := ne_of_none hca la0
    have calb : ca ≠ lb := ne_of_none hca lb0
    have hca7 : H7 ca = some (.lst cs) := e17.lst (by simp [cala, calb]) hca1
    have hrl7 : H7 ra = some (.lst rl) := e17.lst (by simp [rala, ralb]) hrl
    refine ⟨_, rfl, ca, cs, rfl, .inl (SqL.of hca7), fun d1 hd1 => ?_⟩
    have e78 : Ext [] H7 (upd H7 d1 (.lst cs)) := Ext.new hd1
    have hrl8 := e78.lst0 hrl7
    refine ⟨_, rfl, ra, rfl, ⟨rl, SqL.of hrl8⟩, ?_⟩
    refine lc_map walk_list (fun _ v H' => Rt H' v 0) (fun _ _ _ _ _ x h => Pr.ext x h) yat_ext (fun H' e => SqL.of (e.lst0 hrl8)) (by omega) (fun i x H3 H4 hi e y R k2 => ?_) (fun D3 H9 ys3 hD3 e9 hL3 hl3 hv3 => ?_)
    · obtain ⟨rfl, hx⟩ := y
      exact ⟨rfl, two_le, fun p0 hp0 => k2 _ _ (Ext.new hp0) (rt_0 upd_same)⟩
    refine ⟨d1, D3, cs, ys3, rfl, rfl, e9.lst0 upd_same, hL3, sz (by rw [hl3, hcs.1]; omega), fun al hal => ?_⟩
    generalize hH10 : upd H9 al (.lst (cs ++ ys3)) = H10
    have e910 : Ext [] H9 H10 := by rw [← hH10]; exact Ext.new hal
    have e710 : Ext [] H7 H10 := (e78.trans e9).trans e910
    have hP10 := hP7.ext0 e710
    have al10 : H10 al = some (.lst (cs ++ ys3)) := by rw [← hH10, upd_same]
    have cost10 : Rs H10 (cs ++ ys3) (wt.n + wt.m) wt.cost := by
      have r1 : Rs H10 cs wt.n wt.cost := (hcs1.ext e17).ext e710
      have r2 : Rs H10 ys3 wt.m (fun _ => 0) := Rs.ext e910 ⟨by rw [hl3, hrl2], hv3⟩
      refine (r1.app r2).congr fun c hc => ?_
      show (if c < wt.n then wt.cost c else 0) = wt.cost c
      by_cases z : c < wt.n
      · rw [if_pos z]
      · rw [if_neg z]
        unfold PW.Wt.cost
        unfold PW.Wt.n PW.Wt.m at z
        rw [if_neg (by omega)]
    have al7n : H7 al = none := (e78.trans e9).non al hal
    have alla : al ≠ la := by
      obtain ⟨rs, w1, _⟩ := hP7.rows
      exact (ne_of_none w1 al7n).symm
    have allb : al ≠ lb := (ne_of_none hP7.basis al7n).symm
    obtain ⟨dx10, ho10⟩ := hP10.ob
    refine ⟨_, rfl, p, dx10, _, rfl, ho10, fs_no_climb, _, rfl, _, rfl, p, C, dx10, _, _, rfl, ho10, T.cl, T.nM, fs_many, ?_⟩
    refine ⟨p, ls, la, lb, al, wt.m, wt.n, wt.n + wt.m, wt.A, t2, cs ++ ys3, wt.cost, rfl, hP10, alla, allb, al10, cost10, Nat.le_refl _, hg2, hsz, fun i _ => bk2_cost wt i, PW.Wt.cost_le, hm12, hn1000, PW.climbs o.whole PW.Wt.cost_int PW.Wt.cost_le hg2, fun H11 t3 e11 hP11 hg3 htop3 hB3 => ?_⟩
    refine ⟨true, rfl, ?_⟩
    have hb3 := hB3 hb2
    obtain ⟨dx11, ho11⟩ := hP11.ob
    have al11 := e11.lst (by simp [alla, allb]) al10
    refine ⟨_, rfl, p, dx11, _, rfl, ho11, fs_no_amounts, p, ls, la, lb, wt.m, wt.n, wt.A, t3, rfl, hP11, hg3, hb3, hm12, hn1000, fun H12 am xs e12 _ hxs hR => ?_⟩
    have hP12 := hP11.ext0 e12
    obtain ⟨dx12, ho12⟩ := hP12.ob
    refine ⟨_, rfl, p, dx12, _, rfl, ho12, fs_no_prices, _, rfl, p, ls, la, lb, al, wt.m, wt.n, wt.n + wt.m, t3, _, wt.cost, rfl, hP12, e12.lst0 al11, (cost10.ext e11).ext e12, hg3.blt, hsz t3 hg3, fun i _ => bk2_cost wt i, hm12, fun H13 pr e13 => ?_⟩
    refine ⟨by show 3 ≤ sizeLine; decide, fun qa hqa => ?_⟩
    have e1314 : Ext [] H13 (upd H13 qa (.tup [.str "best", .ref am, .ref pr])) := Ext.new hqa
    refine q _ qa am xs t3 pr ?_ upd_same (e1314.lst0 (e13.lst0 hxs)) ((hR.ext e13).ext e1314) hg3 htop3 hb3
    have eAll : Ext [la, lb] H (upd H13 qa (.tup [.str "best", .ref am, .ref pr])) := (((e01.up.trans e17).trans e710.up).trans e11).trans ((e12.trans e13).trans e1314).up
    exact eAll.less fun b hb _ => by
      simp at hb
      rcases hb with z | z
      · rw [z]; exact la0
      · rw [z]; exact lb0
end
end PWK
namespace PWK
open PySem PySem.Spec PyProof.Rows L2
abbrev sIsIn : Stmt := topS 5
abbrev sNeed : Stmt := topS 21
abbrev sWhole : Stmt := topS 22
abbrev sProg : Stmt := topS 23
abbrev sPlan : Stmt := topS 24
abbrev sFresh : Stmt := topS 25
abbrev sLeast : Stmt := topS 26
/-! ### water as it stands -/
/-- a list of pairs (flow, dirt) -/
def Prs (H : Hp) (xs : List V) (l : List (Int × Int)) : Prop := xs.length = l.length ∧ ∀ i v, xs[i]? = some v → Pr H v (l.getD i (0, 0)).1 (l.getD i (0, 0)).2
theorem Prs.ext {S : List Addr} {H H' : Hp} {xs : List V} {l : List (Int × Int)} (x : Ext S H H') (h : Prs H xs l) : Prs H' xs l := ⟨h.1, fun i v e => (h.2 i v e).ext x⟩
theorem Prs.get {H : Hp} {xs : List V} {l : List (Int × Int)} (h : Prs H xs l) {i : Nat} (hi : i < l.length) : ∃ v, xs[i]? = some v ∧ Pr H v (l.getD i (0, 0)).1 (l.getD i (0, 0)).2 :=
  ⟨xs[i]'(by rw [h.1]; exact hi), List.getElem?_eq_getElem _, h.2 i _ (List.getElem?_eq_getElem _)⟩
/-- a side at a: a tuple of pairs -/
def SideAt (H : Hp) (a : Addr) (l : List (Int × Int)) : Prop := ∃ xs, H a = some (.tup xs) ∧ Prs H xs l
theorem SideAt.ext {S : List Addr} {H H' : Hp} {a : Addr} {l : List (Int × Int)} (x : Ext S H H') (h : SideAt H a l) : SideAt H' a l := let ⟨xs, h1, h2⟩ := h; ⟨xs, x.tup _ _ h1, h2.ext x⟩
def WaterAt (H : Hp) (wa : Addr) (src snk : List (Int × Int)) : Prop := ∃ a b, H wa = some (.tup [.ref a, .ref b]) ∧ SideAt H a src ∧ SideAt H b snk
theorem WaterAt.ext {S : List Addr} {H H' : Hp} {a : Addr} {src snk : List (Int × Int)} (x : Ext S H H') (h : WaterAt H a src snk) : WaterAt H' a src snk :=
  let ⟨a, b, h1, h2, h3⟩ := h; ⟨a, b, x.tup _ _ h1, h2.ext x, h3.ext x⟩
/-- a side's pairs are in range -/
def SideOk (l : List (Int × Int)) : Prop := 1 ≤ l.length ∧ l.length ≤ 4 ∧ ∀ p ∈ l, 1 ≤ p.1 ∧ p.1 ≤ 1000 ∧ 0 ≤ p.2 ∧ p.2 ≤ 1000
theorem getD_mem {l : List (Int × Int)} {i : Nat} (h : i < l.length) : l.getD i (0, 0) ∈ l := by
  rw [List.getD_eq_getElem?_getD, List.getElem?_eq_getElem h]
  exact List.getElem_mem h
theorem SideOk.at {l : List (Int × Int)} (h : SideOk l) {i : Nat} (hi : i < l.length) : 1 ≤ (l.getD i (0, 0)).1 ∧ (l.getD i (0, 0)).1 ≤ 1000 ∧ 0 ≤ (l.getD i (0, 0)).2 ∧ (l.getD i (0, 0)).2 ≤ 1000 := h.2.2 _ (getD_mem hi)
def wtOf (src snk : List (Int × Int)) : PW.Wt := ⟨src.length, snk.length, fun i => (src.getD i (0, 0)).1, fun i => (src.getD i (0, 0)).2, fun i => (snk.getD i (0, 0)).1, fun i => (snk.getD i (0, 0)).2⟩
theorem wtOf_ok {src snk : List (Int × Int)} (h : SideOk src) (h' : SideOk snk) : (wtOf src snk).Ok :=
  ⟨h'.1, h.2.1, h'.2.1, fun i hi => ⟨(h.at hi).1, (h.at hi).2.1⟩, fun i hi => ⟨(h.at hi).2.2.1, (h.at hi).2.2.2⟩, fun i hi => ⟨(h'.at hi).1, (h'.at hi).2.1⟩, fun i hi => ⟨(h'.at hi).2.2.1, (h'.at hi).2.2.2⟩⟩
section
variable {P : Program} {w : World} {K : PySem.W.Frag} {mg : Str → Option Value} {base : Heap}
theorem hu {k : Nat} {A : Around} (hr : Room k A) : A.units + 1 < cLine := by have := hr.un; omega
/-! ### is_in -/
theorem scIsIn : FnScope ["value", "least", "most"] ["value", "least", "most"] (defScope sIsIn) := ⟨rfl, rfl, rfl, by decide +kernel, rfl, by decide +kernel, by decide +kernel⟩
def spIsIn : Sp := fun vs H Q _ => ∃ v a b : Int, vs = [.int v, .int a, .int b] ∧ a ≤ v ∧ v ≤ b ∧ Q (.bl true) H
theorem ok_isIn {f : Addr} {fd : FuncData} (F : Fun K "is_in" "is_in" sIsIn f fd) (mi : mg "isinstance" = none) (mt : mg "int" = none) (mb : mg "bool" = none) : FnOk P w K mg base CX0 1 f fd ["value", "least", "most"] spIsIn := by
  refine F.ok scIsIn (fun vs H Q E h => ?_) (fun cdv A outer s H vs Q E hr h => ?_)
  · obtain ⟨v, a, b, rfl, _⟩ := h
    rfl
  · obtain ⟨v, a, b, rfl, h1, h2, q⟩ := h
    refine ⟨_, pss_one (ps_ret (pe_and (pe_callB call_isi rfl mi PyProof.Rows.boot_isinstance (pa_cons (pv 0) (pa_cons (pe_bltn rfl mt (by decide +kernel) (show RelV (.ty "int") (.type "int") from rfl)) pa_nil)))
      (pe_and (pe_not (pe_callB call_isi rfl mi PyProof.Rows.boot_isinstance (pa_cons (pv 0) (pa_cons (pe_bltn rfl mb (by decide +kernel) (show RelV (.ty "bool") (.type "bool") from rfl)) pa_nil))))
        (pe_one (pe_chain op_le op_le (pv 1) (pv 0) (pv 2)))))), ?_⟩
    refine ⟨_, rfl, .int v, .ty "int", .type "int", .type "int", true, rfl, .ty _, .base (.int v), rfl, true, rfl, ?_⟩
    refine ⟨_, rfl, .int v, .ty "bool", .type "int", .type "bool", false, rfl, .ty _, .base (.int v), rfl, false, rfl, true, rfl, ?_⟩
    refine ⟨_, rfl, _, rfl, a, v, rfl, rfl, true, by show V.bl (decide (a ≤ v)) = _; rw [decide_eq_true h1], ?_⟩
    refine ⟨_, rfl, v, b, rfl, rfl, ?_⟩
    show Q (V.bl (decide (v ≤ b))) H
    rw [decide_eq_true h2]
    exact q
/-! ### whole_row -/
theorem scWhole : FnScope ["many", "entries", "k"] ["many", "entries"] (defScope sWhole) := ⟨rfl, rfl, rfl, by decide +kernel, rfl, by decide +kernel, by decide +kernel⟩
def spWhole : Sp := fun vs H Q _ => ∃ (n : Nat) (e : Addr) (kvs : List (Key × V)) (φ : Nat → Int), vs = [.int n, .ref e] ∧ H e = some (.dK kvs) ∧ n ≤ 1000 ∧ (∀ k, k < n → (valV kvs (.inl (k : Int))).getD (.int 0) = .int (φ k)) ∧
  ∀ H' a xs, Ext [] H H' → H a = none → H' a = some (.lst xs) → Rs H' xs n (fun k => (φ k : Rat)) → Q (.ref a) H'
theorem ok_whole {f : Addr} {fd : FuncData} (F : Fun K "whole_row" "whole_row" sWhole f fd) (mr : mg "range" = none) : FnOk P w K mg base CX0 1 f fd ["many", "entries"] spWhole := by
  refine F.ok scWhole (fun vs H Q E h => ?_) (fun cdv A outer s H vs Q E hr h => ?_)
  · obtain ⟨n, e, kvs, φ, rfl, _⟩ := h
    rfl
  · obtain ⟨n, e, kvs, φ, rfl, he, hn, hk, q⟩ := h
    refine ⟨_, pss_one (ps_ret (pe_lc (own := [("k", 2)]) (g := gName 2) rfl scWhole.nd (pi_range1 rfl mr (pa_cons (pv 0) pa_nil))
          (blkOk_by (N := ["many", "entries", "k"]) (sc := defScope sWhole) (by decide +kernel))
          (fun _ _ _ _ _ => pg_name (i := 2) scWhole.nd rfl (.inl rfl)) (fun _ _ _ _ _ => pts_nil) (fun _ _ _ _ _ => pe_tup (pa_cons (pe_dget2 (hu hr) (pv 1) (pv 2) pe_int ⟨rfl, rfl, rfl, rfl⟩) (pa_cons pe_int pa_nil))))), ?_⟩
    refine ⟨_, rfl, n, rfl, by omega, by omega, ?_⟩
    rw [Int.toNat_natCast]
    refine lc_map walk_range0 (fun k v H' => Rt H' v ((φ k : Int) : Rat)) (fun _ _ _ _ _ x h => Pr.ext x h) yfn_ext (fun _ _ => trivial) (by omega) (fun k x H1 H2 hi ex y R k2 => ?_) (fun D H1 ys hD e1 hL hl hv => ?_)
    · obtain ⟨rfl, rfl⟩ := y
      have he2 : H2 e = some (.dK kvs) := ex.oth e _ (by simp) he (fun _ z => nomatch z)
      refine ⟨rfl, _, rfl, e, rfl, .inl ⟨kvs, .inl he2⟩, _, rfl, valV kvs (.inl (k : Int)), DGet.k (k := .inl (k : Int)) he2, ?_⟩
      rw [hk k hi]
      exact ⟨two_le, fun p0 hp0 => k2 _ _ (Ext.new hp0) (rt_int _ rfl upd_same)⟩
    · exact q _ _ _ e1 hD hL ⟨hl, hv⟩
end
/-- a def whose code object is known -/
structure FunC (K : PySem.W.Frag) (x qual : Str) (st : Stmt) (f : Addr) (fd : FuncData) (c : Addr) : Prop where
  ex : ∃ (oc : Value) (od : Option Addr) (kV doc pm : Value) (an : Option Addr) (ct : Value) (osl : Array (Option Value)),
    fd = PySem.W.fnOf x qual (defArgs st) (defBody st) (defScope st) .none kV doc pm an (.ref c) ct ∧ K.lookup f = some ⟨oc, od, .func fd, osl⟩ ∧ PySem.W.codeIn K (.ref c) qual = true
section
variable {P : Program} {w : World} {K : PySem.W.Frag} {mg : Str → Option Value} {base : Heap}
theorem FunC.ok {x qual : Str} {st : Stmt} {f c : Addr} {fd : FuncData} {N ps : List Str} {k : Nat} {sp : Sp} (F : FunC K x qual st f fd c) (S : FnScope N ps (defScope st)) (len : ∀ vs H Q E, sp vs H Q E → vs.length = ps.length)
    (hbody : ∀ (A : Around) (outer : List Env) (s : Shared) (H : Hp) (vs : List V) (Q : VK) (E : XK), Room k (A.deeper (envOfC qual (defScope st) s.heap.objs.size f (.ref c))) → sp vs H Q E →
      ∃ t, PSs (cxOf CX0 P w K mg base N qual (defScope st) f (.ref c) A outer s H E).nox (defBody st) t ∧ t { nx := fun _ H' => Q .non H', rt := Q } (start N vs) H) : FnOk P w K mg base CX0 (k + 1) f fd ps sp := by
  obtain ⟨oc, od, kV, doc, pm, an, ct, osl, rfl, lk, hcd⟩ := F.ex
  refine fn_of lk hcd S len fun A outer s H vs Q E hr hsp => ?_
  obtain ⟨t, h, q⟩ := hbody A outer s H vs Q E hr hsp
  exact ⟨t, h.nox, q⟩
/-! ### need_water -/
theorem tabbed_ext {Pt : Addr} {H H' : Hp} (g : GxR.TabG H Pt) (t : GxR.Tabbed Pt H H') : Ext [] H H' := by
  obtain ⟨ps, h1, h2⟩ := g
  obtain ⟨⟨qs, k1, k2⟩, k3⟩ := t
  have ne : ∀ b o, H b = some o → (∀ q, o ≠ .tbl q) → b ≠ Pt := fun b o e d z => by
    rw [z, h1] at e
    exact d ps (Option.some.inj e).symm
  refine ⟨fun b xs e => ?_, fun b o u e => ?_, fun b o _ e d => ?_, fun b qs' e => ?_, fun b e => ?_⟩
  · rw [k3 b (ne b _ e fun _ z => nomatch z)]; exact e
  · rw [k3 b (ne b _ e fun _ z => nomatch z)]; exact e
  · rw [k3 b (ne b _ e d)]; exact e
  · by_cases hb : b = Pt
    · rw [hb]
      exact ⟨qs, k1, fun _ => k2⟩
    · exact ⟨qs', by rw [k3 b hb]; exact e, fun z => z⟩
  · by_cases hb : b = Pt
    · rw [hb, k1] at e; cases e
    · rw [k3 b hb] at e; exact e
theorem TabG.ext {Pt : Addr} {S : List Addr} {H H' : Hp} (x : Ext S H H') (g : GxR.TabG H Pt) : GxR.TabG H' Pt := by
  obtain ⟨ps, h1, h2⟩ := g
  obtain ⟨qs, k1, k2⟩ := x.tbl _ _ h1
  exact ⟨qs, k1, k2 h2⟩
theorem scNeed : FnScope ["water", "index", "one"] ["water"] (defScope sNeed) := ⟨rfl, rfl, rfl, by decide +kernel, rfl, by decide +kernel, by decide +kernel⟩
def spNeed (Pt : Addr) : Sp := fun vs H Q _ => ∃ (wa : Addr) (src snk : List (Int × Int)), vs = [.ref wa] ∧ WaterAt H wa src snk ∧ SideOk src ∧ SideOk snk ∧ GxR.TabG H Pt ∧ ∀ H', Ext [] H H' → Q .non H'
theorem ok_need {f fI c Pt : Addr} {fd fdI : FuncData} (F : FunC K "need_water" "need_water" sNeed f fd c) (TB : GxR.TabB base mg c Pt) (mi : mg "isinstance" = none) (mt : mg "tuple" = none) (ml : mg "len" = none) (ma : mg "all" = none) (me : mg "enumerate" = none)
    {t1 t2 t3 : Tok} (m1 : mg "MOST_SIDE" = some (.int 4 t1)) (m2 : mg "MOST_FLOW" = some (.int 1000 t2)) (m3 : mg "MOST_DIRT" = some (.int 1000 t3))
    (GI : FnOk P w K mg base CX0 1 fI fdI ["value", "least", "most"] spIsIn) (kI : PySem.W.keepIn K (.ref fI) = true) (bI : Binds K fdI ["value", "least", "most"] []) (gI : mg "is_in" = some (.ref fI)) :
    FnOk P w K mg base CX0 2 f fd ["water"] (spNeed Pt) := by
  refine F.ok scNeed (fun vs H Q E h => ?_) (fun A outer s H vs Q E hr h => ?_)
  · obtain ⟨wa, src, snk, rfl, _⟩ := h
    rfl
  · obtain ⟨wa, src, snk, rfl, hW, o1, o2, hT, q⟩ := h
    refine ⟨_, pss_cons (ps_if (PW.pt (pw_or (pt_not (pt_val (pe_callB call_isi rfl mi PyProof.Rows.boot_isinstance (pa_cons (pv 0) (pa_cons (pe_bltn rfl mt (by decide +kernel) (show RelV (.ty "tuple") (.type "tuple") from rfl)) pa_nil)))))
          (pw_or1 (pt_cmpR op_ne (pe_callB call_len_seq rfl ml PySem.boot_len (pa_cons (pv 0) pa_nil)) pe_int (nomark _))))) pss_never pss_nil)
      (pss_cons (ps_if (pt_not (pt_val (pe_allT (c := c) (P := Pt) hr rfl ma TB rfl ⟨rfl, rfl, by decide +kernel, rfl, rfl, fun y hy e => absurd e (by revert y; decide +kernel)⟩ (pv 0) rfl rfl rfl rfl mi mt ml m1 (fun _ => rfl)))) pss_never pss_nil)
      (pss_one (ps_for PassesOwn.never rfl (pi_enum rfl me (pa_cons (pe_lst (StX.pa_star (tx (pv 0) pe_int) (StX.pa_star (tx (pv 0) pe_int) pa_nil))) pa_nil)) (pg_tup rfl (pgs_cons (pg_name (i := 1) scNeed.nd rfl (.inl rfl)) (pgs_cons (pg_name (i := 2) scNeed.nd rfl (.inl rfl)) pgs_nil)))
        (pss_cons (ps_if (PW.pt (pw_or (pt_not (pt_val (pe_callB call_isi rfl mi PyProof.Rows.boot_isinstance (pa_cons (pv 2) (pa_cons (pe_bltn rfl mt (by decide +kernel) (show RelV (.ty "tuple") (.type "tuple") from rfl)) pa_nil)))))
            (pw_or (pt_cmpR op_ne (pe_callB call_len_seq rfl ml PySem.boot_len (pa_cons (pv 2) pa_nil)) pe_int (nomark _))
              (pw_or1 (pt_not (pt_val (pe_call GI hr rfl gI kI bI .nil pass0 (pa_cons (tx (pv 2) pe_int) (pa_cons pe_int (pa_cons (pe_glob rfl m2 (show RelV (.int 1000) (.int 1000 t2) from ⟨t2, rfl⟩)) pa_nil)))))))))) pss_never pss_nil)
        (pss_one (ps_if (pt_not (pt_val (pe_call GI hr rfl gI kI bI .nil pass0 (pa_cons (tx (pv 2) pe_int) (pa_cons pe_int (pa_cons (pe_glob rfl m3 (show RelV (.int 1000) (.int 1000 t3) from ⟨t3, rfl⟩)) pa_nil)))))) pss_never pss_nil)))))), ?_⟩
    obtain ⟨a, b, hw, ⟨xs, ha, pa⟩, ⟨ys, hb, pb⟩⟩ := id hW
    refine ⟨_, rfl, .ref wa, .ty "tuple", .type "tuple", .type "tuple", true, rfl, .ty _, .base (.tup hw), rfl, true, rfl, ?_⟩
    refine ⟨_, rfl, wa, _, rfl, .inr (SqT.of hw), rfl, _, rfl, ?_⟩
    rw [show (!(decide ((V.int (([V.ref a, V.ref b] : List V).length : Nat)) = V.int 2))) = false from rfl]
    refine ⟨_, rfl, wa, _, rfl, hw, fun x hx => ?_, hT, fun H2 ht => ⟨true, rfl, ?_⟩⟩
    · rcases List.mem_cons.mp hx with z | z
      · exact ⟨a, xs, z, ha, by rw [pa.1]; exact o1.1, by rw [pa.1]; exact o1.2.1⟩
      · rcases List.mem_cons.mp z with z | z
        · exact ⟨b, ys, z, hb, by rw [pb.1]; exact o2.1, by rw [pb.1]; exact o2.2.1⟩
        · cases z
    have e2 : Ext [] H H2 := tabbed_ext hT ht
    have hl1 : xs.length ≤ 4 := by rw [pa.1]; exact o1.2.1
    have hl2 : ys.length ≤ 4 := by rw [pb.1]; exact o2.2.1
    refine ⟨_, rfl, wa, _, 0, _, rfl, rfl, SqT.of (e2.tup _ _ hw), atI_0, a, xs, rfl, .inl (SqT.of (e2.tup _ _ ha)), ?_⟩
    refine ⟨_, rfl, wa, _, 1, _, rfl, rfl, SqT.of (e2.tup _ _ hw), atI_1, b, ys, rfl, .inl (SqT.of (e2.tup _ _ hb)), ?_⟩
    refine ⟨Nat.le_trans (show (xs ++ (ys ++ [])).length ≤ 8 by simp; omega) (by decide), fun D hD => ?_⟩
    have e3 : Ext [] H (upd H2 D (.lst (xs ++ (ys ++ [])))) := e2.trans (Ext.new hD)
    refine ⟨D, xs ++ (ys ++ []), rfl, SqL.of upd_same, ?_⟩
    have all : ∀ (i : Nat) (x : V), (xs ++ (ys ++ []))[i]? = some x → ∃ fl di : Int, Pr H x fl di ∧ 1 ≤ fl ∧ fl ≤ 1000 ∧ 0 ≤ di ∧ di ≤ 1000 := fun i x hx => by
      rw [List.append_nil] at hx
      rcases Nat.lt_or_ge i xs.length with z | z
      · rw [List.getElem?_append_left z] at hx
        have := o1.at (i := i) (by rw [← pa.1]; exact z)
        exact ⟨_, _, pa.2 i x hx, this⟩
      · rw [List.getElem?_append_right z] at hx
        have hi : i - xs.length < ys.length := by
          obtain ⟨h1, _⟩ := List.getElem?_eq_some_iff.mp hx
          exact h1
        have := o2.at (i := i - xs.length) (by rw [← pb.1]; exact hi)
        exact ⟨_, _, pb.2 _ x hx, this⟩
    refine for_it walk_enum (fun i σ H' => ∃ y1 y2, σ = [some (.ref wa), y1, y2] ∧ Ext [] H H' ∧ H' D = some (.lst (xs ++ (ys ++ [])))) ⟨none, none, rfl, e3, upd_same⟩ (fun i σ H' _ ⟨_, _, _, _, h⟩ => SqL.of h)
      (fun i x σ H3 H4 hi ⟨y1, y2, hσ, e4, hD4⟩ y => ?_) (fun σ H3 ⟨y1, y2, hσ, e4, hD4⟩ => ?_)
    · subst hσ
      obtain ⟨T0, x1, x2, rfl, hT0, eH, f1, f2⟩ := y
      have s1 : H4 T0 = some (.tup [x1, x2]) := by rw [eH, upd_same]
      have e5 : Ext [] H3 H4 := by rw [eH]; exact Ext.new hT0
      have hx : (xs ++ (ys ++ []))[i]? = some x2 := f2
      obtain ⟨fl, di, hp, r1, r2, r3, r4⟩ := all i x2 hx
      obtain ⟨p, rfl, hq⟩ := Pr.ext (e4.trans e5) hp
      refine ⟨T0, _, rfl, SqT.of s1, rfl, _, _, rfl, _, _, rfl, rfl, ?_⟩
      refine ⟨_, rfl, .ref p, .ty "tuple", .type "tuple", .type "tuple", true, rfl, .ty _, .base (.tup hq), rfl, true, rfl, ?_⟩
      refine ⟨_, rfl, p, _, rfl, .inr (SqT.of hq), rfl, _, rfl, ?_⟩
      rw [show (!(decide ((V.int (([V.int fl, V.int di] : List V).length : Nat)) = V.int 2))) = false from rfl]
      refine ⟨_, rfl, p, _, 0, _, rfl, rfl, SqT.of hq, atI_0, fl, 1, 1000, rfl, r1, r2, true, rfl, ?_⟩
      refine ⟨_, rfl, p, _, 1, _, rfl, rfl, SqT.of hq, atI_1, di, 0, 1000, rfl, r3, r4, true, rfl, ?_⟩
      exact ⟨_, _, rfl, e4.trans e5, e5.lst0 hD4⟩
    · exact q _ e4
end
end PWK
namespace PWK
open PySem PySem.Spec PyProof.Rows L2
/-! ### dicts: what a merged dict has at a key -/
theorem val_merge : ∀ (more acc : List (Key × V)) (k : Key), (more.map (·.1)).Nodup → valV (mergeK acc more) k = match valV more k with
    | some v => some v
    | none => valV acc k
  | [], acc, k, _ => rfl
  | p :: r, acc, k, h => by
    rw [List.map_cons, List.nodup_cons] at h
    show valV (mergeK (putK acc p.1 p.2) r) k = _
    rw [val_merge r _ k h.2, valV_put]
    by_cases e : k = p.1
    · have : valV r k = none := by
        cases q : valV r k with
        | none => rfl
        | some v => exact absurd (by rw [e] at q; exact valV_in q) h.1
      rw [this, if_pos e, valV_pos e.symm]
    · rw [if_neg e, valV_neg (fun z => e z.symm)]
theorem nd_put {acc : List (Key × V)} {k : Key} {v : V} (h : (acc.map (·.1)).Nodup) : ((putK acc k v).map (·.1)).Nodup := by
  unfold putK
  split
  · rw [List.map_map]
    have : ((fun x : Key × V => x.1) ∘ fun kv => if kv.1 = k then (kv.1, v) else kv) = fun x => x.1 := by
      funext x
      show (if x.1 = k then (x.1, v) else x).1 = x.1
      split <;> rfl
    rw [this]
    exact h
  · rename_i hn
    rw [List.map_append]
    refine List.nodup_append.mpr ⟨h, by simp, fun a ha b hb => ?_⟩
    simp only [List.map_cons, List.map_nil, List.mem_singleton] at hb
    subst hb
    intro z
    subst z
    obtain ⟨p, hp, e⟩ := List.mem_map.mp ha
    exact hn (List.any_eq_true.mpr ⟨p, hp, decide_eq_true e⟩)
theorem nd_merge : ∀ (more acc : List (Key × V)), (acc.map (·.1)).Nodup → ((mergeK acc more).map (·.1)).Nodup
  | [], _, h => h
  | _ :: r, _, h => nd_merge r _ (nd_put h)
/-- n entries κ i: g i -/
def ents (n : Nat) (κ : Nat → Nat) (g : Nat → Int) : List (Key × V) := (List.range n).map fun i => ((.inl ((κ i : Nat) : Int) : Key), V.int (g i))
theorem ents_nd {n : Nat} {κ : Nat → Nat} {g : Nat → Int} (hκ : ∀ i j, i < n → j < n → κ i = κ j → i = j) : ((ents n κ g).map (·.1)).Nodup := by
  unfold ents
  rw [List.map_map]
  refine List.pairwise_map.mpr (List.Pairwise.imp_of_mem (R := fun a b => a ≠ b) ?_ List.nodup_range)
  intro a b ha hb hne e
  refine hne ?_
  have e : (Sum.inl ((κ a : Nat) : Int) : Key) = Sum.inl ((κ b : Nat) : Int) := e
  have := Sum.inl.inj e
  exact hκ a b (List.mem_range.mp ha) (List.mem_range.mp hb) (by omega)
theorem ents_some {n : Nat} {κ : Nat → Nat} {g : Nat → Int} (hκ : ∀ i j, i < n → j < n → κ i = κ j → i = j) {i : Nat} (hi : i < n) : valV (ents n κ g) (.inl ((κ i : Nat) : Int)) = some (.int (g i)) := by
  unfold valV
  have : (ents n κ g).find? (fun kv => decide (kv.1 = (.inl ((κ i : Nat) : Int) : Key))) = some ((.inl ((κ i : Nat) : Int) : Key), V.int (g i)) := by
    unfold ents
    rw [List.find?_map]
    have : (List.range n).find? ((fun kv : Key × V => decide (kv.1 = (.inl ((κ i : Nat) : Int) : Key))) ∘ fun i => ((.inl ((κ i : Nat) : Int) : Key), V.int (g i))) = some i := by
      rw [List.find?_range_eq_some]
      refine ⟨by simp, List.mem_range.mpr hi, fun j hj => ?_⟩
      simp only [Function.comp, decide_eq_true_eq, Bool.not_eq_true', decide_eq_false_iff_not]
      intro z
      have := Sum.inl.inj z
      have := hκ j i (by omega) hi (by omega)
      omega
    rw [this]
    rfl
  rw [this]
  rfl
theorem ents_none {n : Nat} {κ : Nat → Nat} {g : Nat → Int} {k : Nat} (h : ∀ i, i < n → k ≠ κ i) : valV (ents n κ g) (.inl (k : Int)) = none := by
  cases q : valV (ents n κ g) (.inl (k : Int)) with
  | none => rfl
  | some v =>
    obtain ⟨p, hp, e⟩ := List.mem_map.mp (valV_in q)
    obtain ⟨i, hi, e2⟩ := List.mem_map.mp hp
    subst e2
    have := Sum.inl.inj e
    exact absurd (by omega) (h i (List.mem_range.mp hi))
/-- {**d, t: 1}, d from n entries -/
theorem disp_val {n t k : Nat} {κ : Nat → Nat} {g : Nat → Int} (hκ : ∀ i j, i < n → j < n → κ i = κ j → i = j) :
    valV (mergeK (mergeK [] (mergeK [] (ents n κ g))) [(.inl (t : Int), .int 1)]) (.inl (k : Int)) = if k = t then some (.int 1) else valV (ents n κ g) (.inl (k : Int)) := by
  show valV (putK (mergeK [] (mergeK [] (ents n κ g))) (.inl (t : Int)) (.int 1)) (.inl (k : Int)) = _
  rw [valV_put]
  by_cases e : k = t
  · rw [if_pos e, if_pos (by rw [e])]
  · rw [if_neg e, if_neg (fun z => e (by have := Sum.inl.inj z; omega)), val_merge _ _ _ (nd_merge _ _ (by simp)), val_merge _ _ _ (ents_nd hκ)]
    cases valV (ents n κ g) (.inl (k : Int)) <;> rfl
/-- the row that it gives -/
theorem row_val {w : PW.Wt} {N l : Nat} {κ : Nat → Nat} {g : Nat → Int} (hκ : ∀ i j, i < N → j < N → κ i = κ j → i = j) (hlt : ∀ i, i < N → κ i < w.S * w.W) (h1 : ∀ i, i < N → w.body l (κ i / w.W) (κ i % w.W) = g i)
    (h0 : ∀ k, k < w.S * w.W → (∀ i, i < N → k ≠ κ i) → w.body l (k / w.W) (k % w.W) = 0) (k : Nat) :
    (valV (mergeK (mergeK [] (mergeK [] (ents N κ g))) [(.inl ((w.S * w.W + l : Nat) : Int), .int 1)]) (.inl (k : Int))).getD (.int 0) = .int (w.co l k) := by
  rw [disp_val hκ]
  unfold PW.Wt.co
  by_cases e : k = w.S * w.W + l
  · rw [if_pos e, if_neg (by omega), if_pos e]; rfl
  · rw [if_neg e]
    by_cases hex : ∃ i, i < N ∧ k = κ i
    · obtain ⟨i, hi, rfl⟩ := hex
      rw [ents_some hκ hi, if_pos (hlt i hi), h1 i hi]
      rfl
    · have hn : ∀ i, i < N → k ≠ κ i := fun i hi z => hex ⟨i, hi, z⟩
      rw [ents_none hn]
      by_cases hk : k < w.S * w.W
      · rw [if_pos hk, h0 k hk hn]; rfl
      · rw [if_neg hk, if_neg e]; rfl
/-- pairs at their places, for dict(..) -/
theorem pairs_of {K : PySem.W.Frag} {H : Hp} : ∀ (ys : List V) (κ : Nat → Nat) (g : Nat → Int), (∀ i v, ys[i]? = some v → Pr H v ((κ i : Nat) : Int) (g i)) → ∃ ps : List Addr, ys = ps.map V.ref ∧ Paired (fun p (kv : Key × V) => SqT K H p [kV kv.1, kv.2]) ps (ents ys.length κ g)
  | [], κ, g, _ => ⟨[], rfl, .nil⟩
  | y :: r, κ, g, h => by
    obtain ⟨p, e1, hp⟩ := h 0 y rfl
    obtain ⟨ps, e2, q⟩ := pairs_of r (fun i => κ (i + 1)) (fun i => g (i + 1)) fun i v e => h (i + 1) v (by simpa using e)
    refine ⟨p :: ps, by rw [e1, e2]; rfl, ?_⟩
    have : ents (y :: r).length κ g = ((.inl ((κ 0 : Nat) : Int) : Key), V.int (g 0)) :: ents r.length (fun i => κ (i + 1)) (fun i => g (i + 1)) := by
      unfold ents
      rw [List.length_cons, List.range_succ_eq_map, List.map_cons, List.map_map]
      rfl
    rw [this]
    exact .cons (SqT.of hp) q
theorem ents_len {n : Nat} {κ : Nat → Nat} {g : Nat → Int} : (ents n κ g).length = n := by unfold ents; simp
/-! ### the rows and the goals as they grow -/
theorem Ext.hid {H H' : Hp} {a : Addr} {o : HO} (x : Ext [] H H') (h : H a = none) : Ext [] H (upd H' a o) := by
  refine ⟨fun b xs e => ?_, fun b o u e => ?_, fun b o hb e d => ?_, fun b ps e => ?_, fun b e => ?_⟩
  · rw [upd_ne (ne_of_none e h)]; exact x.tup b xs e
  · rw [upd_ne (ne_of_none e h)]; exact x.frz b o u e
  · rw [upd_ne (ne_of_none e h)]; exact x.oth b o hb e d
  · rw [upd_ne (ne_of_none e h)]; exact x.tbl b ps e
  · by_cases q : b = a
    · rw [q]; exact h
    · rw [upd_ne q] at e; exact x.non b e
structure Bld (wt : PW.Wt) (H0 : Hp) (ra ga : Addr) (c d : Nat) (H : Hp) : Prop where
  ext : Ext [] H0 H
  r0 : H0 ra = none
  g0 : H0 ga = none
  ne : ra ≠ ga
  rows : ∃ rl, H ra = some (.lst rl) ∧ rl.length = c ∧ ∀ l v, rl[l]? = some v → ∃ a xs, v = .ref a ∧ a ≠ ra ∧ a ≠ ga ∧ H a = some (.lst xs) ∧ Rs H xs wt.n (wt.A l)
  goals : ∃ gl, H ga = some (.lst gl) ∧ Rs H gl d (fun l => wt.A l (wt.n + wt.m))
section
variable {wt : PW.Wt} {H0 H H' : Hp} {ra ga : Addr} {c d : Nat}
theorem Bld.up (b : Bld wt H0 ra ga c d H) (x : Ext [] H H') : Bld wt H0 ra ga c d H' := by
  obtain ⟨e, r0, g0, ne, ⟨rl, h1, h2, h3⟩, ⟨gl, h4, h5⟩⟩ := b
  refine ⟨e.trans x, r0, g0, ne, ⟨rl, x.lst0 h1, h2, fun l v el => ?_⟩, ⟨gl, x.lst0 h4, h5.ext x⟩⟩
  obtain ⟨a, xs, q1, q2, q3, q4, q5⟩ := h3 l v el
  exact ⟨a, xs, q1, q2, q3, x.lst0 q4, q5.ext x⟩
theorem Rs.snoc {H : Hp} {xs : List V} {n : Nat} {f : Nat → Rat} {v : V} (h : Rs H xs n f) (hv : Rt H v (f n)) : Rs H (xs ++ [v]) (n + 1) f := by
  refine ⟨by rw [List.length_append, h.1]; rfl, fun i y e => ?_⟩
  rcases Nat.lt_or_ge i n with z | z
  · rw [List.getElem?_append_left (by rw [h.1]; exact z)] at e
    exact h.2 i y e
  · rw [List.getElem?_append_right (by rw [h.1]; exact z), h.1] at e
    have hi : i = n := by
      obtain ⟨q, _⟩ := List.getElem?_eq_some_iff.mp e
      simp at q
      omega
    subst hi
    simp at e
    subst e
    exact hv
theorem Bld.row {rl : List V} {a : Addr} {xs : List V} (b : Bld wt H0 ra ga c d H) (hr : H ra = some (.lst rl)) (h1 : a ≠ ra) (h2 : a ≠ ga) (h3 : H a = some (.lst xs)) (h4 : Rs H xs wt.n (wt.A c)) : Bld wt H0 ra ga (c + 1) d (upd H ra (.lst (rl ++ [.ref a]))) := by
  obtain ⟨e, r0, g0, ne, ⟨rl', k1, k2, k3⟩, ⟨gl, k4, k5⟩⟩ := b
  rw [hr] at k1
  cases k1
  have x : Ext [ra] H (upd H ra (.lst (rl ++ [.ref a]))) := Ext.put (by simp) hr
  refine ⟨e.hid r0, r0, g0, ne, ⟨rl ++ [.ref a], upd_same, by rw [List.length_append, k2]; rfl, fun l v el => ?_⟩, ⟨gl, x.lst (by simpa using ne.symm) k4, k5.ext x⟩⟩
  rcases Nat.lt_or_ge l c with z | z
  · rw [List.getElem?_append_left (by rw [k2]; exact z)] at el
    obtain ⟨a', xs', q1, q2, q3, q4, q5⟩ := k3 l v el
    exact ⟨a', xs', q1, q2, q3, x.lst (by simpa using q2) q4, q5.ext x⟩
  · rw [List.getElem?_append_right (by rw [k2]; exact z), k2] at el
    have hl : l = c := by
      obtain ⟨q, _⟩ := List.getElem?_eq_some_iff.mp el
      simp at q
      omega
    subst hl
    simp at el
    exact ⟨a, xs, el.symm, h1, h2, x.lst (by simpa using h1) h3, h4.ext x⟩
theorem Bld.goal {gl : List V} {v : V} (b : Bld wt H0 ra ga c d H) (hg : H ga = some (.lst gl)) (hv : Rt H v (wt.A d (wt.n + wt.m))) : Bld wt H0 ra ga c (d + 1) (upd H ga (.lst (gl ++ [v]))) := by
  obtain ⟨e, r0, g0, ne, ⟨rl, k1, k2, k3⟩, ⟨gl', k4, k5⟩⟩ := b
  rw [hg] at k4
  cases k4
  have x : Ext [ga] H (upd H ga (.lst (gl ++ [v]))) := Ext.put (by simp) hg
  refine ⟨e.hid g0, r0, g0, ne, ⟨rl, x.lst (by simpa using ne) k1, k2, fun l v el => ?_⟩, ⟨_, upd_same, Rs.snoc (k5.ext x) (hv.ext x)⟩⟩
  obtain ⟨a', xs', q1, q2, q3, q4, q5⟩ := k3 l v el
  exact ⟨a', xs', q1, q2, q3, x.lst (by simpa using q3) q4, q5.ext x⟩
end
section
variable {w : PW.Wt}
theorem gdiv {W i j : Nat} (h : j < W) : (i * W + j) / W = i ∧ (i * W + j) % W = j := by
  have hW : 0 < W := by omega
  constructor
  · rw [Nat.mul_comm, Nat.mul_add_div hW, Nat.div_eq_of_lt h]; omega
  · rw [Nat.mul_comm, Nat.mul_add_mod, Nat.mod_eq_of_lt h]
theorem glt {S W i j : Nat} (hi : i < S) (h : j < W) : i * W + j < S * W := by
  have : (i + 1) * W ≤ S * W := Nat.mul_le_mul_right _ hi
  rw [Nat.add_mul] at this
  omega
theorem gsplit {S W k : Nat} (h : k < S * W) : k / W < S ∧ k % W < W ∧ k = k / W * W + k % W := by
  have hW : 0 < W := by
    rcases Nat.eq_zero_or_pos W with z | z
    · rw [z] at h; simp at h
    · exact z
  refine ⟨Nat.div_lt_of_lt_mul (by rw [Nat.mul_comm]; exact h), Nat.mod_lt _ hW, ?_⟩
  have := Nat.div_add_mod k W
  rw [Nat.mul_comm] at this
  omega
/-- what a row's dict has at k -/
theorem row_a {j k : Nat} (hj : j < w.W) : (valV (mergeK (mergeK [] (mergeK [] (ents w.S (fun i => i * w.W + j) (fun _ => 1)))) [(.inl ((w.S * w.W + j : Nat) : Int), .int 1)]) (.inl (k : Int))).getD (.int 0) = .int (w.co j k) := by
  refine row_val (fun i i' hi hi' e => ?_) (fun i hi => glt hi hj) (fun i hi => ?_) (fun k hk hn => ?_) k
  · have := (gdiv (i := i) hj).1
    rw [e, (gdiv (i := i') hj).1] at this
    exact this.symm
  · rw [(gdiv hj).1, (gdiv hj).2]
    unfold PW.Wt.body
    rw [if_pos hj, if_pos rfl]
  · obtain ⟨h1, h2, h3⟩ := gsplit hk
    unfold PW.Wt.body
    rw [if_pos hj, if_neg (fun z => hn _ h1 (by rw [← z]; exact h3))]
theorem row_b {j k : Nat} (hj : j < w.W) : (valV (mergeK (mergeK [] (mergeK [] (ents w.S (fun i => i * w.W + j) (fun i => w.d i)))) [(.inl ((w.S * w.W + (w.W + j) : Nat) : Int), .int 1)]) (.inl (k : Int))).getD (.int 0) = .int (w.co (w.W + j) k) := by
  refine row_val (fun i i' hi hi' e => ?_) (fun i hi => glt hi hj) (fun i hi => ?_) (fun k hk hn => ?_) k
  · have := (gdiv (i := i) hj).1
    rw [e, (gdiv (i := i') hj).1] at this
    exact this.symm
  · rw [(gdiv hj).1, (gdiv hj).2]
    unfold PW.Wt.body
    rw [if_neg (by omega), if_pos (by omega), if_pos (by omega)]
  · obtain ⟨h1, h2, h3⟩ := gsplit hk
    unfold PW.Wt.body
    rw [if_neg (by omega), if_pos (by omega), if_neg (fun z => hn _ h1 (by rw [show j = k % w.W by omega]; exact h3))]
theorem row_c {i k : Nat} (hi : i < w.S) : (valV (mergeK (mergeK [] (mergeK [] (ents w.W (fun j => i * w.W + j) (fun _ => 1)))) [(.inl ((w.S * w.W + (w.W + w.W + i) : Nat) : Int), .int 1)]) (.inl (k : Int))).getD (.int 0) = .int (w.co (w.W + w.W + i) k) := by
  refine row_val (fun j j' hj hj' e => by omega) (fun j hj => glt hi hj) (fun j hj => ?_) (fun k hk hn => ?_) k
  · rw [(gdiv hj).1, (gdiv hj).2]
    unfold PW.Wt.body
    rw [if_neg (by omega), if_neg (by omega), if_pos (by omega)]
  · obtain ⟨h1, h2, h3⟩ := gsplit hk
    unfold PW.Wt.body
    rw [if_neg (by omega), if_neg (by omega), if_neg (fun z => hn _ h2 (by rw [show i = k / w.W by omega]; exact h3))]
theorem goal_a {j : Nat} (hj : j < w.W) : w.A j (w.n + w.m) = (w.f j : Rat) := by
  rw [PW.Wt.A_goal]
  unfold PW.Wt.goal
  rw [if_pos hj]
theorem goal_b {j : Nat} (hj : j < w.W) : w.A (w.W + j) (w.n + w.m) = ((w.f j * w.e j : Int) : Rat) := by
  rw [PW.Wt.A_goal]
  unfold PW.Wt.goal
  rw [if_neg (by omega), if_pos (by omega), show w.W + j - w.W = j by omega]
theorem goal_c {i : Nat} (hi : i < w.S) : w.A (w.W + w.W + i) (w.n + w.m) = (w.s i : Rat) := by
  rw [PW.Wt.A_goal]
  unfold PW.Wt.goal
  rw [if_neg (by omega), if_neg (by omega), show w.W + w.W + i - (w.W + w.W) = i by omega]
end
end PWK
namespace PWK
open PySem PySem.Spec PyProof.Rows L2
section
variable {P : Program} {w : World} {K : PySem.W.Frag} {mg : Str → Option Value} {base : Heap}
abbrev nProg : List Str := ["water", "sources", "sinks", "wide", "rows", "goals", "flows", "many", "j", "flow", "dirt", "entries", "i", "costs", "k"]
theorem scProg : FnScope nProg ["water"] (defScope sProg) := ⟨rfl, rfl, rfl, by decide +kernel, rfl, by decide +kernel, by decide +kernel⟩
def spProg : Sp := fun vs H Q _ => ∃ (wa : Addr) (src snk : List (Int × Int)), vs = [.ref wa] ∧ WaterAt H wa src snk ∧ SideOk src ∧ SideOk snk ∧
  ∀ H' q am xs t pr, Ext [] H H' → H' q = some (.tup [.str "best", .ref am, .ref pr]) → H' am = some (.lst xs) → Rs H' xs (wtOf src snk).n (PW.amt (wtOf src snk).m (wtOf src snk).n t) → PW.Good (wtOf src snk).m (wtOf src snk).n (wtOf src snk).A t → PW.Top (wtOf src snk).m (wtOf src snk).n (wtOf src snk).cost t → (∀ j, j < (wtOf src snk).m → t.B j < (wtOf src snk).n) → Q (.ref q) H'
theorem ok_prog {f fW fS : Addr} {fd fdW fdS : FuncData} (F : Fun K "program_of" "program_of" sProg f fd) (ml : mg "len" = none) (mr : mg "range" = none) (me : mg "enumerate" = none) (md : mg "dict" = none)
    (GW : FnOk P w K mg base CX0 1 fW fdW ["many", "entries"] spWhole) (kW : PySem.W.keepIn K (.ref fW) = true) (bW : Binds K fdW ["many", "entries"] []) (gW : mg "whole_row" = some (.ref fW))
    (GS : FnOk P w K mg base CX0 6 fS fdS ["rows", "goals", "costs"] spSolved) (kS : PySem.W.keepIn K (.ref fS) = true) (bS : Binds K fdS ["rows", "goals", "costs"] []) (gS : mg "solved" = some (.ref fS)) :
    FnOk P w K mg base CX0 7 f fd ["water"] spProg := by
  refine F.ok scProg (fun vs H Q E h => ?_) (fun cdv A outer s H vs Q E hr h => ?_)
  · obtain ⟨wa, src, snk, rfl, _⟩ := h
    rfl
  · obtain ⟨wa, src, snk, rfl, hW, o1, o2, q⟩ := h
    have hr1 : Room 1 _ := hr.mono (by decide)
    refine ⟨_, pss_cons (ps_asg (pv 0) (pg_tup rfl (pgs_cons (pg_name (i := 1) scProg.nd rfl (.inr rfl)) (pgs_cons (pg_name (i := 2) scProg.nd rfl (.inl rfl)) pgs_nil))))
      (pss_cons (ps_asg (pe_tup (pa_cons (pe_callB call_len_seq rfl ml PySem.boot_len (pa_cons (pv 2) pa_nil)) (pa_cons (pe_lst pa_nil) (pa_cons (pe_lst pa_nil) pa_nil))))
          (pg_tup rfl (pgs_cons (pg_name (i := 3) scProg.nd rfl (.inr rfl)) (pgs_cons (pg_name (i := 4) scProg.nd rfl (.inl rfl)) (pgs_cons (pg_name (i := 5) scProg.nd rfl (.inl rfl)) pgs_nil)))))
      (pss_cons (ps_set (i := 6) scProg.nd rfl (.inr rfl) (pe_op op_mul (pe_callB call_len_seq rfl ml PySem.boot_len (pa_cons (pv 1) pa_nil)) (pv 3)))
      (pss_cons (ps_set (i := 7) scProg.nd rfl (.inl rfl) (pe_op op_add (pe_op op_add (pe_op op_add (pv 6) (pv 3)) (pv 3)) (pe_callB call_len_seq rfl ml PySem.boot_len (pa_cons (pv 1) pa_nil))))
      (pss_cons (ps_for PassesOwn.never rfl (pi_enumT rfl me (pa_cons (pv 2) pa_nil)) (pg_tup rfl (pgs_cons (pg_name (i := 8) scProg.nd rfl (.inr rfl)) (pgs_cons (pg_tup rfl (pgs_cons (pg_name (i := 9) scProg.nd rfl (.inl rfl)) (pgs_cons (pg_name (i := 10) scProg.nd rfl (.inl rfl)) pgs_nil))) pgs_nil)))
        (pss_cons (ps_set (i := 11) scProg.nd rfl (.inl rfl) (pe_callTy (call_dictP rfl) rfl md (by decide +kernel) (pa_cons
            (pe_lc (own := [("i", 12)]) (g := gName 12) rfl scProg.nd (pi_range1 rfl mr (pa_cons (pe_callB call_len_seq rfl ml PySem.boot_len (pa_cons (pv 1) pa_nil)) pa_nil)) (blkOk_by (N := nProg) (sc := defScope sProg) (by decide +kernel))
              (fun _ _ _ _ _ => pg_name (i := 12) scProg.nd rfl (.inl rfl)) (fun _ _ _ _ _ => pts_nil)
              (fun _ _ _ _ _ => pe_tup (pa_cons (pe_op op_add (pe_op op_mul (pv 12) (pv 3)) (pv 8)) (pa_cons pe_int pa_nil)))) pa_nil)))
        (pss_cons (ps_expr (pe_bm PySem.F.plainAttrs_list PySem.F.slot_list_append PySem.F.type_list_append mt_append (pv 4) (pa_cons
            (pe_call GW hr1 rfl gW kW bW .nil pass0 (pa_cons (pv 7) (pa_cons (pe_dispS (pv 11) (pe_op op_add (pv 6) (pv 8)) pe_int) pa_nil))) pa_nil)))
        (pss_one (ps_expr (pe_bm PySem.F.plainAttrs_list PySem.F.slot_list_append PySem.F.type_list_append mt_append (pv 5) (pa_cons (pe_tup (pa_cons (pv 9) (pa_cons pe_int pa_nil))) pa_nil)))))))
      (pss_cons (ps_for PassesOwn.never rfl (pi_enumT rfl me (pa_cons (pv 2) pa_nil)) (pg_tup rfl (pgs_cons (pg_name (i := 8) scProg.nd rfl (.inr rfl)) (pgs_cons (pg_tup rfl (pgs_cons (pg_name (i := 9) scProg.nd rfl (.inl rfl)) (pgs_cons (pg_name (i := 10) scProg.nd rfl (.inl rfl)) pgs_nil))) pgs_nil)))
        (pss_cons (ps_set (i := 11) scProg.nd rfl (.inl rfl) (pe_callTy (call_dictP rfl) rfl md (by decide +kernel) (pa_cons
            (pe_lc (own := [("i", 12)]) (g := gName 12) rfl scProg.nd (pi_range1 rfl mr (pa_cons (pe_callB call_len_seq rfl ml PySem.boot_len (pa_cons (pv 1) pa_nil)) pa_nil)) (blkOk_by (N := nProg) (sc := defScope sProg) (by decide +kernel))
              (fun _ _ _ _ _ => pg_name (i := 12) scProg.nd rfl (.inl rfl)) (fun _ _ _ _ _ => pts_nil)
              (fun _ _ _ _ _ => pe_tup (pa_cons (pe_op op_add (pe_op op_mul (pv 12) (pv 3)) (pv 8)) (pa_cons (txB K (txB K (pv 1) (pv 12)) pe_int) pa_nil)))) pa_nil)))
        (pss_cons (ps_expr (pe_bm PySem.F.plainAttrs_list PySem.F.slot_list_append PySem.F.type_list_append mt_append (pv 4) (pa_cons
            (pe_call GW hr1 rfl gW kW bW .nil pass0 (pa_cons (pv 7) (pa_cons (pe_dispS (pv 11) (pe_op op_add (pe_op op_add (pv 6) (pv 3)) (pv 8)) pe_int) pa_nil))) pa_nil)))
        (pss_one (ps_expr (pe_bm PySem.F.plainAttrs_list PySem.F.slot_list_append PySem.F.type_list_append mt_append (pv 5) (pa_cons (pe_tup (pa_cons (pe_op op_mul (pv 9) (pv 10)) (pa_cons pe_int pa_nil))) pa_nil)))))))
      (pss_cons (ps_for PassesOwn.never rfl (pi_enumT rfl me (pa_cons (pv 1) pa_nil)) (pg_tup rfl (pgs_cons (pg_name (i := 12) scProg.nd rfl (.inr rfl)) (pgs_cons (pg_tup rfl (pgs_cons (pg_name (i := 9) scProg.nd rfl (.inl rfl)) (pgs_cons (pg_name (i := 10) scProg.nd rfl (.inl rfl)) pgs_nil))) pgs_nil)))
        (pss_cons (ps_set (i := 11) scProg.nd rfl (.inl rfl) (pe_callTy (call_dictP rfl) rfl md (by decide +kernel) (pa_cons
            (pe_lc (own := [("j", 8)]) (g := gName 8) rfl scProg.nd (pi_range1 rfl mr (pa_cons (pv 3) pa_nil)) (blkOk_by (N := nProg) (sc := defScope sProg) (by decide +kernel))
              (fun _ _ _ _ _ => pg_name (i := 8) scProg.nd rfl (.inl rfl)) (fun _ _ _ _ _ => pts_nil)
              (fun _ _ _ _ _ => pe_tup (pa_cons (pe_op op_add (pe_op op_mul (pv 12) (pv 3)) (pv 8)) (pa_cons pe_int pa_nil)))) pa_nil)))
        (pss_cons (ps_expr (pe_bm PySem.F.plainAttrs_list PySem.F.slot_list_append PySem.F.type_list_append mt_append (pv 4) (pa_cons
            (pe_call GW hr1 rfl gW kW bW .nil pass0 (pa_cons (pv 7) (pa_cons (pe_dispS (pv 11) (pe_op op_add (pe_op op_add (pv 6) (pe_op op_mul pe_int (pv 3))) (pv 12)) pe_int) pa_nil))) pa_nil)))
        (pss_one (ps_expr (pe_bm PySem.F.plainAttrs_list PySem.F.slot_list_append PySem.F.type_list_append mt_append (pv 5) (pa_cons (pe_tup (pa_cons (pv 9) (pa_cons pe_int pa_nil))) pa_nil)))))))
      (pss_cons (ps_setLc (i := 13) (own := [("k", 14)]) (g := gName 14) rfl scProg.nd rfl rfl (sw_true rfl rfl rfl (by decide +kernel)) (pi_range1 rfl mr (pa_cons (pv 7) pa_nil)) (blkOk_by (N := nProg) (sc := defScope sProg) (by decide +kernel))
          (fun _ _ _ _ _ => pg_name (i := 14) scProg.nd rfl (.inl rfl)) (fun _ _ _ _ _ => pts_nil)
          (fun _ _ _ _ _ => pe_ifExp (pt_chain op_le op_lt (pv 6) (pv 14) (pe_op op_add (pv 6) (pv 3))) (pe_tup (pa_cons (pe_un un_neg pe_int) (pa_cons pe_int pa_nil))) (pe_tup (pa_cons pe_int (pa_cons pe_int pa_nil)))))
      (pss_one (ps_ret (pe_call GS hr rfl gS kS bS .nil pass0 (pa_cons (pv 4) (pa_cons (pv 5) (pa_cons (pv 13) pa_nil))))))))))))), ?_⟩
    obtain ⟨a, b, hw, ⟨xs, ha, pa⟩, ⟨ys, hb, pb⟩⟩ := id hW
    generalize hwt : wtOf src snk = wt at q
    have eS : wt.S = src.length := by rw [← hwt]; rfl
    have eW : wt.W = snk.length := by rw [← hwt]; rfl
    have es : ∀ i, wt.s i = (src.getD i (0, 0)).1 := fun i => by rw [← hwt]; rfl
    have ed : ∀ i, wt.d i = (src.getD i (0, 0)).2 := fun i => by rw [← hwt]; rfl
    have ef : ∀ i, wt.f i = (snk.getD i (0, 0)).1 := fun i => by rw [← hwt]; rfl
    have ee : ∀ i, wt.e i = (snk.getD i (0, 0)).2 := fun i => by rw [← hwt]; rfl
    have ok : wt.Ok := by rw [← hwt]; exact wtOf_ok o1 o2
    have hS4 := ok.S4
    have hW4 := ok.W4
    have hW0 := ok.W0
    have hxl : xs.length = wt.S := by rw [pa.1, eS]
    have hyl : ys.length = wt.W := by rw [pb.1, eW]
    obtain ⟨hm0, hm12, hn1000⟩ := wt_m ok
    have hnn : wt.n = wt.S * wt.W + (wt.W + wt.W + wt.S) := rfl
    have hmm : wt.m = wt.W + wt.W + wt.S := rfl
    refine ⟨_, rfl, wa, _, rfl, SqT.of hw, rfl, _, _, rfl, _, _, rfl, rfl, ?_⟩
    refine ⟨_, rfl, b, ys, rfl, .inr (SqT.of hb), Nat.zero_le _, fun ra hra => ⟨Nat.zero_le _, fun ga hga => ⟨by show 3 ≤ sizeLine; decide, fun p hp => ?_⟩⟩⟩
    refine ⟨p, _, rfl, SqT.of upd_same, rfl, _, _, rfl, _, _, rfl, _, _, rfl, rfl, ?_⟩
    generalize hH3 : upd (upd (upd H ra (.lst [])) ga (.lst [])) p (.tup [.int (ys.length : Nat), .ref ra, .ref ga]) = H3
    have b3 : Bld wt H ra ga 0 0 H3 := by
      have hgr : ga ≠ ra := fun z => by rw [z, upd_same] at hga; cases hga
      have hpg : p ≠ ga := fun z => by rw [z, upd_same] at hp; cases hp
      rw [upd_ne hpg] at hp
      have hpr : p ≠ ra := fun z => by rw [z, upd_same] at hp; cases hp
      rw [upd_ne hpr] at hp
      have hga' : H ga = none := by rw [upd_ne hgr] at hga; exact hga
      rw [← hH3]
      refine ⟨((Ext.refl.hid hra).hid hga').hid hp, hra, hga', hgr.symm, ⟨[], by rw [upd_ne hpr.symm, upd_ne hgr.symm, upd_same], rfl, fun l v e => by simp at e⟩, ⟨[], by rw [upd_ne hpg.symm, upd_same], rfl, fun l v e => by simp at e⟩⟩
    refine ⟨_, rfl, a, xs, rfl, .inr (SqT.of (b3.ext.tup _ _ ha)), _, rfl, _, _, rfl, rfl, .inr ⟨by omega, by omega⟩, ?_⟩
    refine ⟨_, rfl, _, rfl, _, _, rfl, rfl, _, rfl, _, _, rfl, rfl, _, rfl, a, xs, rfl, .inr (SqT.of (b3.ext.tup _ _ ha)), _, _, rfl, rfl, ?_⟩
    have efl : ((xs.length : Nat) : Int) * ((ys.length : Nat) : Int) = ((wt.S * wt.W : Nat) : Int) := by rw [hxl, hyl]; push_cast; rfl
    have emn : ((wt.S * wt.W : Nat) : Int) + ((ys.length : Nat) : Int) + ((ys.length : Nat) : Int) + ((xs.length : Nat) : Int) = ((wt.n : Nat) : Int) := by rw [hxl, hyl, hnn]; push_cast; omega
    refine ⟨_, rfl, b, ys, rfl, SqT.of (b3.ext.tup _ _ hb), ?_⟩
    refine for_it walk_enumT (fun i σ H' => ∃ y8 y9 y10 y11 y12, σ = [some (.ref wa), some (.ref a), some (.ref b), some (.int (wt.W : Nat)), some (.ref ra), some (.ref ga), some (.int ((wt.S * wt.W : Nat) : Int)), some (.int (wt.n : Nat)), y8, y9, y10, y11, y12, none, none] ∧ Bld wt H ra ga i i H')
      ⟨none, none, none, none, none, by rw [← emn, ← efl, ← hyl]; rfl, b3⟩ (fun i σ H' _ ⟨_, _, _, _, _, _, h⟩ => SqT.of (h.ext.tup _ _ hb)) (fun i x σ H4 H5 hi ⟨y8, y9, y10, y11, y12, hσ, b4⟩ y => ?_) (fun σ H4 ⟨y8, y9, y10, y11, y12, hσ, b4⟩ => ?_)
    · subst hσ
      obtain ⟨T0, x1, x2, rfl, hT0, eH, f1, f2⟩ := y
      have s1 : H5 T0 = some (.tup [x1, x2]) := by rw [eH, upd_same]
      have e5 : Ext [] H4 H5 := by rw [eH]; exact Ext.new hT0
      have ex1 : x1 = V.int (i : Nat) := (Option.some.inj f1).symm
      subst ex1
      have hi' : i < wt.W := by omega
      have b5 := b4.up e5
      obtain ⟨p2, rfl, hp2⟩ := Pr.ext b5.ext (pb.2 i x2 f2)
      refine ⟨T0, _, rfl, SqT.of s1, rfl, _, _, rfl, _, _, rfl, p2, _, rfl, SqT.of hp2, rfl, _, _, rfl, _, _, rfl, rfl, rfl, ?_⟩
      refine ⟨_, rfl, a, xs, rfl, .inr (SqT.of (b5.ext.tup _ _ ha)), _, rfl, by omega, by omega, ?_⟩
      rw [show ((xs.length : Nat) : Int).toNat = wt.S by omega]
      refine lc_map walk_range0 (fun k v H' => Pr H' v ((k * wt.W + i : Nat) : Int) 1) (fun _ _ _ _ _ x h => Pr.ext x h) yfn_ext (fun _ _ => trivial) (by omega) (fun k x H6 H7 hk ex y R k2 => ?_) (fun D H6 es6 hD e6 hL hl hv => ?_)
      · obtain ⟨rfl, rfl⟩ := y
        refine ⟨rfl, _, rfl, _, rfl, _, _, rfl, rfl, .inr ⟨by omega, by omega⟩, _, rfl, _, _, rfl, rfl, two_le, fun p0 hp0 => k2 _ _ (Ext.new hp0) ⟨p0, rfl, ?_⟩⟩
        rw [upd_same]
        push_cast
        rfl
      obtain ⟨ps, eps, hps⟩ := pairs_of (K := K) es6 (fun k => k * wt.W + i) (fun _ => 1) hv
      rw [hl] at hps
      refine ⟨D, ps, _, rfl, SqL.of (by rw [← eps]; exact hL), hps, fun en hen => ?_⟩
      have b6 := b5.up (e6.trans (Ext.new (o := .dK (mergeK [] (ents wt.S (fun k => k * wt.W + i) (fun _ => 1)))) hen))
      generalize hH7 : upd H6 en (.dK (mergeK [] (ents wt.S (fun k => k * wt.W + i) (fun _ => 1)))) = H7 at b6
      have hen7 : H7 en = some (.dK (mergeK [] (ents wt.S (fun k => k * wt.W + i) (fun _ => 1)))) := by rw [← hH7, upd_same]
      obtain ⟨rl7, hrl7, _⟩ := b6.rows
      obtain ⟨gl7, hgl7, _⟩ := b6.goals
      refine ⟨_, rfl, .inl ⟨rfl, _, SqL.of hrl7⟩, _, rfl, fun d hd => ⟨_, rfl, en, mergeK [] (ents wt.S (fun k => k * wt.W + i) (fun _ => 1)), rfl, ?_, upd_same, ?_, ?_, fun u hu => ?_⟩⟩
      · rw [upd_ne (ne_of_none hen7 hd)]; exact hen7
      · exact ne_of_none hen7 hd
      · exact Nat.le_trans (length_mergeK _ _) (by rw [ents_len]; simp; omega)
      have hud : u ≠ d := fun z => by rw [z, upd_same] at hu; cases hu
      have hu7 : H7 u = none := by rw [upd_ne hud, upd_ne hud] at hu; exact hu
      refine ⟨_, rfl, _, rfl, _, _, rfl, rfl, .inl ((wt.S * wt.W + i : Nat) : Int), ?_, upd_same, ?_, hud, ?_⟩
      · show V.int _ = V.int _
        congr 1
        try push_cast
        try omega
      · rw [upd_ne hud.symm, upd_same]
      refine ⟨wt.n, d, _, fun k => wt.co i k, rfl, upd_same, hn1000, fun k _ => row_a hi', fun H8 a8 xs8 e8 ha8 hL8 hR8 => ?_⟩
      have b8 := b6.up ((((((Ext.refl.hid hd).hid hd).hid hu7).hid hu7).hid hd).trans e8)
      have ha87 : H7 a8 = none := (((((Ext.refl.hid hd).hid hd).hid hu7).hid hu7).hid hd).non a8 ha8
      obtain ⟨rl8, hrl8, hrl8l, _⟩ := b8.rows
      have b9 := b8.row hrl8 (ne_of_none hrl7 ha87).symm (ne_of_none hgl7 ha87).symm hL8 (Rs.congr hR8 fun k hk => (PW.Wt.A_co hk).symm)
      refine ⟨ra, rl8, _, rfl, rfl, hrl8, Nat.lt_of_lt_of_le (show rl8.length < 100000 by omega) (by decide), ?_⟩
      generalize hH9 : upd H8 ra (.lst (rl8 ++ [.ref a8])) = H9 at b9
      obtain ⟨gl9, hgl9, hgl9r⟩ := b9.goals
      have hgl9l := hgl9r.1
      refine ⟨_, rfl, .inl ⟨rfl, _, SqL.of hgl9⟩, _, rfl, two_le, fun pg hpg => ⟨ga, gl9, _, rfl, rfl, Ext.lst0 (Ext.new hpg) hgl9, Nat.lt_of_lt_of_le (show gl9.length < 100000 by omega) (by decide), ?_⟩⟩
      exact ⟨_, _, _, _, _, rfl, (b9.up (Ext.new hpg)).goal (Ext.lst0 (Ext.new hpg) hgl9) (by rw [goal_a hi', ef]; exact rt_int _ rfl upd_same)⟩
    subst hσ
    rw [hyl] at b4
    refine ⟨_, rfl, b, ys, rfl, SqT.of (b4.ext.tup _ _ hb), ?_⟩
    refine for_it walk_enumT (fun i σ H' => ∃ y8 y9 y10 y11 y12, σ = [some (.ref wa), some (.ref a), some (.ref b), some (.int (wt.W : Nat)), some (.ref ra), some (.ref ga), some (.int ((wt.S * wt.W : Nat) : Int)), some (.int (wt.n : Nat)), y8, y9, y10, y11, y12, none, none] ∧ Bld wt H ra ga (wt.W + i) (wt.W + i) H')
      ⟨_, _, _, _, _, rfl, b4⟩ (fun i σ H' _ ⟨_, _, _, _, _, _, h⟩ => SqT.of (h.ext.tup _ _ hb)) (fun i x σ H4 H5 hi ⟨y8, y9, y10, y11, y12, hσ, b4⟩ y => ?_) (fun σ H4 ⟨y8, y9, y10, y11, y12, hσ, b4⟩ => ?_)
    · subst hσ
      obtain ⟨T0, x1, x2, rfl, hT0, eH, f1, f2⟩ := y
      have s1 : H5 T0 = some (.tup [x1, x2]) := by rw [eH, upd_same]
      have e5 : Ext [] H4 H5 := by rw [eH]; exact Ext.new hT0
      have ex1 : x1 = V.int (i : Nat) := (Option.some.inj f1).symm
      subst ex1
      have hi' : i < wt.W := by omega
      have b5 := b4.up e5
      obtain ⟨p2, rfl, hp2⟩ := Pr.ext b5.ext (pb.2 i x2 f2)
      refine ⟨T0, _, rfl, SqT.of s1, rfl, _, _, rfl, _, _, rfl, p2, _, rfl, SqT.of hp2, rfl, _, _, rfl, _, _, rfl, rfl, rfl, ?_⟩
      refine ⟨_, rfl, a, xs, rfl, .inr (SqT.of (b5.ext.tup _ _ ha)), _, rfl, by omega, by omega, ?_⟩
      rw [show ((xs.length : Nat) : Int).toNat = wt.S by omega]
      refine lc_map walk_range0 (fun k v H' => Pr H' v ((k * wt.W + i : Nat) : Int) (wt.d k)) (fun _ _ _ _ _ x h => Pr.ext x h) yfn_ext (fun _ _ => trivial) (by omega) (fun k x H6 H7 hk ex y R k2 => ?_) (fun D H6 es6 hD e6 hL hl hv => ?_)
      · obtain ⟨rfl, rfl⟩ := y
        obtain ⟨xv, hxv, hxp⟩ := pa.get (i := k) (by omega)
        obtain ⟨px, rfl, hpx⟩ := Pr.ext (b5.ext.trans ex) hxp
        refine ⟨rfl, _, rfl, _, rfl, _, _, rfl, rfl, .inr ⟨by omega, by omega⟩, _, rfl, _, _, rfl, rfl, _, rfl, _, rfl, a, xs, k, _, rfl, rfl, SqT.of (ex.tup _ _ (b5.ext.tup _ _ ha)), atI_nat hxv, px, _, 1, _, rfl, rfl, SqT.of hpx, atI_1, two_le, fun p0 hp0 => k2 _ _ (Ext.new hp0) ⟨p0, rfl, ?_⟩⟩
        rw [upd_same, ed]
        push_cast
        rfl
      obtain ⟨ps, eps, hps⟩ := pairs_of (K := K) es6 (fun k => k * wt.W + i) (fun k => wt.d k) hv
      rw [hl] at hps
      refine ⟨D, ps, _, rfl, SqL.of (by rw [← eps]; exact hL), hps, fun en hen => ?_⟩
      have b6 := b5.up (e6.trans (Ext.new (o := .dK (mergeK [] (ents wt.S (fun k => k * wt.W + i) (fun k => wt.d k)))) hen))
      generalize hH7 : upd H6 en (.dK (mergeK [] (ents wt.S (fun k => k * wt.W + i) (fun k => wt.d k)))) = H7 at b6
      have hen7 : H7 en = some (.dK (mergeK [] (ents wt.S (fun k => k * wt.W + i) (fun k => wt.d k)))) := by rw [← hH7, upd_same]
      obtain ⟨rl7, hrl7, _⟩ := b6.rows
      obtain ⟨gl7, hgl7, _⟩ := b6.goals
      refine ⟨_, rfl, .inl ⟨rfl, _, SqL.of hrl7⟩, _, rfl, fun d hd => ⟨_, rfl, en, mergeK [] (ents wt.S (fun k => k * wt.W + i) (fun k => wt.d k)), rfl, ?_, upd_same, ?_, ?_, fun u hu => ?_⟩⟩
      · rw [upd_ne (ne_of_none hen7 hd)]; exact hen7
      · exact ne_of_none hen7 hd
      · exact Nat.le_trans (length_mergeK _ _) (by rw [ents_len]; simp; omega)
      have hud : u ≠ d := fun z => by rw [z, upd_same] at hu; cases hu
      have hu7 : H7 u = none := by rw [upd_ne hud, upd_ne hud] at hu; exact hu
      refine ⟨_, rfl, _, rfl, _, _, rfl, rfl, _, rfl, _, _, rfl, rfl, .inl ((wt.S * wt.W + (wt.W + i) : Nat) : Int), ?_, upd_same, ?_, hud, ?_⟩
      · show V.int _ = V.int _
        congr 1
        try push_cast
        try omega
      · rw [upd_ne hud.symm, upd_same]
      refine ⟨wt.n, d, _, fun k => wt.co (wt.W + i) k, rfl, upd_same, hn1000, fun k _ => row_b hi', fun H8 a8 xs8 e8 ha8 hL8 hR8 => ?_⟩
      have b8 := b6.up ((((((Ext.refl.hid hd).hid hd).hid hu7).hid hu7).hid hd).trans e8)
      have ha87 : H7 a8 = none := (((((Ext.refl.hid hd).hid hd).hid hu7).hid hu7).hid hd).non a8 ha8
      obtain ⟨rl8, hrl8, hrl8l, _⟩ := b8.rows
      have b9 := b8.row hrl8 (ne_of_none hrl7 ha87).symm (ne_of_none hgl7 ha87).symm hL8 (Rs.congr hR8 fun k hk => (PW.Wt.A_co hk).symm)
      refine ⟨ra, rl8, _, rfl, rfl, hrl8, Nat.lt_of_lt_of_le (show rl8.length < 100000 by omega) (by decide), ?_⟩
      generalize hH9 : upd H8 ra (.lst (rl8 ++ [.ref a8])) = H9 at b9
      obtain ⟨gl9, hgl9, hgl9r⟩ := b9.goals
      have hgl9l := hgl9r.1
      have hfi : -(2 ^ 64) < (snk.getD i (0, 0)).1 ∧ (snk.getD i (0, 0)).1 < 2 ^ 64 := by
        have := o2.at (i := i) (by omega)
        omega
      refine ⟨_, rfl, .inl ⟨rfl, _, SqL.of hgl9⟩, _, rfl, _, rfl, _, _, rfl, rfl, .inl ⟨hfi.1, hfi.2⟩, two_le, fun pg hpg => ⟨ga, gl9, _, rfl, rfl, Ext.lst0 (Ext.new hpg) hgl9, Nat.lt_of_lt_of_le (show gl9.length < 100000 by omega) (by decide), ?_⟩⟩
      exact ⟨_, _, _, _, _, rfl, (b9.up (Ext.new hpg)).goal (Ext.lst0 (Ext.new hpg) hgl9) (by rw [goal_b hi', ef, ee]; exact rt_int _ rfl upd_same)⟩
    subst hσ
    rw [hyl] at b4
    refine ⟨_, rfl, a, xs, rfl, SqT.of (b4.ext.tup _ _ ha), ?_⟩
    refine for_it walk_enumT (fun i σ H' => ∃ y8 y9 y10 y11 y12, σ = [some (.ref wa), some (.ref a), some (.ref b), some (.int (wt.W : Nat)), some (.ref ra), some (.ref ga), some (.int ((wt.S * wt.W : Nat) : Int)), some (.int (wt.n : Nat)), y8, y9, y10, y11, y12, none, none] ∧ Bld wt H ra ga (wt.W + wt.W + i) (wt.W + wt.W + i) H')
      ⟨_, _, _, _, _, rfl, b4⟩ (fun i σ H' _ ⟨_, _, _, _, _, _, h⟩ => SqT.of (h.ext.tup _ _ ha)) (fun i x σ H4 H5 hi ⟨y8, y9, y10, y11, y12, hσ, b4⟩ y => ?_) (fun σ H4 ⟨y8, y9, y10, y11, y12, hσ, b4⟩ => ?_)
    · subst hσ
      obtain ⟨T0, x1, x2, rfl, hT0, eH, f1, f2⟩ := y
      have s1 : H5 T0 = some (.tup [x1, x2]) := by rw [eH, upd_same]
      have e5 : Ext [] H4 H5 := by rw [eH]; exact Ext.new hT0
      have ex1 : x1 = V.int (i : Nat) := (Option.some.inj f1).symm
      subst ex1
      have hi' : i < wt.S := by omega
      have b5 := b4.up e5
      obtain ⟨p2, rfl, hp2⟩ := Pr.ext b5.ext (pa.2 i x2 f2)
      refine ⟨T0, _, rfl, SqT.of s1, rfl, _, _, rfl, _, _, rfl, p2, _, rfl, SqT.of hp2, rfl, _, _, rfl, _, _, rfl, rfl, rfl, ?_⟩
      refine ⟨_, rfl, wt.W, rfl, by omega, by omega, ?_⟩
      rw [Int.toNat_natCast]
      refine lc_map walk_range0 (fun k v H' => Pr H' v ((i * wt.W + k : Nat) : Int) 1) (fun _ _ _ _ _ x h => Pr.ext x h) yfn_ext (fun _ _ => trivial) (by omega) (fun k x H6 H7 hk ex y R k2 => ?_) (fun D H6 es6 hD e6 hL hl hv => ?_)
      · obtain ⟨rfl, rfl⟩ := y
        refine ⟨rfl, _, rfl, _, rfl, _, _, rfl, rfl, .inr ⟨by omega, by omega⟩, _, rfl, _, _, rfl, rfl, two_le, fun p0 hp0 => k2 _ _ (Ext.new hp0) ⟨p0, rfl, ?_⟩⟩
        rw [upd_same]
        push_cast
        rfl
      obtain ⟨ps, eps, hps⟩ := pairs_of (K := K) es6 (fun k => i * wt.W + k) (fun _ => 1) hv
      rw [hl] at hps
      refine ⟨D, ps, _, rfl, SqL.of (by rw [← eps]; exact hL), hps, fun en hen => ?_⟩
      have b6 := b5.up (e6.trans (Ext.new (o := .dK (mergeK [] (ents wt.W (fun k => i * wt.W + k) (fun _ => 1)))) hen))
      generalize hH7 : upd H6 en (.dK (mergeK [] (ents wt.W (fun k => i * wt.W + k) (fun _ => 1)))) = H7 at b6
      have hen7 : H7 en = some (.dK (mergeK [] (ents wt.W (fun k => i * wt.W + k) (fun _ => 1)))) := by rw [← hH7, upd_same]
      obtain ⟨rl7, hrl7, _⟩ := b6.rows
      obtain ⟨gl7, hgl7, _⟩ := b6.goals
      refine ⟨_, rfl, .inl ⟨rfl, _, SqL.of hrl7⟩, _, rfl, fun d hd => ⟨_, rfl, en, mergeK [] (ents wt.W (fun k => i * wt.W + k) (fun _ => 1)), rfl, ?_, upd_same, ?_, ?_, fun u hu => ?_⟩⟩
      · rw [upd_ne (ne_of_none hen7 hd)]; exact hen7
      · exact ne_of_none hen7 hd
      · exact Nat.le_trans (length_mergeK _ _) (by rw [ents_len]; simp; omega)
      have hud : u ≠ d := fun z => by rw [z, upd_same] at hu; cases hu
      have hu7 : H7 u = none := by rw [upd_ne hud, upd_ne hud] at hu; exact hu
      refine ⟨_, rfl, _, rfl, _, _, rfl, rfl, .inr ⟨by omega, by omega⟩, _, _, rfl, rfl, _, rfl, _, _, rfl, rfl, .inl ((wt.S * wt.W + (wt.W + wt.W + i) : Nat) : Int), ?_, upd_same, ?_, hud, ?_⟩
      · show V.int _ = V.int _
        congr 1
        try push_cast
        try omega
      · rw [upd_ne hud.symm, upd_same]
      refine ⟨wt.n, d, _, fun k => wt.co (wt.W + wt.W + i) k, rfl, upd_same, hn1000, fun k _ => row_c hi', fun H8 a8 xs8 e8 ha8 hL8 hR8 => ?_⟩
      have b8 := b6.up ((((((Ext.refl.hid hd).hid hd).hid hu7).hid hu7).hid hd).trans e8)
      have ha87 : H7 a8 = none := (((((Ext.refl.hid hd).hid hd).hid hu7).hid hu7).hid hd).non a8 ha8
      obtain ⟨rl8, hrl8, hrl8l, _⟩ := b8.rows
      have b9 := b8.row hrl8 (ne_of_none hrl7 ha87).symm (ne_of_none hgl7 ha87).symm hL8 (Rs.congr hR8 fun k hk => (PW.Wt.A_co hk).symm)
      refine ⟨ra, rl8, _, rfl, rfl, hrl8, Nat.lt_of_lt_of_le (show rl8.length < 100000 by omega) (by decide), ?_⟩
      generalize hH9 : upd H8 ra (.lst (rl8 ++ [.ref a8])) = H9 at b9
      obtain ⟨gl9, hgl9, hgl9r⟩ := b9.goals
      have hgl9l := hgl9r.1
      refine ⟨_, rfl, .inl ⟨rfl, _, SqL.of hgl9⟩, _, rfl, two_le, fun pg hpg => ⟨ga, gl9, _, rfl, rfl, Ext.lst0 (Ext.new hpg) hgl9, Nat.lt_of_lt_of_le (show gl9.length < 100000 by omega) (by decide), ?_⟩⟩
      exact ⟨_, _, _, _, _, rfl, (b9.up (Ext.new hpg)).goal (Ext.lst0 (Ext.new hpg) hgl9) (by rw [goal_c hi', es]; exact rt_int _ rfl upd_same)⟩
    subst hσ
    rw [hxl] at b4
    refine ⟨_, rfl, wt.n, rfl, by omega, by omega, ?_⟩
    rw [Int.toNat_natCast]
    refine lc_map walk_range0 (fun k v H' => Rt H' v (wt.cost k)) (fun _ _ _ _ _ x h => Pr.ext x h) yfn_ext (fun _ _ => trivial) (by omega) (fun k x H6 H7 hk ex y R k2 => ?_) (fun D H6 cs hD e6 hL hl hv => ?_)
    · obtain ⟨rfl, rfl⟩ := y
      by_cases z1 : wt.S * wt.W ≤ k
      · refine ⟨rfl, _, rfl, _, rfl, _, _, rfl, rfl, true, by show V.bl (decide (((wt.S * wt.W : Nat) : Int) ≤ (k : Int))) = _; rw [decide_eq_true (by omega)], ?_⟩
        refine ⟨_, rfl, _, rfl, _, _, rfl, rfl, _, _, rfl, rfl, _, rfl, ?_⟩
        by_cases z2 : k < wt.S * wt.W + wt.W
        · rw [show decide ((k : Int) < ((wt.S * wt.W : Nat) : Int) + ((wt.W : Nat) : Int)) = true from decide_eq_true (by omega)]
          refine ⟨_, rfl, two_le, fun p0 hp0 => k2 _ _ (Ext.new hp0) ?_⟩
          rw [show wt.cost k = -1 by unfold PW.Wt.cost; rw [if_pos ⟨z1, z2⟩]]
          exact rt_m1 upd_same
        · rw [show decide ((k : Int) < ((wt.S * wt.W : Nat) : Int) + ((wt.W : Nat) : Int)) = false from decide_eq_false (by omega)]
          refine ⟨two_le, fun p0 hp0 => k2 _ _ (Ext.new hp0) ?_⟩
          rw [show wt.cost k = 0 by unfold PW.Wt.cost; rw [if_neg (fun z => z2 z.2)]]
          exact rt_0 upd_same
      · refine ⟨rfl, _, rfl, _, rfl, _, _, rfl, rfl, false, by show V.bl (decide (((wt.S * wt.W : Nat) : Int) ≤ (k : Int))) = _; rw [decide_eq_false (by omega)], _, rfl, ?_⟩
        refine ⟨two_le, fun p0 hp0 => k2 _ _ (Ext.new hp0) ?_⟩
        rw [show wt.cost k = 0 by unfold PW.Wt.cost; rw [if_neg (fun z => z1 z.1)]]
        exact rt_0 upd_same
    have b6 := b4.up e6
    obtain ⟨rl, k1, k2, k3⟩ := b6.rows
    obtain ⟨gl, k4, k5⟩ := b6.goals
    refine ⟨_, rfl, _, rfl, _, rfl, wt, ra, ga, D, gl, cs, rfl, ok, ⟨rl, k1, k2, fun l v e => ?_⟩, k4, k5, hL, ⟨hl, hv⟩, fun H7 q7 am xs7 t pr e7 g1 g2 g3 g4 g5 g6 => ?_⟩
    · obtain ⟨a7, xs7, q1, _, _, q4, q5⟩ := k3 l v e
      exact ⟨a7, xs7, q1, q4, q5⟩
    · exact q _ _ _ _ t _ (b6.ext.trans e7) g1 g2 g3 g4 g5 g6
end
end PWK
namespace PW
theorem amt_bk {m n k : Nat} {A : Nat → Nat → Rat} {t : Tb} (g : Good m n A t) (h : ∀ i, i < m → Bk 301 (t.T i (n + m))) : Bk 301 (amt m n t k) := by
  unfold amt
  by_cases hex : ∃ j, j < m ∧ t.B j = k
  · obtain ⟨j, hj, e⟩ := hex
    rw [sm_single (k := j) hj fun j' hj' ne => if_neg fun z => ne (g.binj hj' hj (z.trans e.symm)), if_pos e]
    exact h j hj
  · rw [sm_zero fun j hj => if_neg fun z => hex ⟨j, hj, z⟩]
    exact ⟨by decide, by decide⟩
end PW
namespace PWK
open PySem PySem.Spec PyProof.Rows L2
/-- tuple(x), list(x) in a block -/
def rTupOf (K : PySem.W.Frag) : List V → Hp → VK → Prop := fun xs H Q => ∃ p ys, xs = [.ref p] ∧ ((SqL K H p ys ∧ ∀ l, H l = none → Q (.ref l) (upd H l (.tup ys))) ∨ (SqT K H p ys ∧ Q (.ref p) H))
theorem tupOfB {X : Cx} (K : PySem.W.Frag) (hK : X.K = K := by rfl) : CallR X (.type "tuple") (rTupOf K) := by
  subst hK
  exact call_tuple_of
theorem slLB {X : Cx} (K : PySem.W.Frag) (hK : X.K = K := by rfl) : SlR X (rSlL K) := by
  subst hK
  exact sl_list
theorem cut_at {xs : List V} {a b : Nat} (h : a + b ≤ xs.length) : cutV xs (some ((a : Nat) : Int)) (some ((a + b : Nat) : Int)) = (xs.drop a).take b := by
  unfold cutV
  rw [HT.sIx_nat, HT.sIx_nat, Nat.min_eq_left (by omega), Nat.min_eq_left (by omega), show a + b - a = b by omega]
section
variable {P : Program} {w : World} {K : PySem.W.Frag} {mg : Str → Option Value} {base : Heap}
abbrev nPlan : List Str := ["water", "amounts", "wide", "table", "i"]
theorem scPlan : FnScope nPlan ["water", "amounts"] (defScope sPlan) := ⟨rfl, rfl, rfl, by decide +kernel, rfl, by decide +kernel, by decide +kernel⟩
def spPlan : Sp := fun vs H Q _ => ∃ (wa am : Addr) (src snk : List (Int × Int)) (xs : List V) (n : Nat) (f : Nat → Rat), vs = [.ref wa, .ref am] ∧ WaterAt H wa src snk ∧ src.length ≤ 4 ∧ snk.length ≤ 4 ∧ H am = some (.lst xs) ∧ Rs H xs n f ∧ src.length * snk.length + snk.length ≤ n ∧ n ≤ 1000 ∧
  ∀ H' q tt fr zs, Ext [] H H' → H' q = some (.tup [.ref tt, .ref fr]) → H' fr = some (.tup zs) → Rs H' zs snk.length (fun j => f (src.length * snk.length + j)) → Q (.ref q) H'
theorem ok_plan {f : Addr} {fd : FuncData} (F : Fun K "plan_of" "plan_of" sPlan f fd) (ml : mg "len" = none) (mr : mg "range" = none) (mt : mg "tuple" = none) :
    FnOk P w K mg base CX0 1 f fd ["water", "amounts"] spPlan := by
  refine F.ok scPlan (fun vs H Q E h => ?_) (fun cdv A outer s H vs Q E hr h => ?_)
  · obtain ⟨wa, am, src, snk, xs, n, f, rfl, _⟩ := h
    rfl
  · obtain ⟨wa, am, src, snk, us, n, f, rfl, hW, hS4, hW4, ham, hR, hle, hn, q⟩ := h
    refine ⟨_, pss_cons (ps_set (i := 2) scPlan.nd rfl (.inr rfl) (pe_callB call_len_seq rfl ml PySem.boot_len (pa_cons (tx (pv 0) pe_int) pa_nil)))
      (pss_cons (ps_setLc (i := 3) (own := [("i", 4)]) (g := gName 4) rfl scPlan.nd rfl rfl (sw_true rfl rfl rfl (by decide +kernel)) (pi_range1 rfl mr (pa_cons (pe_callB call_len_seq rfl ml PySem.boot_len (pa_cons (tx (pv 0) pe_int) pa_nil)) pa_nil)) (blkOk_by (N := nPlan) (sc := defScope sPlan) (by decide +kernel))
          (fun _ _ _ _ _ => pg_name (i := 4) scPlan.nd rfl (.inl rfl)) (fun _ _ _ _ _ => pts_nil)
          (fun _ _ _ _ _ => pe_callTy (tupOfB K) rfl mt (by decide +kernel) (pa_cons (pe_slice (slLB K) (pv 1) (po_some (pe_op op_mul (pv 4) (pv 2))) (po_some (pe_op op_add (pe_op op_mul (pv 4) (pv 2)) (pv 2)))) pa_nil)))
      (pss_one (ps_ret (pe_tup (pa_cons (pe_callTy (tupOfB K) rfl mt (by decide +kernel) (pa_cons (pv 3) pa_nil)) (pa_cons
        (pe_callTy (tupOfB K) rfl mt (by decide +kernel) (pa_cons (pe_slice (slLB K) (pv 1) (po_some (pe_op op_mul (pe_callB call_len_seq rfl ml PySem.boot_len (pa_cons (tx (pv 0) pe_int) pa_nil)) (pv 2)))
          (po_some (pe_op op_add (pe_op op_mul (pe_callB call_len_seq rfl ml PySem.boot_len (pa_cons (tx (pv 0) pe_int) pa_nil)) (pv 2)) (pv 2)))) pa_nil)) pa_nil)))))), ?_⟩
    obtain ⟨a, b, hw, ⟨xs, ha, pa⟩, ⟨ys, hb, pb⟩⟩ := id hW
    have hxl := pa.1
    have hyl := pb.1
    refine ⟨_, rfl, wa, _, 1, _, rfl, rfl, SqT.of hw, atI_1, b, ys, rfl, .inr (SqT.of hb), ?_⟩
    refine ⟨_, rfl, wa, _, 0, _, rfl, rfl, SqT.of hw, atI_0, a, xs, rfl, .inr (SqT.of ha), _, rfl, by omega, by omega, ?_⟩
    rw [show ((xs.length : Nat) : Int).toNat = src.length by omega]
    refine lc_map walk_range0 (fun k v H' => True) (fun _ _ _ _ _ x h => trivial) yfn_ext (fun _ _ => trivial) (by omega) (fun k x H6 H7 hk ex y R k2 => ?_) (fun D H6 ts hD e6 hL hl hv => ?_)
    · obtain ⟨rfl, rfl⟩ := y
      refine ⟨rfl, _, rfl, _, rfl, _, rfl, _, _, rfl, rfl, .inr ⟨by omega, by omega⟩, _, rfl, _, rfl, _, rfl, _, _, rfl, rfl, .inr ⟨by omega, by omega⟩, _, rfl, _, _, rfl, rfl, _, rfl, am, us, rfl, SqL.of (ex.lst0 ham), fun p1 hp1 => ?_⟩
      refine ⟨p1, _, rfl, .inl ⟨SqL.of upd_same, fun l hl => ?_⟩⟩
      exact k2 _ _ ((Ext.new hp1).trans (Ext.new hl)) trivial
    have e0 : ((xs.length : Nat) : Int) * ((ys.length : Nat) : Int) = ((src.length * snk.length : Nat) : Int) := by rw [hxl, hyl]; push_cast; rfl
    refine ⟨_, rfl, D, ts, rfl, .inl ⟨SqL.of hL, fun tt htt => ?_⟩⟩
    have e7 : Ext [] H (upd H6 tt (.tup ts)) := e6.trans (Ext.new htt)
    refine ⟨_, rfl, _, rfl, wa, _, 0, _, rfl, rfl, SqT.of (e7.tup _ _ hw), atI_0, a, xs, rfl, .inr (SqT.of (e7.tup _ _ ha)), _, rfl, _, _, rfl, rfl, .inr ⟨by omega, by omega⟩, _, rfl, ?_⟩
    refine ⟨_, rfl, wa, _, 0, _, rfl, rfl, SqT.of (e7.tup _ _ hw), atI_0, a, xs, rfl, .inr (SqT.of (e7.tup _ _ ha)), _, rfl, _, _, rfl, rfl, .inr ⟨by omega, by omega⟩, _, rfl, _, _, rfl, rfl, _, rfl, am, us, rfl, SqL.of (e7.lst0 ham), fun p1 hp1 => ?_⟩
    have ecut : cutV us (some (((xs.length : Nat) : Int) * ((ys.length : Nat) : Int))) (some (((xs.length : Nat) : Int) * ((ys.length : Nat) : Int) + ((ys.length : Nat) : Int))) = (us.drop (src.length * snk.length)).take snk.length := by
      rw [e0, hyl]
      exact cut_at (by rw [hR.1]; omega)
    generalize hH8 : upd (upd H6 tt (.tup ts)) p1 _ = H8
    have e8 : Ext [] H H8 := by rw [← hH8]; exact e7.trans (Ext.new hp1)
    have h8 : H8 p1 = some (.lst ((us.drop (src.length * snk.length)).take snk.length)) := by rw [← hH8, upd_same, ← ecut]
    refine ⟨p1, _, rfl, .inl ⟨SqL.of h8, fun fr hfr => ?_⟩⟩
    refine ⟨two_le, fun q0 hq0 => ?_⟩
    have e9 : Ext [] H (upd H8 fr (.tup ((us.drop (src.length * snk.length)).take snk.length))) := e8.trans (Ext.new hfr)
    refine q _ q0 tt fr _ (e9.trans (Ext.new hq0)) upd_same (Ext.tup (S := []) (Ext.new hq0) _ _ upd_same) ⟨?_, fun j v ej => ?_⟩
    · rw [List.length_take, List.length_drop, hR.1]
      omega
    · rw [List.getElem?_take] at ej
      split at ej
      · rw [List.getElem?_drop] at ej
        exact (hR.2 _ v ej).ext (e9.trans (Ext.new hq0))
      · cases ej
/-! ### fresh_of, least_fresh -/
theorem scFresh : FnScope ["water"] ["water"] (defScope sFresh) := ⟨rfl, rfl, rfl, by decide +kernel, rfl, by decide +kernel, by decide +kernel⟩
def spFresh : Sp := fun vs H Q _ => ∃ (wa : Addr) (src snk : List (Int × Int)), vs = [.ref wa] ∧ WaterAt H wa src snk ∧ SideOk src ∧ SideOk snk ∧
  ∀ H' v r, Ext [] H H' → Rt H' v r → PW.IsLeast (wtOf src snk) r → PW.Bk 1300 r → Q v H'
theorem ok_fresh {f fR fP fT : Addr} {fd fdR fdP fdT : FuncData} (F : Fun K "fresh_of" "fresh_of" sFresh f fd) (ml : mg "list" = none)
    (GR : FnOk P w K mg base CX0 7 fR fdR ["water"] spProg) (kR : PySem.W.keepIn K (.ref fR) = true) (bR : Binds K fdR ["water"] []) (gR : mg "program_of" = some (.ref fR))
    (GP : FnOk P w K mg base CX0 1 fP fdP ["water", "amounts"] spPlan) (kP : PySem.W.keepIn K (.ref fP) = true) (bP : Binds K fdP ["water", "amounts"] []) (gP : mg "plan_of" = some (.ref fP))
    (GT : FnOk P w K mg base CX0 3 fT fdT ["some"] spTotal) (kT : PySem.W.keepIn K (.ref fT) = true) (bT : Binds K fdT ["some"] []) (gT : mg "total" = some (.ref fT)) :
    FnOk P w K mg base CX0 8 f fd ["water"] spFresh := by
  refine F.ok scFresh (fun vs H Q E h => ?_) (fun cdv A outer s H vs Q E hr h => ?_)
  · obtain ⟨wa, src, snk, rfl, _⟩ := h
    rfl
  · obtain ⟨wa, src, snk, rfl, hW, o1, o2, q⟩ := h
    have hr1 : Room 1 _ := hr.mono (by decide)
    have hr3 : Room 3 _ := hr.mono (by decide)
    refine ⟨_, pss_one (ps_ret (pe_call GT hr3 rfl gT kT bT .nil pass0 (pa_cons (pe_callTy call_list_of rfl ml (by decide +kernel) (pa_cons (tx (pe_call GP hr1 rfl gP kP bP .nil pass0 (pa_cons (pv 0) (pa_cons
      (tx (pe_call GR hr rfl gR kR bR .nil pass0 (pa_cons (pv 0) pa_nil)) pe_int) pa_nil))) pe_int) pa_nil)) pa_nil))), ?_⟩
    have ok := wtOf_ok o1 o2
    obtain ⟨hm0, hm12, hn1000⟩ := wt_m ok
    refine ⟨_, rfl, _, rfl, wa, src, snk, rfl, hW, o1, o2, fun H1 q1 am xs t pr e1 g1 g2 g3 g4 g5 g6 => ?_⟩
    have hle : src.length * snk.length + snk.length ≤ (wtOf src snk).n := by
      show _ ≤ src.length * snk.length + (snk.length + snk.length + src.length)
      omega
    refine ⟨q1, _, 1, _, rfl, rfl, SqT.of g1, atI_1, wa, am, src, snk, xs, _, _, rfl, hW.ext e1, o1.2.1, o2.2.1, g2, g3, hle, hn1000, fun H2 q2 tt fr zs e2 k1 k2 k3 => ?_⟩
    refine ⟨q2, _, 1, _, rfl, rfl, SqT.of k1, atI_1, fr, zs, rfl, .inr (SqT.of k2), fun l hl => ?_⟩
    have hbk : ∀ j, PW.Bk 301 (PW.amt (wtOf src snk).m (wtOf src snk).n t (src.length * snk.length + j)) := fun j => PW.amt_bk g4 fun i hi => (ok.sizes g4 hi (Nat.le_refl _)).bk
    have h4 := o2.2.1
    refine ⟨l, zs, snk.length, 301, _, rfl, upd_same, k3.ext (Ext.new (S := []) hl), fun j _ => hbk j, by decide, by omega, by omega, fun H3 v e3 hv => ?_⟩
    refine q H3 v _ ((e1.trans e2).trans ((Ext.new hl).trans e3)) hv (PW.Wt.least g4 g5 g6) ?_
    have := PW.Bk.sm (n := snk.length) (f := fun j => PW.amt (wtOf src snk).m (wtOf src snk).n t (src.length * snk.length + j)) (k := 301) fun j _ => hbk j
    exact this.mono (by omega)
theorem scLeast : FnScope ["water"] ["water"] (defScope sLeast) := ⟨rfl, rfl, rfl, by decide +kernel, rfl, by decide +kernel, by decide +kernel⟩
def spLeast (Pt : Addr) : Sp := fun vs H Q _ => ∃ (wa : Addr) (src snk : List (Int × Int)), vs = [.ref wa] ∧ WaterAt H wa src snk ∧ SideOk src ∧ SideOk snk ∧ GxR.TabG H Pt ∧
  ∀ H' v r, Ext [] H H' → Rt H' v r → PW.IsLeast (wtOf src snk) r → PW.Bk 1300 r → Q v H'
theorem ok_least {f fN fF Pt : Addr} {fd fdN fdF : FuncData} (F : Fun K "least_fresh" "least_fresh" sLeast f fd)
    (GN : FnOk P w K mg base CX0 2 fN fdN ["water"] (spNeed Pt)) (kN : PySem.W.keepIn K (.ref fN) = true) (bN : Binds K fdN ["water"] []) (gN : mg "need_water" = some (.ref fN))
    (GF : FnOk P w K mg base CX0 8 fF fdF ["water"] spFresh) (kF : PySem.W.keepIn K (.ref fF) = true) (bF : Binds K fdF ["water"] []) (gF : mg "fresh_of" = some (.ref fF)) :
    FnOk P w K mg base CX0 9 f fd ["water"] (spLeast Pt) := by
  refine F.ok scLeast (fun vs H Q E h => ?_) (fun cdv A outer s H vs Q E hr h => ?_)
  · obtain ⟨wa, src, snk, rfl, _⟩ := h
    rfl
  · obtain ⟨wa, src, snk, rfl, hW, o1, o2, hT, q⟩ := h
    have hr2 : Room 2 _ := hr.mono (by decide)
    refine ⟨_, pss_cons (ps_expr (pe_call GN hr2 rfl gN kN bN .nil pass0 (pa_cons (pv 0) pa_nil)))
      (pss_one (ps_ret (pe_call GF hr rfl gF kF bF .nil pass0 (pa_cons (pv 0) pa_nil)))), ?_⟩
    refine ⟨_, rfl, wa, src, snk, rfl, hW, o1, o2, hT, fun H1 e1 => ?_⟩
    exact ⟨_, rfl, wa, src, snk, rfl, hW.ext e1, o1, o2, fun H2 v r e2 hv hl hb => q H2 v r (e1.trans e2) hv hl hb⟩
end
end PWK
namespace PWK
open PySem PySem.Spec PyProof.Rows L2
abbrev sTaken : Stmt := topS 28
abbrev sPick : Stmt := topS 29
abbrev sAlike : Stmt := topS 30
abbrev sLRatio : Stmt := topS 31
abbrev sLPlus : Stmt := topS 32
abbrev sLBy : Stmt := topS 33
abbrev sLSum : Stmt := topS 34
abbrev sLWater : Stmt := topS 35
abbrev sLAlone : Stmt := topS 39
abbrev sLaw : Stmt := topS 40
theorem sqL_ext {K : PySem.W.Frag} {S : List Addr} {H H' : Hp} {a : Addr} {xs : List V} (x : Ext S H H') (ha : a ∉ S) (h : SqL K H a xs) : SqL K H' a xs := by
  rcases h with (h | ⟨o, h⟩) | h
  · exact .inl (.inl (x.lst ha h))
  · exact .inl (.inr ⟨o, x.frz _ _ _ h⟩)
  · exact .inr h
/-- something is laid where H has nothing -/
theorem Ext.hidS {S : List Addr} {H H' : Hp} {a : Addr} {o : HO} (x : Ext S H H') (h : H a = none) : Ext S H (upd H' a o) := by
  refine ⟨fun b xs e => ?_, fun b o u e => ?_, fun b o hb e d => ?_, fun b ps e => ?_, fun b e => ?_⟩
  · rw [upd_ne (ne_of_none e h)]; exact x.tup b xs e
  · rw [upd_ne (ne_of_none e h)]; exact x.frz b o u e
  · rw [upd_ne (ne_of_none e h)]; exact x.oth b o hb e d
  · rw [upd_ne (ne_of_none e h)]; exact x.tbl b ps e
  · by_cases q : b = a
    · rw [q]; exact h
    · rw [upd_ne q] at e; exact x.non b e
/-- the script stays when the row changes -/
theorem row_keep {K : PySem.W.Frag} {H H' : Hp} {r sc : Addr} {tl : List V} {ns : List Int} (hr : H r = some (.lst (.ref sc :: tl))) (h : SqL K H sc (ns.map V.int)) (x : Ext [r] H H') : SqL K H' sc (ns.map V.int) := by
  rcases h with (h | ⟨o, h⟩) | h
  · have e : sc ≠ r := fun e => by
      rw [e, hr] at h
      cases ns with
      | nil => simp at h
      | cons a b => simp at h
    exact .inl (.inl (x.lst (by simpa using e) h))
  · exact .inl (.inr ⟨o, x.frz _ _ _ h⟩)
  · exact .inr h
/-- the row of draws: the script, how many cells are spent, the seed, a cell's rest -/
def RowAt (K : PySem.W.Frag) (sc : Addr) (ns : List Int) (H : Hp) (r : Addr) : Prop := ∃ (i : Nat) (seed rest : Int), H r = some (.lst [.ref sc, .int (i : Nat), .int seed, .int rest]) ∧ SqL K H sc (ns.map V.int)
section
variable {K : PySem.W.Frag} {sc : Addr} {ns : List Int} {S : List Addr} {H H' : Hp} {r a : Addr}
theorem RowAt.ext (x : Ext S H H') (hr : r ∉ S) (hs : ∀ b ∈ S, H b = none) (h : RowAt K sc ns H r) : RowAt K sc ns H' r := by
  obtain ⟨i, seed, rest, h1, h3⟩ := h
  refine ⟨i, seed, rest, x.lst hr h1, ?_⟩
  exact sqL_ext (x.less (S' := []) fun b hb _ => hs b hb) (by simp) h3
theorem RowAt.ext0 (x : Ext [] H H') (h : RowAt K sc ns H r) : RowAt K sc ns H' r := h.ext x (by simp) (by simp)
theorem RowAt.some (h : RowAt K sc ns H r) : ∃ o, H r = some o := let ⟨_, _, _, h1, _⟩ := h; ⟨_, h1⟩
/-- something is laid where the start H had nothing -/
theorem RowAt.hid {o : HO} (h0 : RowAt K sc ns H r) (x : Ext [r] H H') (h : RowAt K sc ns H' r) (ha : H a = none) : RowAt K sc ns (upd H' a o) r := by
  obtain ⟨i0, seed0, rest0, k1, k3⟩ := h0
  obtain ⟨i, seed, rest, h1, h3⟩ := h
  exact ⟨i, seed, rest, by rw [upd_ne (ne_of_none k1 ha)]; exact h1, row_keep k1 k3 (x.hidS ha)⟩
end
section
variable {P : Program} {w : World} {K : PySem.W.Frag} {mg : Str → Option Value} {base : Heap}
theorem scTaken : FnScope ["_law_row", "_law_many", "_law_found", "_law_cell"] ["_law_row", "_law_many"] (defScope sTaken) := ⟨rfl, rfl, rfl, by decide +kernel, rfl, by decide +kernel, by decide +kernel⟩
def spTaken (K : PySem.W.Frag) : Sp := fun vs H Q _ => ∃ (r sc : Addr) (ns : List Int) (many : Int), vs = [.ref r, .int many] ∧ RowAt K sc ns H r ∧ 0 < many ∧ many < 1073741824 ∧ ∀ H' x, Ext [r] H H' → RowAt K sc ns H' r → 0 ≤ x → x < many → Q (.int x) H'
theorem ok_taken {f : Addr} {fd : FuncData} (F : Fun K "_law_taken" "_law_taken" sTaken f fd) (ml : mg "len" = none) (mi : mg "int" = none) : FnOk P w K mg base CX0 1 f fd ["_law_row", "_law_many"] (spTaken K) := by
  refine F.ok scTaken (fun vs H Q E h => ?_) (fun cdv A outer s H vs Q E hr h => ?_)
  · obtain ⟨r, sc, ns, many, rfl, _⟩ := h
    rfl
  · obtain ⟨r, sc, ns, many, rfl, ⟨i, seed, rest, hr1, hsc⟩, hm0, hm1, q⟩ := h
    refine ⟨_, pss_cons (ps_if (pt_cmpR op_gt (lx (pv 0) pe_int) pe_int (nomark _))
        (pss_cons (ps_set (i := 2) scTaken.nd rfl (.inl rfl) (pe_op op_mod (pe_callTy call_int1 rfl mi (by decide +kernel) (pa_cons (lx (pv 0) pe_int) pa_nil)) (pv 1)))
        (pss_cons (ps_asg (pe_op op_fdiv (lx (pv 0) pe_int) (pv 1)) (pg_sub (pv 0) pe_int set_list))
        (pss_one (ps_ret (pv 2))))) pss_nil)
      (pss_cons (ps_asg (pe_op op_add (lx (pv 0) pe_int) pe_int) (pg_sub (pv 0) pe_int set_list))
      (pss_cons (ps_if (pt_cmpR op_gt (lx (pv 0) pe_int) (pe_callB call_len_seq rfl ml PySem.boot_len (pa_cons (lx (pv 0) pe_int) pa_nil)) (nomark _))
        (pss_cons (ps_asg (pe_op op_mod (pe_callTy call_int1 rfl mi (by decide +kernel) (pa_cons (pe_op op_add (pe_op op_mul (lx (pv 0) pe_int) pe_int) pe_int) pa_nil)) pe_int) (pg_sub (pv 0) pe_int set_list))
        (pss_one (ps_ret (pe_op op_mod (pe_callTy call_int1 rfl mi (by decide +kernel) (pa_cons (pe_op op_fdiv (lx (pv 0) pe_int) pe_int) pa_nil)) (pv 1))))) pss_nil)
      (pss_cons (ps_set (i := 3) scTaken.nd rfl (.inl rfl) (lx (lx (pv 0) pe_int) (pe_op op_sub (lx (pv 0) pe_int) pe_int)))
      (pss_cons (ps_asg (pe_op op_mod (pe_callTy call_int1 rfl mi (by decide +kernel) (pa_cons (pe_op op_add (pe_op op_add (pe_op op_mul (lx (pv 0) pe_int) pe_int) (pv 3)) pe_int) pa_nil)) pe_int) (pg_sub (pv 0) pe_int set_list))
      (pss_cons (ps_if (pt_cmpR op_ge (pv 3) (pe_op op_pow pe_int pe_int) (nomark _)) (pss_one (ps_asg (pe_op op_fdiv (pv 3) (pv 1)) (pg_sub (pv 0) pe_int set_list))) pss_nil)
      (pss_one (ps_ret (pe_op op_mod (pe_callTy call_int1 rfl mi (by decide +kernel) (pa_cons (pv 3) pa_nil)) (pv 1))))))))), ?_⟩
    have md : ∀ x : Int, 0 ≤ x % many ∧ x % many < many := fun x => ⟨Int.emod_nonneg _ (by omega), Int.emod_lt_of_pos _ hm0⟩
    refine ⟨_, rfl, r, _, 3, _, rfl, rfl, SqL.of hr1, atI_nat (j := 3) rfl, _, _, rfl, rfl, _, rfl, ?_⟩
    by_cases z : rest > 0
    · rw [decide_eq_true z]
      refine ⟨_, rfl, r, _, 3, _, rfl, rfl, SqL.of hr1, atI_nat (j := 3) rfl, .inl ⟨_, rfl, _, rfl, _, _, rfl, rfl, hm0, ?_⟩⟩
      refine ⟨_, rfl, r, _, 3, _, rfl, rfl, SqL.of hr1, atI_nat (j := 3) rfl, _, rfl, _, _, rfl, rfl, ⟨hm0, hm1⟩, ?_⟩
      refine ⟨_, rfl, r, _, 3, 3, rfl, rfl, hr1, rfl, ?_⟩
      have e1 : Ext [r] H (upd H r (.lst [.ref sc, .int (i : Nat), .int seed, .int (rest / many)])) := Ext.put (by simp) hr1
      exact ⟨_, rfl, q _ _ e1 ⟨i, seed, rest / many, upd_same, row_keep hr1 hsc e1⟩ (md rest).1 (md rest).2⟩
    · rw [decide_eq_false z]
      refine ⟨_, rfl, r, _, 1, _, rfl, rfl, SqL.of hr1, atI_nat (j := 1) rfl, _, _, rfl, rfl, _, rfl, r, _, 1, 1, rfl, rfl, hr1, rfl, ?_⟩
      have e1 : Ext [r] H (upd H r (.lst [.ref sc, .int ((i : Nat) + 1 : Int), .int seed, .int rest])) := Ext.put (by simp) hr1
      have h1 : upd H r (.lst [.ref sc, .int ((i : Nat) + 1 : Int), .int seed, .int rest]) r = some (.lst [.ref sc, .int ((i : Nat) + 1 : Int), .int seed, .int rest]) := upd_same
      have hsc1 := row_keep hr1 hsc e1
      generalize hH1 : upd H r (.lst [.ref sc, .int ((i : Nat) + 1 : Int), .int seed, .int rest]) = H1 at e1 h1 hsc1
      show tSeq _ _ _ _ (upd H r (.lst [.ref sc, .int ((i : Nat) + 1 : Int), .int seed, .int rest]))
      rw [hH1]
      refine ⟨_, rfl, r, _, 1, _, rfl, rfl, SqL.of h1, atI_nat (j := 1) rfl, _, rfl, r, _, 0, _, rfl, rfl, SqL.of h1, atI_0, sc, _, rfl, .inl hsc1, _, _, rfl, rfl, _, rfl, ?_⟩
      by_cases z2 : (i : Int) + 1 > (((ns.map V.int).length : Nat) : Int)
      · rw [decide_eq_true z2]
        refine ⟨_, rfl, r, _, 2, _, rfl, rfl, SqL.of h1, atI_nat (j := 2) rfl, _, _, rfl, rfl, .inr ⟨by decide, by decide⟩, _, _, rfl, rfl, .inl ⟨_, rfl, _, _, rfl, rfl, (by decide : (0 : Int) < 2147483647), _, rfl, r, _, 2, 2, rfl, rfl, h1, rfl, ?_⟩⟩
        have e2 := e1.trans (Ext.put (S := [r]) (o := .lst [.ref sc, .int ((i : Nat) + 1 : Int), .int ((seed * 48271 + 11) % 2147483647), .int rest]) (by simp) h1)
        refine ⟨_, rfl, r, _, 2, _, rfl, rfl, SqL.of upd_same, atI_nat (j := 2) rfl, _, _, rfl, rfl, ⟨by decide, by decide⟩, .inl ⟨_, rfl, _, rfl, _, _, rfl, rfl, hm0, ?_⟩⟩
        exact q _ _ e2 ⟨i + 1, _, rest, upd_same, row_keep hr1 hsc e2⟩ (md _).1 (md _).2
      · rw [decide_eq_false z2]
        rw [List.length_map] at z2
        have hi : i < ns.length := by omega
        have ecell : atI (ns.map V.int) ((i : Int) + 1 - 1) = some (V.int ns[i]) := by
          rw [Int.add_sub_cancel]
          exact atI_nat (by rw [List.getElem?_map, List.getElem?_eq_getElem hi]; rfl)
        refine ⟨_, rfl, r, _, 0, _, rfl, rfl, SqL.of h1, atI_0, _, rfl, r, _, 1, _, rfl, rfl, SqL.of h1, atI_nat (j := 1) rfl, _, _, rfl, rfl, sc, _, _, _, rfl, rfl, hsc1, ecell, ?_⟩
        refine ⟨_, rfl, r, _, 2, _, rfl, rfl, SqL.of h1, atI_nat (j := 2) rfl, _, _, rfl, rfl, .inr ⟨by decide, by decide⟩, _, rfl, _, _, rfl, rfl, _, _, rfl, rfl, .inl ⟨_, rfl, _, _, rfl, rfl, (by decide : (0 : Int) < 2147483647), _, rfl, r, _, 2, 2, rfl, rfl, h1, rfl, ?_⟩⟩
        have e2 := e1.trans (Ext.put (S := [r]) (o := .lst [.ref sc, .int ((i : Nat) + 1 : Int), .int ((seed * 48271 + ns[i] + 11) % 2147483647), .int rest]) (by simp) h1)
        refine ⟨_, rfl, _, _, rfl, rfl, ⟨by decide, by decide, by decide⟩, _, _, rfl, rfl, _, rfl, ?_⟩
        by_cases z3 : ns[i] ≥ (10 : Int) ^ (18 : Int).toNat
        · rw [decide_eq_true z3]
          refine ⟨_, rfl, _, rfl, _, _, rfl, rfl, ⟨hm0, hm1⟩, _, rfl, r, _, 3, 3, rfl, rfl, upd_same, rfl, ?_⟩
          have e3 := e2.trans (Ext.put (S := [r]) (o := .lst [.ref sc, .int ((i : Nat) + 1 : Int), .int ((seed * 48271 + ns[i] + 11) % 2147483647), .int (ns[i] / many)]) (by simp) upd_same)
          refine ⟨_, rfl, .inl ⟨_, rfl, _, rfl, _, _, rfl, rfl, hm0, ?_⟩⟩
          exact q _ _ e3 ⟨i + 1, _, _, upd_same, row_keep hr1 hsc e3⟩ (md _).1 (md _).2
        · rw [decide_eq_false z3]
          refine ⟨_, rfl, .inl ⟨_, rfl, _, rfl, _, _, rfl, rfl, hm0, ?_⟩⟩
          exact q _ _ e2 ⟨i + 1, _, rest, upd_same, row_keep hr1 hsc e2⟩ (md _).1 (md _).2
/-! ### _law_pick -/
theorem scPick : FnScope ["_law_row", "_law_things"] ["_law_row", "_law_things"] (defScope sPick) := ⟨rfl, rfl, rfl, by decide +kernel, rfl, by decide +kernel, by decide +kernel⟩
def spPick (K : PySem.W.Frag) : Sp := fun vs H Q _ => ∃ (r th sc : Addr) (ns ls : List Int), vs = [.ref r, .ref th] ∧ RowAt K sc ns H r ∧ H th = some (.lst (ls.map V.int)) ∧ th ≠ r ∧ 0 < ls.length ∧ ls.length < 1000 ∧ ∀ H' x, Ext [r] H H' → RowAt K sc ns H' r → x ∈ ls → Q (.int x) H'
theorem ok_pick {f fT : Addr} {fd fdT : FuncData} (F : Fun K "_law_pick" "_law_pick" sPick f fd) (ml : mg "len" = none)
    (GT : FnOk P w K mg base CX0 1 fT fdT ["_law_row", "_law_many"] (spTaken K)) (kT : PySem.W.keepIn K (.ref fT) = true) (bT : Binds K fdT ["_law_row", "_law_many"] []) (gT : mg "_law_taken" = some (.ref fT)) :
    FnOk P w K mg base CX0 2 f fd ["_law_row", "_law_things"] (spPick K) := by
  refine F.ok scPick (fun vs H Q E h => ?_) (fun cdv A outer s H vs Q E hr h => ?_)
  · obtain ⟨r, th, sc, ns, ls, rfl, _⟩ := h
    rfl
  · obtain ⟨r, th, sc, ns, ls, rfl, hR, hth, hne, hl0, hl1, q⟩ := h
    refine ⟨_, pss_one (ps_ret (lx (pv 1) (pe_call GT hr rfl gT kT bT .nil pass0 (pa_cons (pv 0) (pa_cons (pe_callB call_len_seq rfl ml PySem.boot_len (pa_cons (pv 1) pa_nil)) pa_nil))))), ?_⟩
    refine ⟨_, rfl, _, rfl, _, rfl, th, _, rfl, .inl (SqL.of hth), r, sc, ns, _, rfl, hR, ?_, ?_, fun H1 x e1 hR1 x0 x1 => ?_⟩
    · rw [List.length_map]; omega
    · rw [List.length_map]; omega
    · rw [List.length_map] at x1
      obtain ⟨k, rfl⟩ : ∃ k : Nat, x = (k : Int) := ⟨x.toNat, by omega⟩
      have hk : k < ls.length := by omega
      refine ⟨th, _, k, _, rfl, rfl, SqL.of (e1.lst (by simpa using hne) hth), atI_nat (by rw [List.getElem?_map, List.getElem?_eq_getElem hk]; rfl), q _ _ e1 hR1 (List.getElem_mem hk)⟩
end
end PWK
namespace PWK
open PySem PySem.Spec PyProof.Rows L2
theorem fdiv_sub {t g : Int} (hg : g ≠ 0) (h : g ∣ t) : 0 - t.fdiv g = t.fdiv (0 - g) := by
  obtain ⟨k, rfl⟩ := h
  rw [Int.mul_fdiv_cancel_left _ hg, show g * k = (0 - g) * (-k) by rw [Int.zero_sub, Int.neg_mul_neg], Int.mul_fdiv_cancel_left _ (by omega)]
  omega
section
variable {P : Program} {w : World} {K : PySem.W.Frag} {mg : Str → Option Value} {base : Heap}
theorem scLRatio : FnScope ["_law_top", "_law_bottom", "_law_one", "_law_other"] ["_law_top", "_law_bottom"] (defScope sLRatio) := ⟨rfl, rfl, rfl, by decide +kernel, rfl, by decide +kernel, by decide +kernel⟩
theorem ok_lratio {f : Addr} {fd : FuncData} (F : Fun K "_law_ratio" "_law_ratio" sLRatio f fd) (ma : mg "abs" = none) (mi : mg "int" = none) : FnOk P w K mg base CX0 1 f fd ["_law_top", "_law_bottom"] spRatio := by
  refine F.ok scLRatio (fun vs H Q E h => ?_) (fun cdv A outer s H vs Q E hr h => ?_)
  · obtain ⟨t, b, rfl, _⟩ := h
    rfl
  · obtain ⟨t, b, rfl, hb, hl, q⟩ := h
    refine ⟨_, pss_cons (ps_par (i := 2) (j := 3) rfl scLRatio.nd rfl rfl (by decide) rfl rfl (pa_cons (pe_callB call_abs rfl ma (by decide +kernel) (pa_cons (pv 0) pa_nil)) (pa_cons (pe_callB call_abs rfl ma (by decide +kernel) (pa_cons (pv 1) pa_nil)) pa_nil)) rfl)
      (pss_cons (ps_while PassesOwn.never (pt_cmpR op_ne (pv 3) pe_int (nomark _))
        (pss_one (ps_par (i := 2) (j := 3) rfl scLRatio.nd rfl rfl (by decide) rfl rfl (pa_cons (pv 3) (pa_cons (pe_op op_mod (pe_callTy call_int1 rfl mi (by decide +kernel) (pa_cons (pv 2) pa_nil)) (pv 3)) pa_nil)) rfl)))
      (pss_one (ps_ret (pe_ifExp (pt_cmpR op_gt (pv 1) pe_int (nomark _)) (pe_tup (pa_cons (pe_op op_fdivX (pv 0) (pv 2)) (pa_cons (pe_op op_fdivX (pv 1) (pv 2)) pa_nil)))
        (pe_tup (pa_cons (pe_op op_sub pe_int (pe_op op_fdivX (pv 0) (pv 2))) (pa_cons (pe_op op_sub pe_int (pe_op op_fdivX (pv 1) (pv 2))) pa_nil))))))), ?_⟩
    refine ⟨_, rfl, t, rfl, _, rfl, b, rfl, _, _, rfl, ?_⟩
    refine ⟨fun n σ H' => H' = H ∧ ∃ x y : Nat, σ = [some (.int t), some (.int b), some (.int (x : Nat)), some (.int (y : Nat))] ∧ x.gcd y = t.natAbs.gcd b.natAbs ∧ y ≤ n, ?_, ?_⟩
    · have et : ∀ i : Int, (if i < 0 then -i else i) = ((i.natAbs : Nat) : Int) := fun i => by split <;> omega
      exact ⟨b.natAbs, rfl, t.natAbs, b.natAbs, by rw [et t, et b]; rfl, rfl, Nat.le_refl _⟩
    · rintro n σ H0 ⟨rfl, x, y, rfl, hg, hn⟩
      refine ⟨_, rfl, rfl, _, rfl, ?_⟩
      by_cases hy : y = 0
      · subst hy
        rw [show (!decide (V.int ((0 : Nat) : Int) = V.int 0)) = false from rfl]
        rw [Nat.gcd_zero_right] at hg
        subst hg
        have hgp : 0 < t.natAbs.gcd b.natAbs := Nat.gcd_pos_of_pos_right _ (by omega)
        have hgl : t.natAbs.gcd b.natAbs ≤ b.natAbs := Nat.gcd_le_right _ (by omega)
        have h5 : (((t.natAbs.gcd b.natAbs : Nat) : Int)).natAbs.log2 < 9000 := log_lt (by rw [Int.natAbs_natCast]; exact Nat.lt_of_le_of_lt hgl hl) (by decide)
        have h6 : ((t.natAbs.gcd b.natAbs : Nat) : Int) ≠ 0 := by omega
        refine ⟨_, rfl, _, _, rfl, rfl, _, rfl, ite2 (fun c => ?_) (fun c => ?_)⟩
        · have c' : 0 < b := of_decide_eq_true c
          obtain ⟨_, _, h3, h4⟩ := PW.ratio_val (t := t) hb (c := ((t.natAbs.gcd b.natAbs : Nat) : Int)) (by rw [if_pos c'])
          refine ⟨_, rfl, _, rfl, _, _, rfl, rfl, ⟨h6, h5⟩, _, rfl, _, rfl, _, _, rfl, rfl, ⟨h6, h5⟩, two_le, fun p hp => ?_⟩
          refine q _ _ (Ext.new hp) ⟨p, rfl, ?_⟩
          rw [upd_same, ← h3, ← h4]
        · have c' : ¬ 0 < b := of_decide_eq_false (Bool.eq_false_iff.mpr c)
          obtain ⟨_, _, h3, h4⟩ := PW.ratio_val (t := t) hb (c := 0 - ((t.natAbs.gcd b.natAbs : Nat) : Int)) (by rw [if_neg c'])
          have d1 : ((t.natAbs.gcd b.natAbs : Nat) : Int) ∣ t := Int.ofNat_dvd_left.mpr (Nat.gcd_dvd_left _ _)
          have d2 : ((t.natAbs.gcd b.natAbs : Nat) : Int) ∣ b := Int.ofNat_dvd_left.mpr (Nat.gcd_dvd_right _ _)
          refine ⟨_, rfl, _, rfl, _, _, rfl, rfl, ⟨h6, h5⟩, _, _, rfl, rfl, _, rfl, _, rfl, _, _, rfl, rfl, ⟨h6, h5⟩, _, _, rfl, rfl, two_le, fun p hp => ?_⟩
          refine q _ _ (Ext.new hp) ⟨p, rfl, ?_⟩
          rw [upd_same, ← h3, ← h4, ← fdiv_sub h6 d1, ← fdiv_sub h6 d2]
      · rw [show (!decide (V.int ((y : Nat) : Int) = V.int 0)) = true by
          rw [decide_eq_false (fun z => hy (by have := V.int.inj z; omega))]; rfl]
        refine ⟨fun σ' H' => ∃ m', m' < n ∧ H' = H0 ∧ ∃ x y : Nat, σ' = [some (.int t), some (.int b), some (.int (x : Nat)), some (.int (y : Nat))] ∧ x.gcd y = t.natAbs.gcd b.natAbs ∧ y ≤ m', fun _ _ h => h, ?_⟩
        refine ⟨_, rfl, _, rfl, .inl ⟨_, rfl, _, rfl, _, _, rfl, rfl, (show (0 : Int) < ((y : Nat) : Int) by omega), _, _, rfl, ?_⟩⟩
        refine ⟨x % y, Nat.lt_of_lt_of_le (Nat.mod_lt _ (by omega)) hn, rfl, y, x % y, by rw [Int.natCast_emod]; rfl, ?_, Nat.le_refl _⟩
        rw [← hg, Nat.gcd_comm x y, Nat.gcd_rec y x, Nat.gcd_comm]
theorem scL2p : FnScope ["_law_one", "_law_other"] ["_law_one", "_law_other"] (defScope sLPlus) := ⟨rfl, rfl, rfl, by decide +kernel, rfl, by decide +kernel, by decide +kernel⟩
theorem scL2b : FnScope ["_law_one", "_law_other"] ["_law_one", "_law_other"] (defScope sLBy) := ⟨rfl, rfl, rfl, by decide +kernel, rfl, by decide +kernel, by decide +kernel⟩
theorem ok_lplus {f fR : Addr} {fd fdR : FuncData} (F : Fun K "_law_plus" "_law_plus" sLPlus f fd) (GR : FnOk P w K mg base CX0 1 fR fdR ["_law_top", "_law_bottom"] spRatio) (kR : PySem.W.keepIn K (.ref fR) = true) (bR : Binds K fdR ["_law_top", "_law_bottom"] []) (gR : mg "_law_ratio" = some (.ref fR)) :
    FnOk P w K mg base CX0 2 f fd ["_law_one", "_law_other"] (spBin (fun x y => x + y) fun _ _ => True) := by
  refine F.ok scL2p (fun vs H Q E h => ?_) (fun cdv A outer s H vs Q E hr h => ?_)
  · obtain ⟨v1, v2, _, _, _, _, rfl, _⟩ := h
    rfl
  · obtain ⟨v1, v2, x, y, a, b, rfl, ⟨a1, rfl, h1⟩, ⟨a2, rfl, h2⟩, bx, by_, _, hl, q⟩ := h
    refine ⟨_, pss_one (ps_ret (pe_call GR hr (by rfl) gR kR bR .nil pass0 (pa_cons (pe_op op_add (pe_op op_mulW (tx (pv 0) pe_int) (tx (pv 1) pe_int)) (pe_op op_mulW (tx (pv 1) pe_int) (tx (pv 0) pe_int)))
      (pa_cons (pe_op op_mulW (tx (pv 0) pe_int) (tx (pv 1) pe_int)) pa_nil)))), ?_⟩
    refine ⟨_, rfl, a1, _, 0, _, rfl, rfl, SqT.of h1, atI_0, _, rfl, a2, _, 1, _, rfl, rfl, SqT.of h2, atI_1, _, _, rfl, rfl, mw bx.1 (dlt by_) hl, ?_⟩
    refine ⟨_, rfl, a2, _, 0, _, rfl, rfl, SqT.of h2, atI_0, _, rfl, a1, _, 1, _, rfl, rfl, SqT.of h1, atI_1, _, _, rfl, rfl, mw by_.1 (dlt bx) (swp hl), _, _, rfl, rfl, ?_⟩
    refine ⟨_, rfl, a1, _, 1, _, rfl, rfl, SqT.of h1, atI_1, _, rfl, a2, _, 1, _, rfl, rfl, SqT.of h2, atI_1, _, _, rfl, rfl, mw (dlt bx) (dlt by_) hl, ?_⟩
    refine ⟨_, _, rfl, dne x y, lim (PW.natAbs_mul_lt (dlt bx) (dlt by_)) hl, fun H' v e hv => ?_⟩
    rw [PW.plus_eq] at hv
    exact q H' v e hv
theorem ok_lby {f fR : Addr} {fd fdR : FuncData} (F : Fun K "_law_by" "_law_by" sLBy f fd) (GR : FnOk P w K mg base CX0 1 fR fdR ["_law_top", "_law_bottom"] spRatio) (kR : PySem.W.keepIn K (.ref fR) = true) (bR : Binds K fdR ["_law_top", "_law_bottom"] []) (gR : mg "_law_ratio" = some (.ref fR)) :
    FnOk P w K mg base CX0 2 f fd ["_law_one", "_law_other"] (spBin (fun x y => x * y) fun _ _ => True) := by
  refine F.ok scL2b (fun vs H Q E h => ?_) (fun cdv A outer s H vs Q E hr h => ?_)
  · obtain ⟨v1, v2, _, _, _, _, rfl, _⟩ := h
    rfl
  · obtain ⟨v1, v2, x, y, a, b, rfl, ⟨a1, rfl, h1⟩, ⟨a2, rfl, h2⟩, bx, by_, _, hl, q⟩ := h
    refine ⟨_, pss_one (ps_ret (pe_call GR hr (by rfl) gR kR bR .nil pass0 (pa_cons (pe_op op_mulW (tx (pv 0) pe_int) (tx (pv 1) pe_int))
      (pa_cons (pe_op op_mulW (tx (pv 0) pe_int) (tx (pv 1) pe_int)) pa_nil)))), ?_⟩
    refine ⟨_, rfl, a1, _, 0, _, rfl, rfl, SqT.of h1, atI_0, _, rfl, a2, _, 0, _, rfl, rfl, SqT.of h2, atI_0, _, _, rfl, rfl, mw bx.1 by_.1 hl, ?_⟩
    refine ⟨_, rfl, a1, _, 1, _, rfl, rfl, SqT.of h1, atI_1, _, rfl, a2, _, 1, _, rfl, rfl, SqT.of h2, atI_1, _, _, rfl, rfl, mw (dlt bx) (dlt by_) hl, ?_⟩
    refine ⟨_, _, rfl, dne x y, lim (PW.natAbs_mul_lt (dlt bx) (dlt by_)) hl, fun H' v e hv => ?_⟩
    rw [PW.by_eq] at hv
    exact q H' v e hv
theorem scLSum : FnScope ["_law_some", "_law_found", "_law_one"] ["_law_some"] (defScope sLSum) := ⟨rfl, rfl, rfl, by decide +kernel, rfl, by decide +kernel, by decide +kernel⟩
theorem ok_lsum {f fP : Addr} {fd fdP : FuncData} (F : Fun K "_law_sum" "_law_sum" sLSum f fd) (GP : FnOk P w K mg base CX0 2 fP fdP ["_law_one", "_law_other"] (spBin (fun x y => x + y) fun _ _ => True)) (kP : PySem.W.keepIn K (.ref fP) = true) (bP : Binds K fdP ["_law_one", "_law_other"] []) (gP : mg "_law_plus" = some (.ref fP)) :
    FnOk P w K mg base CX0 3 f fd ["_law_some"] spTotal := by
  refine F.ok scLSum (fun vs H Q E h => ?_) (fun cdv A outer s H vs Q E hr h => ?_)
  · obtain ⟨a, _, _, _, _, rfl, _⟩ := h
    rfl
  · obtain ⟨a, xs, n, k, g, rfl, hA, hR, hk, k0, hlim, hn, q⟩ := h
    refine ⟨_, pss_cons (ps_set (i := 1) scLSum.nd rfl (.inl rfl) (pe_tup (pa_cons pe_int (pa_cons pe_int pa_nil))))
      (pss_cons (ps_for PassesOwn.never rfl (pi_list (pv 0)) (pg_name (i := 2) scLSum.nd rfl (.inl rfl)) (pss_one (ps_set (i := 1) scLSum.nd rfl (.inl rfl) (pe_call GP hr (by rfl) gP kP bP .nil pass0 (pa_cons (pv 1) (pa_cons (pv 2) pa_nil))))))
      (pss_one (ps_ret (pv 1)))), ?_⟩
    refine ⟨two_le, fun p hp => ?_⟩
    have e1 : Ext [] H (upd H p (.tup [.int 0, .int 1])) := Ext.new hp
    refine ⟨_, rfl, a, rfl, ⟨xs, SqL.of (e1.lst0 hA)⟩, for_list (xs := xs) (fun i σ H' => ∃ v y2, σ = [some (.ref a), some v, y2] ∧ Ext [] H H' ∧ Rt H' v (PW.sm i g)) ⟨.ref p, none, rfl, e1, p, rfl, upd_same⟩
      (fun i σ H' _ ⟨v, y2, _, e, _⟩ => SqL.of (e.lst0 hA)) (fun i x σ H' hx ⟨v, y2, hσ, e, hv⟩ => ?_) (fun σ H' ⟨v, y2, hσ, e, hv⟩ => ?_)⟩
    · subst hσ
      have hi := hR.lt hx
      have hbk := PW.Bk.sm (f := g) (k := k) (n := i) fun j hj => hk j (by omega)
      have hle : (i + 1) * (k + 1) ≤ (n + 1) * (k + 1) := Nat.mul_le_mul_right _ (by omega)
      rw [Nat.add_mul, Nat.one_mul] at hle
      refine ⟨_, rfl, _, rfl, v, x, PW.sm i g, g i, _, k, rfl, hv, (hR.2 i x hx).ext e, hbk, hk i hi, trivial, ⟨by omega, k0, by omega⟩, fun H2 v2 e2 hv2 => ?_⟩
      exact ⟨v2, _, rfl, e.trans e2, hv2⟩
    · subst hσ
      rw [hR.1] at hv
      exact ⟨_, rfl, q _ _ e hv⟩
end
end PWK
namespace PWK
open PySem PySem.Spec PyProof.Rows L2
section
variable {P : Program} {w : World} {K : PySem.W.Frag} {mg : Str → Option Value} {base : Heap}
abbrev nAlike : List Str := ["_law_found", "_law_due", "_law_k"]
theorem scAlike : FnScope nAlike ["_law_found", "_law_due"] (defScope sAlike) := ⟨rfl, rfl, rfl, by decide +kernel, rfl, by decide +kernel, by decide +kernel⟩
def spAlike0 : Sp := fun vs H Q _ => ∃ i : Int, vs = [.int i, .int i] ∧ ∀ H', Ext [] H H' → Q (.bl true) H'
theorem ok_alike0 {f : Addr} {fd : FuncData} (F : Fun K "_law_alike" "_law_alike" sAlike f fd) (mI : mg "isinstance" = none) (mt : mg "tuple" = none) (ml : mg "list" = none) (ms : mg "str" = none) (mi : mg "int" = none) (mb : mg "bool" = none) :
    FnOk P w K mg base CX0 1 f fd ["_law_found", "_law_due"] spAlike0 := by
  refine F.ok scAlike (fun vs H Q E h => ?_) (fun cdv A outer s H vs Q E hr h => ?_)
  · obtain ⟨i, rfl, _⟩ := h
    rfl
  · obtain ⟨i, rfl, q⟩ := h
    refine ⟨_, pss_cons (ps_if (pt_val (pe_callB call_isiT rfl mI PyProof.Rows.boot_isinstance (pa_cons (pv 1) (pa_cons (pe_tup (pa_cons (pe_bltn rfl mt (by decide +kernel) (show RelV (.ty "tuple") (.type "tuple") from rfl)) (pa_cons (pe_bltn rfl ml (by decide +kernel) (show RelV (.ty "list") (.type "list") from rfl)) pa_nil))) pa_nil)))) pss_never pss_nil)
      (pss_cons (ps_if (PW.pt (pw_or (pt_cmpR op_isN (pv 1) pe_non (nomark _)) (pw_or1 (pt_val (pe_callB call_isi rfl mI PyProof.Rows.boot_isinstance (pa_cons (pv 1) (pa_cons (pe_bltn rfl ms (by decide +kernel) (show RelV (.ty "str") (.type "str") from rfl)) pa_nil))))))) pss_never pss_nil)
      (pss_one (ps_ret (pe_and (pe_callB call_isi rfl mI PyProof.Rows.boot_isinstance (pa_cons (pv 0) (pa_cons (pe_bltn rfl mi (by decide +kernel) (show RelV (.ty "int") (.type "int") from rfl)) pa_nil)))
        (pe_and (pe_cmpR op_eq (pe_callB call_isi rfl mI PyProof.Rows.boot_isinstance (pa_cons (pv 0) (pa_cons (pe_bltn rfl mb (by decide +kernel) (show RelV (.ty "bool") (.type "bool") from rfl)) pa_nil))) (pe_callB call_isi rfl mI PyProof.Rows.boot_isinstance (pa_cons (pv 1) (pa_cons (pe_bltn rfl mb (by decide +kernel) (show RelV (.ty "bool") (.type "bool") from rfl)) pa_nil))) (nomark _))
          (pe_one (pe_cmpR op_eq (pv 0) (pv 1) (nomark _)))))))), ?_⟩
    refine ⟨_, rfl, two_le, fun p hp => ⟨.int i, p, [.ty "tuple", .ty "list"], .type "int", [.type "tuple", .type "list"], false, rfl, upd_same, .cons (.ty _) (.cons (.ty _) .nil), .base (.int i), rfl, false, rfl, ?_⟩⟩
    refine ⟨_, rfl, rfl, _, rfl, ?_⟩
    refine ⟨_, rfl, .int i, .ty "str", .type "int", .type "str", false, rfl, .ty _, .base (.int i), rfl, false, rfl, ?_⟩
    refine ⟨_, rfl, .int i, .ty "int", .type "int", .type "int", true, rfl, .ty _, .base (.int i), rfl, true, rfl, ?_⟩
    refine ⟨_, rfl, .int i, .ty "bool", .type "int", .type "bool", false, rfl, .ty _, .base (.int i), rfl, _, rfl, .int i, .ty "bool", .type "int", .type "bool", false, rfl, .ty _, .base (.int i), rfl, rfl, true, rfl, ?_⟩
    refine ⟨_, rfl, _, rfl, rfl, ?_⟩
    show Q (V.bl (decide (V.int i = V.int i))) _
    rw [decide_eq_true rfl]
    exact q _ (Ext.new hp)
def spAlike : Sp := fun vs H Q _ => ∃ (a b : Addr) (i j : Int), vs = [.ref a, .ref b] ∧ H a = some (.tup [.int i, .int j]) ∧ H b = some (.tup [.int i, .int j]) ∧ ∀ H', Ext [] H H' → Q (.bl true) H'
theorem ok_alike {f : Addr} {fd : FuncData} (F : Fun K "_law_alike" "_law_alike" sAlike f fd) (mI : mg "isinstance" = none) (mt : mg "tuple" = none) (ml : mg "list" = none) (ms : mg "str" = none) (mi : mg "int" = none) (mb : mg "bool" = none) (mn : mg "len" = none) (mr : mg "range" = none)
    (bF : Binds K fd ["_law_found", "_law_due"] []) (gF : mg "_law_alike" = some (.ref f)) :
    FnOk P w K mg base CX0 2 f fd ["_law_found", "_law_due"] spAlike := by
  have G0 : FnOk P w K mg base CX0 1 f fd ["_law_found", "_law_due"] spAlike0 := ok_alike0 F mI mt ml ms mi mb
  refine F.ok scAlike (fun vs H Q E h => ?_) (fun cdv A outer s H vs Q E hr h => ?_)
  · obtain ⟨a, b, i, j, rfl, _⟩ := h
    rfl
  · obtain ⟨a, b, i, j, rfl, ha, hb, q⟩ := h
    refine ⟨_, pss_cons (ps_if (pt_val (pe_callB call_isiT rfl mI PyProof.Rows.boot_isinstance (pa_cons (pv 1) (pa_cons (pe_tup (pa_cons (pe_bltn rfl mt (by decide +kernel) (show RelV (.ty "tuple") (.type "tuple") from rfl)) (pa_cons (pe_bltn rfl ml (by decide +kernel) (show RelV (.ty "list") (.type "list") from rfl)) pa_nil))) pa_nil))))
        (pss_cons (ps_if (PW.pt (pw_or (pt_not (pt_val (pe_callB call_isiT rfl mI PyProof.Rows.boot_isinstance (pa_cons (pv 0) (pa_cons (pe_tup (pa_cons (pe_bltn rfl mt (by decide +kernel) (show RelV (.ty "tuple") (.type "tuple") from rfl)) (pa_cons (pe_bltn rfl ml (by decide +kernel) (show RelV (.ty "list") (.type "list") from rfl)) pa_nil))) pa_nil)))))
            (pw_or1 (pt_cmpR op_ne (pe_callB call_isi rfl mI PyProof.Rows.boot_isinstance (pa_cons (pv 0) (pa_cons (pe_bltn rfl ml (by decide +kernel) (show RelV (.ty "list") (.type "list") from rfl)) pa_nil))) (pe_callB call_isi rfl mI PyProof.Rows.boot_isinstance (pa_cons (pv 1) (pa_cons (pe_bltn rfl ml (by decide +kernel) (show RelV (.ty "list") (.type "list") from rfl)) pa_nil))) (nomark _))))) pss_never pss_nil)
        (pss_cons (ps_if (pt_cmpR op_ne (pe_callB call_len_seq rfl mn PySem.boot_len (pa_cons (pv 0) pa_nil)) (pe_callB call_len_seq rfl mn PySem.boot_len (pa_cons (pv 1) pa_nil)) (nomark _)) pss_never pss_nil)
        (pss_one (ps_ret (pe_cmpR (op_eqD hr.units) (pe_lc (own := [("_law_k", 2)]) (g := gName 2) rfl scAlike.nd (pi_range1 rfl mr (pa_cons (pe_callB call_len_seq rfl mn PySem.boot_len (pa_cons (pv 1) pa_nil)) pa_nil)) (blkOk_by (N := nAlike) (sc := defScope sAlike) (by decide +kernel))
            (fun _ _ _ _ _ => pg_name (i := 2) scAlike.nd rfl (.inl rfl))
            (fun _ _ _ _ _ => pts_one (pt_not (pt_val (pe_call G0 hr rfl gF F.kp bF .nil pass0 (pa_cons (txB K (pv 0) (pv 2)) (pa_cons (txB K (pv 1) (pv 2)) pa_nil))))))
            (fun _ _ _ _ _ => pv 2)) (pe_lst pa_nil) (nomark _)))))) pss_nil)
      pss_never, ?_⟩
    refine ⟨_, rfl, two_le, fun p hp => ⟨.ref b, p, [.ty "tuple", .ty "list"], .type "tuple", [.type "tuple", .type "list"], true, rfl, upd_same, .cons (.ty _) (.cons (.ty _) .nil), .base (.tup ((Ext.new (S := []) hp).tup _ _ hb)), rfl, true, rfl, ?_⟩⟩
    have e1 : Ext [] H (upd H p (.tup [.ty "tuple", .ty "list"])) := Ext.new hp
    generalize upd H p (.tup [.ty "tuple", .ty "list"]) = H1 at e1
    refine ⟨_, rfl, two_le, fun p2 hp2 => ⟨.ref a, p2, [.ty "tuple", .ty "list"], .type "tuple", [.type "tuple", .type "list"], true, rfl, upd_same, .cons (.ty _) (.cons (.ty _) .nil), .base (.tup ((Ext.new (S := []) hp2).tup _ _ (e1.tup _ _ ha))), rfl, true, rfl, ?_⟩⟩
    have e2 : Ext [] H (upd H1 p2 (.tup [.ty "tuple", .ty "list"])) := e1.trans (Ext.new hp2)
    generalize upd H1 p2 (.tup [.ty "tuple", .ty "list"]) = H2 at e2
    refine ⟨_, rfl, .ref a, .ty "list", .type "tuple", .type "list", false, rfl, .ty _, .base (.tup (e2.tup _ _ ha)), rfl, _, rfl, .ref b, .ty "list", .type "tuple", .type "list", false, rfl, .ty _, .base (.tup (e2.tup _ _ hb)), rfl, rfl, _, rfl, ?_⟩
    rw [show (!decide (V.bl false = V.bl false)) = false from rfl]
    refine ⟨_, rfl, a, _, rfl, .inr (SqT.of (e2.tup _ _ ha)), _, rfl, b, _, rfl, .inr (SqT.of (e2.tup _ _ hb)), rfl, _, rfl, ?_⟩
    rw [show (!decide (V.int (([V.int i, V.int j] : List V).length : Nat) = V.int (([V.int i, V.int j] : List V).length : Nat))) = false from rfl]
    refine ⟨_, rfl, b, _, rfl, .inr (SqT.of (e2.tup _ _ hb)), 2, rfl, by omega, by omega, ?_⟩
    refine lc_some walk_range0 (fun k => false) (fun k => V.int (k : Nat)) yfn_ext (fun _ _ => trivial) (by decide) (fun k x H3 H4 hk e y R1 R0 k1 k0 => ?_) (fun D H3 hD e3 hL => ?_)
    · obtain ⟨rfl, rfl⟩ := y
      have ea := e.tup _ _ (e2.tup _ _ ha)
      have eb := e.tup _ _ (e2.tup _ _ hb)
      have hk2 : k < 2 := hk
      have hk3 : k = 0 ∨ k = 1 := by omega
      rcases hk3 with rfl | rfl
      · exact ⟨rfl, _, rfl, _, rfl, a, _, 0, _, rfl, rfl, SqT.of ea, atI_0, _, rfl, _, rfl, b, _, 0, _, rfl, rfl, SqT.of eb, atI_0, i, rfl, fun H5 e5 => ⟨true, rfl, k0 H5 rfl e5⟩⟩
      · exact ⟨rfl, _, rfl, _, rfl, a, _, 1, _, rfl, rfl, SqT.of ea, atI_1, _, rfl, _, rfl, b, _, 1, _, rfl, rfl, SqT.of eb, atI_1, j, rfl, fun H5 e5 => ⟨true, rfl, k0 H5 rfl e5⟩⟩
    · refine ⟨Nat.zero_le _, fun p3 hp3 => ⟨.list [], .list [], .lst (SqL.of (Ext.lst0 (Ext.new hp3) hL)) ?_, .lst (SqL.of upd_same) .nil, rfl, rfl, ?_⟩⟩
      · simp
        exact .nil
      · exact q _ ((e2.trans e3).trans (Ext.new hp3))
end
end PWK
namespace PWK
open PySem PySem.Spec PyProof.Rows L2
theorem Prs.snoc {H : Hp} {xs : List V} {l : List (Int × Int)} {v : V} {i j : Int} (h : Prs H xs l) (hv : Pr H v i j) : Prs H (xs ++ [v]) (l ++ [(i, j)]) := by
  refine ⟨by rw [List.length_append, List.length_append, h.1]; rfl, fun k y e => ?_⟩
  rcases Nat.lt_or_ge k xs.length with z | z
  · rw [List.getElem?_append_left z] at e
    have := h.2 k y e
    rw [List.getD_eq_getElem?_getD, List.getElem?_append_left (by rw [← h.1]; exact z), ← List.getD_eq_getElem?_getD]
    exact this
  · rw [List.getElem?_append_right z] at e
    have hk : k = xs.length := by
      obtain ⟨q, _⟩ := List.getElem?_eq_some_iff.mp e
      simp at q
      omega
    subst hk
    simp at e
    subst e
    rw [List.getD_eq_getElem?_getD, List.getElem?_append_right (by rw [h.1]; exact Nat.le_refl _), h.1]
    simpa using hv
/-- a side as it is drawn -/
def DrawOk (l : List (Int × Int)) : Prop := 1 ≤ l.length ∧ l.length ≤ 3 ∧ ∀ p ∈ l, 1 ≤ p.1 ∧ p.1 ≤ 100 ∧ 0 ≤ p.2 ∧ p.2 ≤ 300
theorem DrawOk.side {l : List (Int × Int)} (h : DrawOk l) : SideOk l := ⟨h.1, Nat.le_trans h.2.1 (by decide), fun p hp => by have := h.2.2 p hp; omega⟩
abbrev SideV (H : Hp) (v : V) (l : List (Int × Int)) : Prop := ∃ a, v = .ref a ∧ SideAt H a l ∧ DrawOk l
theorem sides_ext {S : List Addr} {H H' : Hp} (x : Ext S H H') : ∀ {ys : List V} {ls : List (List (Int × Int))}, Paired (SideV H) ys ls → Paired (SideV H') ys ls
  | _, _, .nil => .nil
  | _, _, .cons ⟨a, e, h, d⟩ r => .cons ⟨a, e, h.ext x, d⟩ (sides_ext x r)
theorem two_sides {H : Hp} {ys : List V} {ls : List (List (Int × Int))} (h : Paired (SideV H) ys ls) (hl : ys.length = 2) : ∃ a b l l', ys = [V.ref a, V.ref b] ∧ SideAt H a l ∧ SideAt H b l' ∧ DrawOk l ∧ DrawOk l' := by
  cases h with
  | nil => cases hl
  | cons h1 h =>
    cases h with
    | nil => cases hl
    | cons h2 h =>
      cases h with
      | cons _ _ => simp at hl
      | nil =>
        obtain ⟨a, rfl, ha, da⟩ := h1
        obtain ⟨b, rfl, hb, db⟩ := h2
        exact ⟨a, b, _, _, rfl, ha, hb, da, db⟩
section
variable {P : Program} {w : World} {K : PySem.W.Frag} {mg : Str → Option Value} {base : Heap}
abbrev nLWater : List Str := ["_law_row", "_law_found", "_law_side", "_law_part", "_law_k"]
theorem scLWater : FnScope nLWater ["_law_row"] (defScope sLWater) := ⟨rfl, rfl, rfl, by decide +kernel, rfl, by decide +kernel, by decide +kernel⟩
def spLWater (K : PySem.W.Frag) : Sp := fun vs H Q _ => ∃ (r sc : Addr) (ns : List Int), vs = [.ref r] ∧ RowAt K sc ns H r ∧ ∀ H' a b src snk, Ext [r] H H' → RowAt K sc ns H' r → ∀ wa, H' wa = some (.tup [.ref a, .ref b]) → SideAt H' a src → SideAt H' b snk → DrawOk src → DrawOk snk → Q (.ref wa) H'
theorem ok_lwater {f fT fP : Addr} {fd fdT fdP : FuncData} (F : Fun K "_law_water" "_law_water" sLWater f fd) (mr : mg "range" = none) (mt : mg "tuple" = none)
    (GT : FnOk P w K mg base CX0 1 fT fdT ["_law_row", "_law_many"] (spTaken K)) (kT : PySem.W.keepIn K (.ref fT) = true) (bT : Binds K fdT ["_law_row", "_law_many"] []) (gT : mg "_law_taken" = some (.ref fT))
    (GP : FnOk P w K mg base CX0 2 fP fdP ["_law_row", "_law_things"] (spPick K)) (kP : PySem.W.keepIn K (.ref fP) = true) (bP : Binds K fdP ["_law_row", "_law_things"] []) (gP : mg "_law_pick" = some (.ref fP)) :
    FnOk P w K mg base CX0 3 f fd ["_law_row"] (spLWater K) := by
  refine F.ok scLWater (fun vs H Q E h => ?_) (fun cdv A outer s H vs Q E hr h => ?_)
  · obtain ⟨r, sc, ns, rfl, _⟩ := h
    rfl
  · obtain ⟨r, sc, ns, rfl, hR, q⟩ := h
    have hr1 : Room 1 _ := hr.mono (by decide)
    refine ⟨_, pss_cons (ps_set (i := 1) scLWater.nd rfl (.inl rfl) (pe_lst pa_nil))
      (pss_cons (ps_for PassesOwn.never rfl (pi_range1 rfl mr (pa_cons pe_int pa_nil)) (pg_name (i := 2) scLWater.nd rfl (.inl rfl))
        (pss_cons (ps_set (i := 3) scLWater.nd rfl (.inl rfl) (pe_lst pa_nil))
        (pss_cons (ps_for PassesOwn.never rfl (pi_range1 rfl mr (pa_cons (pe_op op_add pe_int (pe_call GT hr1 rfl gT kT bT .nil pass0 (pa_cons (pv 0) (pa_cons pe_int pa_nil)))) pa_nil)) (pg_name (i := 4) scLWater.nd rfl (.inl rfl))
          (pss_one (ps_expr (pe_bm PySem.F.plainAttrs_list PySem.F.slot_list_append PySem.F.type_list_append mt_append (pv 3) (pa_cons (pe_tup
            (pa_cons (pe_call GP hr rfl gP kP bP .nil pass0 (pa_cons (pv 0) (pa_cons (pe_lst (pa_cons pe_int (pa_cons pe_int (pa_cons pe_int (pa_cons (pe_op op_add pe_int (pe_call GT hr1 rfl gT kT bT .nil pass0 (pa_cons (pv 0) (pa_cons pe_int pa_nil)))) pa_nil))))) pa_nil)))
            (pa_cons (pe_call GP hr rfl gP kP bP .nil pass0 (pa_cons (pv 0) (pa_cons (pe_lst (pa_cons pe_int (pa_cons pe_int (pa_cons pe_int (pa_cons pe_int (pa_cons (pe_call GT hr1 rfl gT kT bT .nil pass0 (pa_cons (pv 0) (pa_cons pe_int pa_nil))) pa_nil)))))) pa_nil))) pa_nil))) pa_nil)))))
        (pss_one (ps_expr (pe_bm PySem.F.plainAttrs_list PySem.F.slot_list_append PySem.F.type_list_append mt_append (pv 1) (pa_cons (pe_callTy call_tuple_of rfl mt (by decide +kernel) (pa_cons (pv 3) pa_nil)) pa_nil)))))))
      (pss_one (ps_ret (pe_callTy call_tuple_of rfl mt (by decide +kernel) (pa_cons (pv 1) pa_nil))))), ?_⟩
    obtain ⟨o0, ho0⟩ := hR.some
    refine ⟨Nat.zero_le _, fun lf hlf => ?_⟩
    have hlfr : lf ≠ r := (ne_of_none ho0 hlf).symm
    refine ⟨2, rfl, by omega, by omega, ?_⟩
    refine for_range (lo := 0) (n := 2) (fun i σ H' => ∃ y2 y3 y4 ys ls, σ = [some (.ref r), some (.ref lf), y2, y3, y4] ∧ Ext [r] H H' ∧ RowAt K sc ns H' r ∧ H' lf = some (.lst ys) ∧ ys.length = i ∧ Paired (SideV H') ys ls)
      ⟨none, none, none, [], [], rfl, (Ext.refl (S := [r])).hidS hlf, hR.hid Ext.refl hR hlf, upd_same, rfl, .nil⟩ (fun i σ H1 hi ⟨y2, y3, y4, ys, ls, hσ, x1, hR1, hL1, hl1, hP1⟩ => ?_) (fun σ H1 ⟨y2, y3, y4, ys, ls, hσ, x1, hR1, hL1, hl1, hP1⟩ => ?_)
    · subst hσ
      refine ⟨Nat.zero_le _, fun lp hlp => ?_⟩
      have hlp0 : H lp = none := x1.non lp hlp
      have hlpr : lp ≠ r := (ne_of_none ho0 hlp0).symm
      have hlpf : lp ≠ lf := (ne_of_none hL1 hlp).symm
      have x2 := x1.hidS (o := .lst []) hlp0
      have hR2 := hR.hid (o := .lst []) x1 hR1 hlp0
      have hL2 : upd H1 lp (.lst []) lf = some (.lst ys) := by rw [upd_ne hlpf.symm]; exact hL1
      have hP2 : Paired (SideV (upd H1 lp (.lst []))) ys ls := sides_ext (Ext.new (S := []) hlp) hP1
      have hp2 : upd H1 lp (.lst []) lp = some (.lst []) := upd_same
      generalize upd H1 lp (.lst []) = H2 at x2 hR2 hL2 hP2 hp2 ⊢
      refine ⟨_, rfl, r, sc, ns, 3, rfl, hR2, by decide, by decide, fun H3 n e3 hR3 n0 n3 => ?_⟩
      refine ⟨_, _, rfl, rfl, _, rfl, by omega, by omega, ?_⟩
      obtain ⟨m, rfl⟩ : ∃ m : Nat, n = (m : Int) := ⟨n.toNat, by omega⟩
      rw [show (1 + (m : Int)).toNat = m + 1 by omega]
      have x3 := x2.trans e3
      refine for_range (lo := 0) (n := m + 1) (fun j σ H' => ∃ y4 xs l, σ = [some (.ref r), some (.ref lf), some (.int ((0 : Int) + i)), some (.ref lp), y4] ∧ Ext [r] H H' ∧ RowAt K sc ns H' r ∧ H' lf = some (.lst ys) ∧ Paired (SideV H') ys ls ∧ H' lp = some (.lst xs) ∧ Prs H' xs l ∧ l.length = j ∧ ∀ p ∈ l, 1 ≤ p.1 ∧ p.1 ≤ 100 ∧ 0 ≤ p.2 ∧ p.2 ≤ 300)
        ⟨y4, [], [], rfl, x3, hR3, e3.lst (by simpa using hlfr) hL2, sides_ext e3 hP2, e3.lst (by simpa using hlpr) hp2, ⟨rfl, fun k v e => by simp at e⟩, rfl, fun p hp => by simp at hp⟩
        (fun k σ H4 hk ⟨y4, xs, l, hσ, x4, hR4, hL4, hP4, hp4, hX4, hl4, hb4⟩ => ?_) (fun σ H4 ⟨y4, xs, l, hσ, x4, hR4, hL4, hP4, hp4, hX4, hl4, hb4⟩ => ?_)
      · subst hσ
        refine ⟨_, rfl, .inl ⟨rfl, _, SqL.of hp4⟩, ?_⟩
        refine ⟨_, rfl, _, rfl, r, sc, ns, 100, rfl, hR4, by decide, by decide, fun H5 a e5 hR5 a0 a1 => ⟨_, _, rfl, rfl, by show 4 ≤ sizeLine; decide, fun th hth => ?_⟩⟩
        have x5 := x4.trans e5
        have th0 := x5.non th hth
        have x6 := x5.hidS (o := .lst [.int 1, .int 10, .int 50, .int (1 + a)]) th0
        have hR6 := hR.hid (o := .lst [.int 1, .int 10, .int 50, .int (1 + a)]) x5 hR5 th0
        have e6 : Ext [] H5 (upd H5 th (.lst [.int 1, .int 10, .int 50, .int (1 + a)])) := Ext.new hth
        refine ⟨r, th, sc, ns, [1, 10, 50, 1 + a], rfl, hR6, upd_same, (ne_of_none ho0 th0).symm, by simp, by simp, fun H7 fl e7 hR7 hfl => ?_⟩
        have x7 := x6.trans e7
        have hfl' : 1 ≤ fl ∧ fl ≤ 100 := by
          simp only [List.mem_cons, List.not_mem_nil, or_false] at hfl
          omega
        refine ⟨_, rfl, _, rfl, r, sc, ns, 300, rfl, hR7, by decide, by decide, fun H8 b e8 hR8 b0 b1 => ⟨by show 5 ≤ sizeLine; decide, fun th2 hth2 => ?_⟩⟩
        have x8 := x7.trans e8
        have th20 := x8.non th2 hth2
        have x9 := x8.hidS (o := .lst [.int 0, .int 10, .int 100, .int 20, .int b]) th20
        have hR9 := hR.hid (o := .lst [.int 0, .int 10, .int 100, .int 20, .int b]) x8 hR8 th20
        have e9 : Ext [] H8 (upd H8 th2 (.lst [.int 0, .int 10, .int 100, .int 20, .int b])) := Ext.new hth2
        refine ⟨r, th2, sc, ns, [0, 10, 100, 20, b], rfl, hR9, upd_same, (ne_of_none ho0 th20).symm, by simp, by simp, fun H10 di e10 hR10 hdi => ?_⟩
        have x10 := x9.trans e10
        have hdi' : 0 ≤ di ∧ di ≤ 300 := by
          simp only [List.mem_cons, List.not_mem_nil, or_false] at hdi
          omega
        refine ⟨two_le, fun p hp => ?_⟩
        have e11 : Ext [] H10 (upd H10 p (.tup [.int fl, .int di])) := Ext.new hp
        have x11 := x10.hidS (o := .tup [.int fl, .int di]) (x10.non p hp)
        have hR11 := hR.hid (o := .tup [.int fl, .int di]) x10 hR10 (x10.non p hp)
        have eall : Ext [r] H4 (upd H10 p (.tup [.int fl, .int di])) := ((((e5.trans e6.up).trans e7).trans (e8.trans e9.up)).trans e10).trans e11.up
        have hpt : upd H10 p (.tup [.int fl, .int di]) p = some (.tup [.int fl, .int di]) := upd_same
        generalize upd H10 p (.tup [.int fl, .int di]) = H11 at x11 hR11 eall hpt ⊢
        have hp11 : H11 lp = some (.lst xs) := eall.lst (by simpa using hlpr) hp4
        refine ⟨lp, xs, _, rfl, rfl, hp11, Nat.lt_of_lt_of_le (show xs.length < 100000 by have := hX4.1; omega) (by decide), ?_⟩
        have e12 : Ext [lp] H11 (upd H11 lp (.lst (xs ++ [.ref p]))) := Ext.put (by simp) hp11
        refine ⟨_, xs ++ [.ref p], l ++ [(fl, di)], rfl, x11.hidS hlp0, hR.hid x11 hR11 hlp0, e12.lst (by simpa using hlpf.symm) (eall.lst (by simpa using hlfr) hL4), sides_ext e12 (sides_ext eall hP4), upd_same,
          Prs.snoc ((hX4.ext eall).ext e12) ⟨p, rfl, e12.tup _ _ hpt⟩, by rw [List.length_append, hl4]; rfl, fun p' hp' => ?_⟩
        rcases List.mem_append.mp hp' with z | z
        · exact hb4 p' z
        · have : p' = (fl, di) := by simpa using z
          subst this
          exact ⟨hfl'.1, hfl'.2, hdi'.1, hdi'.2⟩
      · subst hσ
        have hd : DrawOk l := ⟨by omega, by omega, hb4⟩
        refine ⟨_, rfl, .inl ⟨rfl, _, SqL.of hL4⟩, _, rfl, lp, xs, rfl, .inl ⟨SqL.of hp4, fun tp htp => ?_⟩⟩
        have tp0 := x4.non tp htp
        have x5 := x4.hidS (o := .tup xs) tp0
        have hR5 := hR.hid (o := .tup xs) x4 hR4 tp0
        have e5 : Ext [] H4 (upd H4 tp (.tup xs)) := Ext.new htp
        have ht5 : upd H4 tp (.tup xs) tp = some (.tup xs) := upd_same
        generalize upd H4 tp (.tup xs) = H5 at x5 hR5 e5 ht5 ⊢
        have hL5 := e5.lst0 hL4
        refine ⟨lf, ys, _, rfl, rfl, hL5, Nat.lt_of_lt_of_le (show ys.length < 100000 by omega) (by decide), ?_⟩
        have e6 : Ext [lf] H5 (upd H5 lf (.lst (ys ++ [.ref tp]))) := Ext.put (by simp) hL5
        exact ⟨_, _, _, ys ++ [.ref tp], ls ++ [l], rfl, x5.hidS hlf, hR.hid x5 hR5 hlf, upd_same, by rw [List.length_append, hl1]; rfl, (sides_ext e6 (sides_ext e5 hP4)).snoc ⟨tp, rfl, ⟨xs, e6.tup _ _ ht5, (hX4.ext e5).ext e6⟩, hd⟩⟩
    · subst hσ
      refine ⟨_, rfl, lf, ys, rfl, .inl ⟨SqL.of hL1, fun wa hwa => ?_⟩⟩
      have wa0 := x1.non wa hwa
      have e2 : Ext [] H1 (upd H1 wa (.tup ys)) := Ext.new hwa
      have hP2 := sides_ext e2 hP1
      obtain ⟨a, b, l, l', rfl, ha, hb, da, db⟩ := two_sides hP2 hl1
      exact q _ a b _ _ (x1.hidS wa0) (hR.hid x1 hR1 wa0) wa upd_same ha hb da db
end
end PWK
namespace PW
def aq : Nat → Nat
  | 0 => 22
  | i + 1 => 2 * aq i + 30
theorem aq_le : ∀ {i : Nat}, i ≤ 4 → 22 ≤ aq i ∧ aq i ≤ 802
  | 0, _ => by decide
  | 1, _ => by decide
  | 2, _ => by decide
  | 3, _ => by decide
  | 4, _ => by decide
  | i + 5, h => by omega
theorem inv_bk {d : Int} (h : 0 < d) (h2 : d ≤ 1000) : (1 / (d : Rat)).num = 1 ∧ (((1 / (d : Rat)).den : Nat) : Int) = d ∧ Bk 11 (1 / (d : Rat)) := by
  obtain ⟨h1, h3⟩ := rat_div_pos (t := 1) h
  have e : ((1 : Int) : Rat) = 1 := rfl
  rw [e] at h1 h3
  have eg : (1 : Int).natAbs.gcd d.natAbs = 1 := Nat.gcd_one_left _
  rw [eg] at h1 h3
  have n1 : (1 / (d : Rat)).num = 1 := by rw [h1]; rfl
  have d1 : (1 / (d : Rat)).den = d.natAbs := by rw [h3, Nat.div_one]
  refine ⟨n1, by rw [d1]; omega, by rw [n1]; decide, ?_⟩
  rw [d1]
  have : (2 : Nat) ^ 11 = 2048 := by decide
  omega
theorem neg_bk {k : Nat} {r : Rat} (h : Bk k r) : Bk k (-r) := ⟨by rw [Rat.neg_num, Int.natAbs_neg]; exact h.1, by rw [Rat.neg_den]; exact h.2⟩
theorem int_bk {z : Int} (h : z.natAbs ≤ 1000) : Bk 11 (z : Rat) := by
  refine Bk.of_int ?_ (by decide)
  have : (2 : Nat) ^ 11 = 2048 := by decide
  omega
end PW
namespace PWK
open PySem PySem.Spec PyProof.Rows L2
theorem rt_neg {H : Hp} {a : Addr} {r : Rat} (h : H a = some (.tup [.int (0 - r.num), .int (r.den : Int)])) : Rt H (.ref a) (-r) := ⟨a, rfl, by rw [h, Rat.neg_num, Rat.neg_den, Int.zero_sub]⟩
/-- what a value's pair is -/
def pairK (H : Hp) : V → Int × Int
  | .ref t => match H t with
    | some (.tup [.int i, .int j]) => (i, j)
    | _ => (0, 0)
  | _ => (0, 0)
theorem pairK_of {H : Hp} {v : V} {i j : Int} (h : Pr H v i j) : pairK H v = (i, j) := by
  obtain ⟨t, rfl, e⟩ := h
  simp only [pairK, e]
section
variable {P : Program} {w : World} {K : PySem.W.Frag} {mg : Str → Option Value} {base : Heap}
abbrev nLAlone : List Str := ["_law_sources", "_law_flow", "_law_most", "_law_rest", "_law_dirt", "_law_size", "_law_one", "_law_part", "_law_let", "_law_other"]
theorem scLAlone : FnScope nLAlone ["_law_sources", "_law_flow", "_law_most"] (defScope sLAlone) := ⟨rfl, rfl, rfl, by decide +kernel, rfl, by decide +kernel, by decide +kernel⟩
def spLAlone : Sp := fun vs H Q _ => ∃ (sa : Addr) (fl mo : Int) (src : List (Int × Int)), vs = [.ref sa, .int fl, .int mo] ∧ SideAt H sa src ∧ src.length ≤ 4 ∧ (∀ p ∈ src, 0 ≤ p.1 ∧ p.1 ≤ 1000 ∧ 0 ≤ p.2 ∧ p.2 ≤ 1000) ∧ 0 ≤ fl ∧ fl ≤ 1000 ∧ 0 ≤ mo ∧ mo ≤ 1000 ∧
  ∀ H' v l, Ext [] H H' → l.Perm (src.map fun p => (p.2, p.1)) → l.Pairwise (fun a b => a.1 ≤ b.1) → Rt H' v (PW.alone l (fl : Rat) ((fl : Rat) * (mo : Rat))) → Q v H'
theorem ok_lalone {f fB fP : Addr} {fd fdB fdP : FuncData} (F : Fun K "_law_alone" "_law_alone" sLAlone f fd) (ms : mg "sorted" = none)
    (GB : FnOk P w K mg base CX0 2 fB fdB ["_law_one", "_law_other"] (spBin (fun x y => x * y) fun _ _ => True)) (kB : PySem.W.keepIn K (.ref fB) = true) (bB : Binds K fdB ["_law_one", "_law_other"] []) (gB : mg "_law_by" = some (.ref fB))
    (GP : FnOk P w K mg base CX0 2 fP fdP ["_law_one", "_law_other"] (spBin (fun x y => x + y) fun _ _ => True)) (kP : PySem.W.keepIn K (.ref fP) = true) (bP : Binds K fdP ["_law_one", "_law_other"] []) (gP : mg "_law_plus" = some (.ref fP)) :
    FnOk P w K mg base CX0 3 f fd ["_law_sources", "_law_flow", "_law_most"] spLAlone := by
  refine F.ok scLAlone (fun vs H Q E h => ?_) (fun cdv A outer s H vs Q E hr h => ?_)
  · obtain ⟨sa, fl, mo, src, rfl, _⟩ := h
    rfl
  · obtain ⟨sa, fl, mo, src, rfl, ⟨xs, hsa, hX⟩, hS4, hb, hf0, hf1, hm0, hm1, q⟩ := h
    refine ⟨_, pss_cons (ps_par (i := 3) (j := 4) rfl scLAlone.nd rfl rfl (by decide) rfl rfl (pa_cons (pe_tup (pa_cons (pv 1) (pa_cons pe_int pa_nil))) (pa_cons (pe_tup (pa_cons (pe_op op_mul (pv 1) (pv 2)) (pa_cons pe_int pa_nil))) pa_nil)) rfl)
      (pss_cons (ps_for PassesOwn.never rfl (pi_list (pe_callB cr_sortedPO rfl ms (by decide +kernel) (pa_cons
            (pe_lc (own := [("_law_other", 9)]) (g := gName 9) rfl scLAlone.nd (pi_tup (pv 0)) (blkOk_by (N := nLAlone) (sc := defScope sLAlone) (by decide +kernel)) (fun _ _ _ _ _ => pg_name (i := 9) scLAlone.nd rfl (.inl rfl)) (fun _ _ _ _ _ => pts_nil)
              (fun _ _ _ _ _ => pe_tup (pa_cons (txB K (pv 9) pe_int) (pa_cons (txB K (pv 9) pe_int) pa_nil)))) pa_nil)))
          (pg_tup rfl (pgs_cons (pg_name (i := 5) scLAlone.nd rfl (.inl rfl)) (pgs_cons (pg_name (i := 6) scLAlone.nd rfl (.inl rfl)) pgs_nil)))
        (pss_cons (ps_set (i := 7) scLAlone.nd rfl (.inl rfl) (pe_tup (pa_cons (pv 6) (pa_cons pe_int pa_nil))))
        (pss_cons (ps_if (pt_cmpR op_lt (tx (pv 3) pe_int) (pe_op op_mulW (tx (pv 7) pe_int) (tx (pv 3) pe_int)) (nomark _)) (pss_one (ps_set (i := 7) scLAlone.nd rfl (.inl rfl) (pv 3))) pss_nil)
        (pss_cons (ps_if (pt_cmpR op_gt (pv 5) pe_int (nomark _))
          (pss_cons (ps_set (i := 8) scLAlone.nd rfl (.inl rfl) (pe_call GB hr rfl gB kB bB .nil pass0 (pa_cons (pv 4) (pa_cons (pe_tup (pa_cons pe_int (pa_cons (pv 5) pa_nil))) pa_nil))))
          (pss_one (ps_set (i := 7) scLAlone.nd rfl (.inl rfl) (pe_ifExp (pt_cmpR op_lt (pe_op op_mulW (tx (pv 8) pe_int) (tx (pv 7) pe_int)) (pe_op op_mulW (tx (pv 7) pe_int) (tx (pv 8) pe_int)) (nomark _)) (pv 8) (pv 7))))) pss_nil)
        (pss_cons (ps_set (i := 3) scLAlone.nd rfl (.inl rfl) (pe_call GP hr rfl gP kP bP .nil pass0 (pa_cons (pv 3) (pa_cons (pe_tup (pa_cons (pe_op op_sub pe_int (tx (pv 7) pe_int)) (pa_cons (tx (pv 7) pe_int) pa_nil))) pa_nil))))
        (pss_one (ps_set (i := 4) scLAlone.nd rfl (.inl rfl) (pe_call GP hr rfl gP kP bP .nil pass0 (pa_cons (pv 4) (pa_cons (pe_call GB hr rfl gB kB bB .nil pass0 (pa_cons (pe_tup (pa_cons (pe_op op_sub pe_int (pv 5)) (pa_cons pe_int pa_nil))) (pa_cons (pv 7) pa_nil))) pa_nil))))))))))
      (pss_one (ps_ret (pv 3)))), ?_⟩
    refine ⟨_, rfl, two_le, fun p1 hp1 => ⟨_, rfl, _, rfl, _, _, rfl, rfl, .inl ⟨by omega, by omega⟩, two_le, fun p2 hp2 => ⟨_, _, rfl, ?_⟩⟩⟩
    have e1 : Ext [] H (upd H p1 (.tup [.int fl, .int 1])) := Ext.new hp1
    have e2 : Ext [] H (upd (upd H p1 (.tup [.int fl, .int 1])) p2 (.tup [.int (fl * mo), .int 1])) := e1.trans (Ext.new hp2)
    have g1 : upd (upd H p1 (.tup [.int fl, .int 1])) p2 (.tup [.int (fl * mo), .int 1]) p1 = some (.tup [.int fl, .int 1]) := (Ext.new (S := []) hp2).tup _ _ upd_same
    have g2 : upd (upd H p1 (.tup [.int fl, .int 1])) p2 (.tup [.int (fl * mo), .int 1]) p2 = some (.tup [.int (fl * mo), .int 1]) := upd_same
    generalize upd (upd H p1 (.tup [.int fl, .int 1])) p2 (.tup [.int (fl * mo), .int 1]) = H2 at e2 g1 g2 ⊢
    refine ⟨_, rfl, sa, rfl, ⟨xs, SqT.of (e2.tup _ _ hsa)⟩, ?_⟩
    refine lc_map walk_tup (fun i v H' => Pr H' v (src.getD i (0, 0)).2 (src.getD i (0, 0)).1) (fun _ _ _ _ _ x h => Pr.ext x h) yat_ext (fun H' e => SqT.of (e.tup _ _ (e2.tup _ _ hsa))) (by rw [hX.1]; omega) (fun k x H3 H4 hk e y R k2 => ?_) (fun D H3 zs hD e3 hL hl hv => ?_)
    · obtain ⟨rfl, hx⟩ := y
      obtain ⟨t, rfl, ht⟩ := Pr.ext (e2.trans e) (hX.2 k x hx)
      exact ⟨rfl, _, rfl, t, _, 1, _, rfl, rfl, SqT.of ht, atI_1, _, rfl, t, _, 0, _, rfl, rfl, SqT.of ht, atI_0, two_le, fun p hp => k2 _ _ (Ext.new hp) ⟨p, rfl, upd_same⟩⟩
    have hzl : zs.length = src.length := by rw [hl, hX.1]
    have hzk : zs.map (pairK H3) = src.map (fun p => (p.2, p.1)) := by
      refine List.ext_getElem (by rw [List.length_map, List.length_map, hzl]) fun i a1 a2 => ?_
      rw [List.length_map] at a1 a2
      rw [List.getElem_map, List.getElem_map, pairK_of (hv i _ (List.getElem?_eq_getElem a1)), List.getD_eq_getElem?_getD, List.getElem?_eq_getElem a2]
      rfl
    have hzp : ∀ x ∈ zs, Pr H3 x (pairK H3 x).1 (pairK H3 x).2 := fun x hx => by
      obtain ⟨i, hi, rfl⟩ := List.getElem_of_mem hx
      have := hv i _ (List.getElem?_eq_getElem hi)
      rw [pairK_of this]
      exact this
    refine ⟨D, zs, pairK H3, rfl, SqL.of hL, fun x hx => hzp x hx, fun ys p hs hst hp => ?_⟩
    have e4 : Ext [] H3 (upd H3 p (.lst ys)) := Ext.new hp
    have hpl : upd H3 p (.lst ys) p = some (.lst ys) := upd_same
    generalize upd H3 p (.lst ys) = H4 at e4 hpl ⊢
    have hyl : ys.length ≤ 4 := by rw [hst.perm.length_eq, hzl]; exact hS4
    have hperm : (ys.map (pairK H3)).Perm (src.map (fun p => (p.2, p.1))) := by rw [← hzk]; exact hst.perm.map _
    have hpw : (ys.map (pairK H3)).Pairwise (fun a b => a.1 ≤ b.1) := List.pairwise_map.mpr (hs.imp fun {x y} hxy => by
      have := SrtO.lexB_no.mp hxy
      omega)
    have hyb : ∀ x ∈ ys, Pr H3 x (pairK H3 x).1 (pairK H3 x).2 ∧ 0 ≤ (pairK H3 x).1 ∧ (pairK H3 x).1 ≤ 1000 ∧ 0 ≤ (pairK H3 x).2 ∧ (pairK H3 x).2 ≤ 1000 := fun x hx => by
      refine ⟨hzp x (hst.perm.mem_iff.mp hx), ?_⟩
      obtain ⟨p, hp, e⟩ := List.mem_map.mp (hperm.mem_iff.mp (List.mem_map_of_mem hx))
      rw [← e]
      have := hb p hp
      exact ⟨this.2.2.1, this.2.2.2, this.1, this.2.1⟩
    have e24 : Ext [] H2 H4 := e3.trans e4
    refine ⟨p, rfl, ⟨ys, SqL.of hpl⟩, ?_⟩
    refine for_list (xs := ys) (fun i σ H' => ∃ v3 v4 y5 y6 y7 y8 R D, σ = [some (.ref sa), some (.int fl), some (.int mo), some v3, some v4, y5, y6, y7, y8, none] ∧ Ext [] H4 H' ∧ Rt H' v3 R ∧ Rt H' v4 D ∧ PW.Bk (PW.aq i) R ∧ PW.Bk (PW.aq i) D ∧
        PW.alone ((ys.map (pairK H3)).drop i) R D = PW.alone (ys.map (pairK H3)) (fl : Rat) ((fl : Rat) * (mo : Rat)))
      ⟨_, _, none, none, none, none, (fl : Rat), ((fl * mo : Int) : Rat), rfl, Ext.refl, (rt_int fl rfl g1).ext e24, (rt_int (fl * mo) rfl g2).ext e24, ?_, ?_, by rw [Rat.intCast_mul]; rfl⟩
      (fun i σ H' _ ⟨_, _, _, _, _, _, _, _, _, e, _⟩ => SqL.of (e.lst0 hpl)) (fun i x σ H5 hx ⟨v3, v4, y5, y6, y7, y8, R, D', hσ, e5, r3, r4, b3, b4, hal⟩ => ?_) (fun σ H5 ⟨v3, v4, y5, y6, y7, y8, R, D', hσ, e5, r3, r4, b3, b4, hal⟩ => ?_)
    · exact (PW.int_bk (by omega)).mono (by decide)
    · refine PW.Bk.of_int ?_ (by decide)
      rw [Int.natAbs_mul]
      have h1 : fl.natAbs * mo.natAbs ≤ 1000 * 1000 := Nat.mul_le_mul (by omega) (by omega)
      exact Nat.lt_of_le_of_lt h1 (by decide)
    · subst hσ
      have hi : i < ys.length := (List.getElem?_eq_some_iff.mp hx).1
      obtain ⟨ha1, ha2⟩ := PW.aq_le (i := i) (by omega)
      obtain ⟨hpx, d0, d1, s0, s1⟩ := hyb x (List.mem_of_getElem? hx)
      have hdrop : (ys.map (pairK H3)).drop i = pairK H3 x :: (ys.map (pairK H3)).drop (i + 1) := by
        rw [List.drop_eq_getElem_cons (by rw [List.length_map]; exact hi)]
        congr 1
        rw [List.getElem_map]
        congr 1
        have := (List.getElem?_eq_some_iff.mp hx).2
        exact this
      rw [hdrop] at hal
      have hal2 : PW.alone ((ys.map (pairK H3)).drop (i + 1)) (R - PW.part (pairK H3 x) R D') (D' - ((pairK H3 x).1 : Rat) * PW.part (pairK H3 x) R D') = PW.alone (ys.map (pairK H3)) (fl : Rat) ((fl : Rat) * (mo : Rat)) := hal
      clear hal
      generalize pairK H3 x = pp at hpx d0 d1 s0 s1 hal2
      obtain ⟨d, sz⟩ := pp
      obtain ⟨t, rfl, ht⟩ := Pr.ext (e4.trans e5) hpx
      obtain ⟨a3, rfl, h3⟩ := r3
      obtain ⟨a4, rfl, h4⟩ := r4
      refine ⟨t, _, rfl, SqT.of ht, rfl, _, _, rfl, _, _, rfl, rfl, ?_⟩
      refine ⟨_, rfl, two_le, fun p7 hp7 => ?_⟩
      have e6 : Ext [] H5 (upd H5 p7 (.tup [.int sz, .int 1])) := Ext.new hp7
      have h7 : upd H5 p7 (.tup [.int sz, .int 1]) p7 = some (.tup [.int sz, .int 1]) := upd_same
      generalize upd H5 p7 (.tup [.int sz, .int 1]) = H6 at e6 h7 ⊢
      have h3' := e6.tup _ _ h3
      have h4' := e6.tup _ _ h4
      refine ⟨_, rfl, a3, _, 0, _, rfl, rfl, SqT.of h3', atI_0, _, rfl, p7, _, 0, _, rfl, rfl, SqT.of h7, atI_0, _, rfl, a3, _, 1, _, rfl, rfl, SqT.of h3', atI_1, _, _, rfl, rfl, ?_, _, _, rfl, rfl, _, rfl, ?_⟩
      · exact mw (a := 11) (b := PW.aq i) (by have : (2 : Nat) ^ 11 = 2048 := by decide
                                              omega) (dlt b3) ⟨by decide, by omega, by omega⟩
      have c1e : (R.num < sz * (R.den : Int)) ↔ R < (sz : Rat) := by
        rw [Rat.lt_iff]
        simp
      obtain ⟨q7, hq7⟩ : ∃ q7 : Rat, q7 = if R < (sz : Rat) then R else (sz : Rat) := ⟨_, rfl⟩
      have hpart : PW.part (d, sz) R D' = if 0 < d then (if D' * (1 / (d : Rat)) < q7 then D' * (1 / (d : Rat)) else q7) else q7 := by rw [hq7]; rfl
      have bq : PW.Bk (PW.aq i) q7 := by
        rw [hq7]
        split
        · exact b3
        · exact (PW.int_bk (by omega)).mono (by omega)
      have hal3 : PW.alone ((ys.map (pairK H3)).drop (i + 1)) (R - PW.part (d, sz) R D') (D' - (d : Rat) * PW.part (d, sz) R D') = PW.alone (ys.map (pairK H3)) (fl : Rat) ((fl : Rat) * (mo : Rat)) := hal2
      clear hal2
      generalize PW.part (d, sz) R D' = PP at hpart hal3
      have bP : PW.Bk (PW.aq i + 11) PP := by
        rw [hpart]
        split
        · rename_i hd
          split
          · exact b4.mul (PW.inv_bk hd d1).2.2
          · exact bq.mono (by omega)
        · exact bq.mono (by omega)
      refine ite2 (fun c1 => ?_) (fun c1 => ?_)
      · have c1' : R < (sz : Rat) := c1e.mp (of_decide_eq_true c1)
        rw [if_pos c1'] at hq7
        refine ⟨_, rfl, ?_⟩
        have h7q : H6 a3 = some (.tup [.int q7.num, .int (q7.den : Int)]) := by rw [hq7]; exact h3'
        refine ⟨_, rfl, _, _, rfl, rfl, _, rfl, ite2 (fun c2 => ?_) (fun c2 => ?_)⟩
        · have c2' : 0 < d := of_decide_eq_true c2
          obtain ⟨i1, i2, i3⟩ := PW.inv_bk c2' d1
          rw [if_pos c2'] at hpart
          refine ⟨_, rfl, _, rfl, two_le, fun p8 hp8 => ?_⟩
          have e7 : Ext [] H6 (upd H6 p8 (.tup [.int 1, .int d])) := Ext.new hp8
          refine ⟨.ref a4, .ref p8, D', 1 / (d : Rat), PW.aq i, 11, rfl, ⟨a4, rfl, e7.tup _ _ h4'⟩, ⟨p8, rfl, by rw [upd_same, i1, i2]⟩, b4, i3, trivial, ⟨by omega, by decide, by omega⟩, fun H8 v8 e8 hv8 => ?_⟩
          obtain ⟨a8, rfl, h8⟩ := hv8
          have h8 : H8 a8 = some (.tup [.int (D' * (1 / (d : Rat))).num, .int ((D' * (1 / (d : Rat))).den : Int)]) := h8
          have e68 : Ext [] H6 H8 := e7.trans e8
          have h7r := e68.tup _ _ h7q
          have bl := b4.mul i3
          refine ⟨_, rfl, a8, _, 0, _, rfl, rfl, SqT.of h8, atI_0, _, rfl, a3, _, 1, _, rfl, rfl, SqT.of h7r, atI_1, _, _, rfl, rfl, mw bl.1 (dlt bq) ⟨by omega, by omega, by omega⟩, ?_⟩
          refine ⟨_, rfl, a3, _, 0, _, rfl, rfl, SqT.of h7r, atI_0, _, rfl, a8, _, 1, _, rfl, rfl, SqT.of h8, atI_1, _, _, rfl, rfl, mw bq.1 (dlt bl) ⟨by omega, by omega, by omega⟩, _, _, rfl, rfl, _, rfl, ite2 (fun c3 => ?_) (fun c3 => ?_)⟩
          · have c3' : D' * (1 / (d : Rat)) < q7 := (PW.less_iff _ _).mp (of_decide_eq_true c3)
            rw [if_pos c3'] at hpart
            refine ⟨_, rfl, ?_⟩
            have hP : H8 a8 = some (.tup [.int PP.num, .int (PP.den : Int)]) := by rw [hpart]; exact h8
            obtain ⟨e9, h39, h49⟩ : Ext [] H5 H8 ∧ H8 a3 = some (.tup [.int R.num, .int (R.den : Int)]) ∧ H8 a4 = some (.tup [.int D'.num, .int (D'.den : Int)]) := ⟨e6.trans e68, e68.tup _ _ h3', e68.tup _ _ h4'⟩
            refine ⟨_, rfl, _, rfl, a8, _, 0, _, rfl, rfl, SqT.of hP, atI_0, _, _, rfl, rfl, _, rfl, a8, _, 1, _, rfl, rfl, SqT.of hP, atI_1, two_le, fun p10 hp10 => ?_⟩
            have e10 : Ext [] H8 (upd H8 p10 (.tup [.int (0 - PP.num), .int (PP.den : Int)])) := Ext.new hp10
            refine ⟨.ref a3, .ref p10, R, -PP, PW.aq i, PW.aq i + 11, rfl, ⟨a3, rfl, e10.tup _ _ h39⟩, rt_neg upd_same, b3, PW.neg_bk bP, trivial, ⟨by omega, by omega, by omega⟩, fun H11 v11 e11 hv11 => ?_⟩
            have e911 : Ext [] H8 H11 := e10.trans e11
            refine ⟨_, rfl, _, rfl, _, _, rfl, rfl, two_le, fun p12 hp12 => ⟨_, rfl, ?_⟩⟩
            have e12 : Ext [] H11 (upd H11 p12 (.tup [.int (0 - d), .int 1])) := Ext.new hp12
            refine ⟨.ref p12, .ref a8, ((0 - d : Int) : Rat), PP, 11, PW.aq i + 11, rfl, rt_int _ rfl upd_same, ⟨a8, rfl, e12.tup _ _ (e911.tup _ _ hP)⟩, PW.int_bk (by omega), bP, trivial, ⟨by decide, by omega, by omega⟩, fun H13 v13 e13 hv13 => ?_⟩
            have e113 : Ext [] H11 H13 := e12.trans e13
            refine ⟨.ref a4, v13, D', ((0 - d : Int) : Rat) * PP, PW.aq i, 11 + (PW.aq i + 11), rfl, ⟨a4, rfl, e113.tup _ _ (e911.tup _ _ h49)⟩, hv13, b4, (PW.int_bk (z := 0 - d) (by omega)).mul bP, trivial, ⟨by omega, by omega, by omega⟩, fun H15 v15 e15 hv15 => ?_⟩
            have q1 : R + -PP = R - PP := (Rat.sub_eq_add_neg R PP).symm
            have q2 : D' + ((0 - d : Int) : Rat) * PP = D' - (d : Rat) * PP := by
              rw [Int.zero_sub, Rat.intCast_neg]
              grind
            have w1 : Rt H11 v11 (R - PP) := by rw [← q1]; exact hv11
            have w2 : Rt H15 v15 (D' - (d : Rat) * PP) := by rw [← q2]; exact hv15
            have k1 : PW.Bk (PW.aq (i + 1)) (R - PP) := (b3.sub bP).mono (by show _ ≤ 2 * PW.aq i + 30; omega)
            have k2 : PW.Bk (PW.aq (i + 1)) (D' - (d : Rat) * PP) := by
              rw [← q2]
              exact (b4.add ((PW.int_bk (z := 0 - d) (by omega)).mul bP)).mono (by show _ ≤ 2 * PW.aq i + 30; omega)
            exact ⟨v11, v15, _, _, _, _, R - PP, D' - (d : Rat) * PP, rfl, (e5.trans e9).trans (e911.trans (e113.trans e15)), w1.ext (e113.trans e15), w2, k1, k2, hal3⟩
          · have c3' : ¬ D' * (1 / (d : Rat)) < q7 := fun z => (of_decide_eq_false (Bool.eq_false_iff.mpr c3)) ((PW.less_iff _ _).mpr z)
            rw [if_neg c3'] at hpart
            refine ⟨_, rfl, ?_⟩
            have hP : H8 a3 = some (.tup [.int PP.num, .int (PP.den : Int)]) := by rw [hpart]; exact h7r
            obtain ⟨e9, h39, h49⟩ : Ext [] H5 H8 ∧ H8 a3 = some (.tup [.int R.num, .int (R.den : Int)]) ∧ H8 a4 = some (.tup [.int D'.num, .int (D'.den : Int)]) := ⟨e6.trans e68, e68.tup _ _ h3', e68.tup _ _ h4'⟩
            refine ⟨_, rfl, _, rfl, a3, _, 0, _, rfl, rfl, SqT.of hP, atI_0, _, _, rfl, rfl, _, rfl, a3, _, 1, _, rfl, rfl, SqT.of hP, atI_1, two_le, fun p10 hp10 => ?_⟩
            have e10 : Ext [] H8 (upd H8 p10 (.tup [.int (0 - PP.num), .int (PP.den : Int)])) := Ext.new hp10
            refine ⟨.ref a3, .ref p10, R, -PP, PW.aq i, PW.aq i + 11, rfl, ⟨a3, rfl, e10.tup _ _ h39⟩, rt_neg upd_same, b3, PW.neg_bk bP, trivial, ⟨by omega, by omega, by omega⟩, fun H11 v11 e11 hv11 => ?_⟩
            have e911 : Ext [] H8 H11 := e10.trans e11
            refine ⟨_, rfl, _, rfl, _, _, rfl, rfl, two_le, fun p12 hp12 => ⟨_, rfl, ?_⟩⟩
            have e12 : Ext [] H11 (upd H11 p12 (.tup [.int (0 - d), .int 1])) := Ext.new hp12
            refine ⟨.ref p12, .ref a3, ((0 - d : Int) : Rat), PP, 11, PW.aq i + 11, rfl, rt_int _ rfl upd_same, ⟨a3, rfl, e12.tup _ _ (e911.tup _ _ hP)⟩, PW.int_bk (by omega), bP, trivial, ⟨by decide, by omega, by omega⟩, fun H13 v13 e13 hv13 => ?_⟩
            have e113 : Ext [] H11 H13 := e12.trans e13
            refine ⟨.ref a4, v13, D', ((0 - d : Int) : Rat) * PP, PW.aq i, 11 + (PW.aq i + 11), rfl, ⟨a4, rfl, e113.tup _ _ (e911.tup _ _ h49)⟩, hv13, b4, (PW.int_bk (z := 0 - d) (by omega)).mul bP, trivial, ⟨by omega, by omega, by omega⟩, fun H15 v15 e15 hv15 => ?_⟩
            have q1 : R + -PP = R - PP := (Rat.sub_eq_add_neg R PP).symm
            have q2 : D' + ((0 - d : Int) : Rat) * PP = D' - (d : Rat) * PP := by
              rw [Int.zero_sub, Rat.intCast_neg]
              grind
            have w1 : Rt H11 v11 (R - PP) := by rw [← q1]; exact hv11
            have w2 : Rt H15 v15 (D' - (d : Rat) * PP) := by rw [← q2]; exact hv15
            have k1 : PW.Bk (PW.aq (i + 1)) (R - PP) := (b3.sub bP).mono (by show _ ≤ 2 * PW.aq i + 30; omega)
            have k2 : PW.Bk (PW.aq (i + 1)) (D' - (d : Rat) * PP) := by
              rw [← q2]
              exact (b4.add ((PW.int_bk (z := 0 - d) (by omega)).mul bP)).mono (by show _ ≤ 2 * PW.aq i + 30; omega)
            exact ⟨v11, v15, _, _, _, _, R - PP, D' - (d : Rat) * PP, rfl, (e5.trans e9).trans (e911.trans (e113.trans e15)), w1.ext (e113.trans e15), w2, k1, k2, hal3⟩
        · have c2' : ¬ 0 < d := of_decide_eq_false (Bool.eq_false_iff.mpr c2)
          rw [if_neg c2'] at hpart
          have hP : H6 a3 = some (.tup [.int PP.num, .int (PP.den : Int)]) := by rw [hpart]; exact h7q
          obtain ⟨e9, h39, h49⟩ : Ext [] H5 H6 ∧ H6 a3 = some (.tup [.int R.num, .int (R.den : Int)]) ∧ H6 a4 = some (.tup [.int D'.num, .int (D'.den : Int)]) := ⟨e6, h3', h4'⟩
          refine ⟨_, rfl, _, rfl, a3, _, 0, _, rfl, rfl, SqT.of hP, atI_0, _, _, rfl, rfl, _, rfl, a3, _, 1, _, rfl, rfl, SqT.of hP, atI_1, two_le, fun p10 hp10 => ?_⟩
          have e10 : Ext [] H6 (upd H6 p10 (.tup [.int (0 - PP.num), .int (PP.den : Int)])) := Ext.new hp10
          refine ⟨.ref a3, .ref p10, R, -PP, PW.aq i, PW.aq i + 11, rfl, ⟨a3, rfl, e10.tup _ _ h39⟩, rt_neg upd_same, b3, PW.neg_bk bP, trivial, ⟨by omega, by omega, by omega⟩, fun H11 v11 e11 hv11 => ?_⟩
          have e911 : Ext [] H6 H11 := e10.trans e11
          refine ⟨_, rfl, _, rfl, _, _, rfl, rfl, two_le, fun p12 hp12 => ⟨_, rfl, ?_⟩⟩
          have e12 : Ext [] H11 (upd H11 p12 (.tup [.int (0 - d), .int 1])) := Ext.new hp12
          refine ⟨.ref p12, .ref a3, ((0 - d : Int) : Rat), PP, 11, PW.aq i + 11, rfl, rt_int _ rfl upd_same, ⟨a3, rfl, e12.tup _ _ (e911.tup _ _ hP)⟩, PW.int_bk (by omega), bP, trivial, ⟨by decide, by omega, by omega⟩, fun H13 v13 e13 hv13 => ?_⟩
          have e113 : Ext [] H11 H13 := e12.trans e13
          refine ⟨.ref a4, v13, D', ((0 - d : Int) : Rat) * PP, PW.aq i, 11 + (PW.aq i + 11), rfl, ⟨a4, rfl, e113.tup _ _ (e911.tup _ _ h49)⟩, hv13, b4, (PW.int_bk (z := 0 - d) (by omega)).mul bP, trivial, ⟨by omega, by omega, by omega⟩, fun H15 v15 e15 hv15 => ?_⟩
          have q1 : R + -PP = R - PP := (Rat.sub_eq_add_neg R PP).symm
          have q2 : D' + ((0 - d : Int) : Rat) * PP = D' - (d : Rat) * PP := by
            rw [Int.zero_sub, Rat.intCast_neg]
            grind
          have w1 : Rt H11 v11 (R - PP) := by rw [← q1]; exact hv11
          have w2 : Rt H15 v15 (D' - (d : Rat) * PP) := by rw [← q2]; exact hv15
          have k1 : PW.Bk (PW.aq (i + 1)) (R - PP) := (b3.sub bP).mono (by show _ ≤ 2 * PW.aq i + 30; omega)
          have k2 : PW.Bk (PW.aq (i + 1)) (D' - (d : Rat) * PP) := by
            rw [← q2]
            exact (b4.add ((PW.int_bk (z := 0 - d) (by omega)).mul bP)).mono (by show _ ≤ 2 * PW.aq i + 30; omega)
          exact ⟨v11, v15, _, _, _, _, R - PP, D' - (d : Rat) * PP, rfl, (e5.trans e9).trans (e911.trans (e113.trans e15)), w1.ext (e113.trans e15), w2, k1, k2, hal3⟩
      · have c1' : ¬ R < (sz : Rat) := fun z => by
          have := of_decide_eq_false (Bool.eq_false_iff.mpr c1)
          exact this (c1e.mpr z)
        rw [if_neg c1'] at hq7
        have h7q : H6 p7 = some (.tup [.int q7.num, .int (q7.den : Int)]) := by rw [hq7]; simpa using h7
        refine ⟨_, rfl, _, _, rfl, rfl, _, rfl, ite2 (fun c2 => ?_) (fun c2 => ?_)⟩
        · have c2' : 0 < d := of_decide_eq_true c2
          obtain ⟨i1, i2, i3⟩ := PW.inv_bk c2' d1
          rw [if_pos c2'] at hpart
          refine ⟨_, rfl, _, rfl, two_le, fun p8 hp8 => ?_⟩
          have e7 : Ext [] H6 (upd H6 p8 (.tup [.int 1, .int d])) := Ext.new hp8
          refine ⟨.ref a4, .ref p8, D', 1 / (d : Rat), PW.aq i, 11, rfl, ⟨a4, rfl, e7.tup _ _ h4'⟩, ⟨p8, rfl, by rw [upd_same, i1, i2]⟩, b4, i3, trivial, ⟨by omega, by decide, by omega⟩, fun H8 v8 e8 hv8 => ?_⟩
          obtain ⟨a8, rfl, h8⟩ := hv8
          have h8 : H8 a8 = some (.tup [.int (D' * (1 / (d : Rat))).num, .int ((D' * (1 / (d : Rat))).den : Int)]) := h8
          have e68 : Ext [] H6 H8 := e7.trans e8
          have h7r := e68.tup _ _ h7q
          have bl := b4.mul i3
          refine ⟨_, rfl, a8, _, 0, _, rfl, rfl, SqT.of h8, atI_0, _, rfl, p7, _, 1, _, rfl, rfl, SqT.of h7r, atI_1, _, _, rfl, rfl, mw bl.1 (dlt bq) ⟨by omega, by omega, by omega⟩, ?_⟩
          refine ⟨_, rfl, p7, _, 0, _, rfl, rfl, SqT.of h7r, atI_0, _, rfl, a8, _, 1, _, rfl, rfl, SqT.of h8, atI_1, _, _, rfl, rfl, mw bq.1 (dlt bl) ⟨by omega, by omega, by omega⟩, _, _, rfl, rfl, _, rfl, ite2 (fun c3 => ?_) (fun c3 => ?_)⟩
          · have c3' : D' * (1 / (d : Rat)) < q7 := (PW.less_iff _ _).mp (of_decide_eq_true c3)
            rw [if_pos c3'] at hpart
            refine ⟨_, rfl, ?_⟩
            have hP : H8 a8 = some (.tup [.int PP.num, .int (PP.den : Int)]) := by rw [hpart]; exact h8
            obtain ⟨e9, h39, h49⟩ : Ext [] H5 H8 ∧ H8 a3 = some (.tup [.int R.num, .int (R.den : Int)]) ∧ H8 a4 = some (.tup [.int D'.num, .int (D'.den : Int)]) := ⟨e6.trans e68, e68.tup _ _ h3', e68.tup _ _ h4'⟩
            refine ⟨_, rfl, _, rfl, a8, _, 0, _, rfl, rfl, SqT.of hP, atI_0, _, _, rfl, rfl, _, rfl, a8, _, 1, _, rfl, rfl, SqT.of hP, atI_1, two_le, fun p10 hp10 => ?_⟩
            have e10 : Ext [] H8 (upd H8 p10 (.tup [.int (0 - PP.num), .int (PP.den : Int)])) := Ext.new hp10
            refine ⟨.ref a3, .ref p10, R, -PP, PW.aq i, PW.aq i + 11, rfl, ⟨a3, rfl, e10.tup _ _ h39⟩, rt_neg upd_same, b3, PW.neg_bk bP, trivial, ⟨by omega, by omega, by omega⟩, fun H11 v11 e11 hv11 => ?_⟩
            have e911 : Ext [] H8 H11 := e10.trans e11
            refine ⟨_, rfl, _, rfl, _, _, rfl, rfl, two_le, fun p12 hp12 => ⟨_, rfl, ?_⟩⟩
            have e12 : Ext [] H11 (upd H11 p12 (.tup [.int (0 - d), .int 1])) := Ext.new hp12
            refine ⟨.ref p12, .ref a8, ((0 - d : Int) : Rat), PP, 11, PW.aq i + 11, rfl, rt_int _ rfl upd_same, ⟨a8, rfl, e12.tup _ _ (e911.tup _ _ hP)⟩, PW.int_bk (by omega), bP, trivial, ⟨by decide, by omega, by omega⟩, fun H13 v13 e13 hv13 => ?_⟩
            have e113 : Ext [] H11 H13 := e12.trans e13
            refine ⟨.ref a4, v13, D', ((0 - d : Int) : Rat) * PP, PW.aq i, 11 + (PW.aq i + 11), rfl, ⟨a4, rfl, e113.tup _ _ (e911.tup _ _ h49)⟩, hv13, b4, (PW.int_bk (z := 0 - d) (by omega)).mul bP, trivial, ⟨by omega, by omega, by omega⟩, fun H15 v15 e15 hv15 => ?_⟩
            have q1 : R + -PP = R - PP := (Rat.sub_eq_add_neg R PP).symm
            have q2 : D' + ((0 - d : Int) : Rat) * PP = D' - (d : Rat) * PP := by
              rw [Int.zero_sub, Rat.intCast_neg]
              grind
            have w1 : Rt H11 v11 (R - PP) := by rw [← q1]; exact hv11
            have w2 : Rt H15 v15 (D' - (d : Rat) * PP) := by rw [← q2]; exact hv15
            have k1 : PW.Bk (PW.aq (i + 1)) (R - PP) := (b3.sub bP).mono (by show _ ≤ 2 * PW.aq i + 30; omega)
            have k2 : PW.Bk (PW.aq (i + 1)) (D' - (d : Rat) * PP) := by
              rw [← q2]
              exact (b4.add ((PW.int_bk (z := 0 - d) (by omega)).mul bP)).mono (by show _ ≤ 2 * PW.aq i + 30; omega)
            exact ⟨v11, v15, _, _, _, _, R - PP, D' - (d : Rat) * PP, rfl, (e5.trans e9).trans (e911.trans (e113.trans e15)), w1.ext (e113.trans e15), w2, k1, k2, hal3⟩
          · have c3' : ¬ D' * (1 / (d : Rat)) < q7 := fun z => (of_decide_eq_false (Bool.eq_false_iff.mpr c3)) ((PW.less_iff _ _).mpr z)
            rw [if_neg c3'] at hpart
            refine ⟨_, rfl, ?_⟩
            have hP : H8 p7 = some (.tup [.int PP.num, .int (PP.den : Int)]) := by rw [hpart]; exact h7r
            obtain ⟨e9, h39, h49⟩ : Ext [] H5 H8 ∧ H8 a3 = some (.tup [.int R.num, .int (R.den : Int)]) ∧ H8 a4 = some (.tup [.int D'.num, .int (D'.den : Int)]) := ⟨e6.trans e68, e68.tup _ _ h3', e68.tup _ _ h4'⟩
            refine ⟨_, rfl, _, rfl, p7, _, 0, _, rfl, rfl, SqT.of hP, atI_0, _, _, rfl, rfl, _, rfl, p7, _, 1, _, rfl, rfl, SqT.of hP, atI_1, two_le, fun p10 hp10 => ?_⟩
            have e10 : Ext [] H8 (upd H8 p10 (.tup [.int (0 - PP.num), .int (PP.den : Int)])) := Ext.new hp10
            refine ⟨.ref a3, .ref p10, R, -PP, PW.aq i, PW.aq i + 11, rfl, ⟨a3, rfl, e10.tup _ _ h39⟩, rt_neg upd_same, b3, PW.neg_bk bP, trivial, ⟨by omega, by omega, by omega⟩, fun H11 v11 e11 hv11 => ?_⟩
            have e911 : Ext [] H8 H11 := e10.trans e11
            refine ⟨_, rfl, _, rfl, _, _, rfl, rfl, two_le, fun p12 hp12 => ⟨_, rfl, ?_⟩⟩
            have e12 : Ext [] H11 (upd H11 p12 (.tup [.int (0 - d), .int 1])) := Ext.new hp12
            refine ⟨.ref p12, .ref p7, ((0 - d : Int) : Rat), PP, 11, PW.aq i + 11, rfl, rt_int _ rfl upd_same, ⟨p7, rfl, e12.tup _ _ (e911.tup _ _ hP)⟩, PW.int_bk (by omega), bP, trivial, ⟨by decide, by omega, by omega⟩, fun H13 v13 e13 hv13 => ?_⟩
            have e113 : Ext [] H11 H13 := e12.trans e13
            refine ⟨.ref a4, v13, D', ((0 - d : Int) : Rat) * PP, PW.aq i, 11 + (PW.aq i + 11), rfl, ⟨a4, rfl, e113.tup _ _ (e911.tup _ _ h49)⟩, hv13, b4, (PW.int_bk (z := 0 - d) (by omega)).mul bP, trivial, ⟨by omega, by omega, by omega⟩, fun H15 v15 e15 hv15 => ?_⟩
            have q1 : R + -PP = R - PP := (Rat.sub_eq_add_neg R PP).symm
            have q2 : D' + ((0 - d : Int) : Rat) * PP = D' - (d : Rat) * PP := by
              rw [Int.zero_sub, Rat.intCast_neg]
              grind
            have w1 : Rt H11 v11 (R - PP) := by rw [← q1]; exact hv11
            have w2 : Rt H15 v15 (D' - (d : Rat) * PP) := by rw [← q2]; exact hv15
            have k1 : PW.Bk (PW.aq (i + 1)) (R - PP) := (b3.sub bP).mono (by show _ ≤ 2 * PW.aq i + 30; omega)
            have k2 : PW.Bk (PW.aq (i + 1)) (D' - (d : Rat) * PP) := by
              rw [← q2]
              exact (b4.add ((PW.int_bk (z := 0 - d) (by omega)).mul bP)).mono (by show _ ≤ 2 * PW.aq i + 30; omega)
            exact ⟨v11, v15, _, _, _, _, R - PP, D' - (d : Rat) * PP, rfl, (e5.trans e9).trans (e911.trans (e113.trans e15)), w1.ext (e113.trans e15), w2, k1, k2, hal3⟩
        · have c2' : ¬ 0 < d := of_decide_eq_false (Bool.eq_false_iff.mpr c2)
          rw [if_neg c2'] at hpart
          have hP : H6 p7 = some (.tup [.int PP.num, .int (PP.den : Int)]) := by rw [hpart]; exact h7q
          obtain ⟨e9, h39, h49⟩ : Ext [] H5 H6 ∧ H6 a3 = some (.tup [.int R.num, .int (R.den : Int)]) ∧ H6 a4 = some (.tup [.int D'.num, .int (D'.den : Int)]) := ⟨e6, h3', h4'⟩
          refine ⟨_, rfl, _, rfl, p7, _, 0, _, rfl, rfl, SqT.of hP, atI_0, _, _, rfl, rfl, _, rfl, p7, _, 1, _, rfl, rfl, SqT.of hP, atI_1, two_le, fun p10 hp10 => ?_⟩
          have e10 : Ext [] H6 (upd H6 p10 (.tup [.int (0 - PP.num), .int (PP.den : Int)])) := Ext.new hp10
          refine ⟨.ref a3, .ref p10, R, -PP, PW.aq i, PW.aq i + 11, rfl, ⟨a3, rfl, e10.tup _ _ h39⟩, rt_neg upd_same, b3, PW.neg_bk bP, trivial, ⟨by omega, by omega, by omega⟩, fun H11 v11 e11 hv11 => ?_⟩
          have e911 : Ext [] H6 H11 := e10.trans e11
          refine ⟨_, rfl, _, rfl, _, _, rfl, rfl, two_le, fun p12 hp12 => ⟨_, rfl, ?_⟩⟩
          have e12 : Ext [] H11 (upd H11 p12 (.tup [.int (0 - d), .int 1])) := Ext.new hp12
          refine ⟨.ref p12, .ref p7, ((0 - d : Int) : Rat), PP, 11, PW.aq i + 11, rfl, rt_int _ rfl upd_same, ⟨p7, rfl, e12.tup _ _ (e911.tup _ _ hP)⟩, PW.int_bk (by omega), bP, trivial, ⟨by decide, by omega, by omega⟩, fun H13 v13 e13 hv13 => ?_⟩
          have e113 : Ext [] H11 H13 := e12.trans e13
          refine ⟨.ref a4, v13, D', ((0 - d : Int) : Rat) * PP, PW.aq i, 11 + (PW.aq i + 11), rfl, ⟨a4, rfl, e113.tup _ _ (e911.tup _ _ h49)⟩, hv13, b4, (PW.int_bk (z := 0 - d) (by omega)).mul bP, trivial, ⟨by omega, by omega, by omega⟩, fun H15 v15 e15 hv15 => ?_⟩
          have q1 : R + -PP = R - PP := (Rat.sub_eq_add_neg R PP).symm
          have q2 : D' + ((0 - d : Int) : Rat) * PP = D' - (d : Rat) * PP := by
            rw [Int.zero_sub, Rat.intCast_neg]
            grind
          have w1 : Rt H11 v11 (R - PP) := by rw [← q1]; exact hv11
          have w2 : Rt H15 v15 (D' - (d : Rat) * PP) := by rw [← q2]; exact hv15
          have k1 : PW.Bk (PW.aq (i + 1)) (R - PP) := (b3.sub bP).mono (by show _ ≤ 2 * PW.aq i + 30; omega)
          have k2 : PW.Bk (PW.aq (i + 1)) (D' - (d : Rat) * PP) := by
            rw [← q2]
            exact (b4.add ((PW.int_bk (z := 0 - d) (by omega)).mul bP)).mono (by show _ ≤ 2 * PW.aq i + 30; omega)
          exact ⟨v11, v15, _, _, _, _, R - PP, D' - (d : Rat) * PP, rfl, (e5.trans e9).trans (e911.trans (e113.trans e15)), w1.ext (e113.trans e15), w2, k1, k2, hal3⟩
    · subst hσ
      rw [List.drop_eq_nil_of_le (by rw [List.length_map]; exact Nat.le_refl _)] at hal
      have hal : R = _ := hal
      refine ⟨_, rfl, q _ _ _ (((e2.trans e3).trans e4).trans e5) hperm hpw ?_⟩
      rw [← hal]
      exact r3
end
end PWK
namespace PW
theorem feas_congr {w w' : Wt} {x : Nat → Nat → Rat} {y : Nat → Rat} (eS : w'.S = w.S) (eW : w'.W = w.W) (es : ∀ i, i < w.S → w'.s i = w.s i ∧ w'.d i = w.d i) (ef : ∀ j, j < w.W → w'.f j = w.f j ∧ w'.e j = w.e j) (h : Feas w x y) : Feas w' x y := by
  refine ⟨fun i hi j hj => h.x0 i (by omega) j (by omega), fun j hj => h.y0 j (by omega), fun j hj => ?_, fun j hj => ?_, fun i hi => ?_⟩
  · rw [eS, h.flow j (by omega), (ef j (by omega)).1]
  · rw [eW] at hj
    rw [eS, (ef j hj).1, (ef j hj).2]
    have := h.dirt j hj
    rw [sm_congr (g := fun i => (w.d i : Rat) * x i j) fun i hi => by rw [(es i hi).2]]
    exact this
  · rw [eS] at hi
    rw [eW, (es i hi).1]
    exact h.cap i hi
theorem least_congr {w w' : Wt} {v : Rat} (eS : w'.S = w.S) (eW : w'.W = w.W) (es : ∀ i, i < w.S → w'.s i = w.s i ∧ w'.d i = w.d i) (ef : ∀ j, j < w.W → w'.f j = w.f j ∧ w'.e j = w.e j) (h : IsLeast w v) : IsLeast w' v := by
  obtain ⟨⟨x, y, a, b⟩, c⟩ := h
  refine ⟨⟨x, y, feas_congr eS eW es ef a, by rw [eW]; exact b⟩, fun x y F => ?_⟩
  rw [eW]
  exact c x y (feas_congr eS.symm eW.symm (fun i hi => by have := es i (by omega); exact ⟨this.1.symm, this.2.symm⟩) (fun j hj => by have := ef j (by omega); exact ⟨this.1.symm, this.2.symm⟩) F)
theorem sum_sm (l : List (Int × Int)) : (((l.map fun p => p.1).sum : Int) : Rat) = sm l.length (fun j => ((l.getD j (0, 0)).1 : Rat)) := by
  have h : ∀ n, n ≤ l.length → ((((l.take n).map fun p => p.1).sum : Int) : Rat) = sm n (fun j => ((l.getD j (0, 0)).1 : Rat)) := by
    intro n
    induction n with
    | zero => intro _; rfl
    | succ n ih =>
      intro hn
      rw [List.take_succ, List.getElem?_eq_getElem (by omega), List.map_append, List.sum_append, Rat.intCast_add, ih (by omega)]
      show _ = sm n _ + _
      congr 1
      show _ = ((l.getD n (0, 0)).1 : Rat)
      rw [List.getD_eq_getElem?_getD, List.getElem?_eq_getElem (by omega)]
      simp
  have := h l.length (Nat.le_refl _)
  rwa [List.take_length] at this
end PW
namespace PWK
open PySem PySem.Spec PyProof.Rows L2
theorem getD_at {l : List (Int × Int)} {i : Nat} (h : i < l.length) : l.getD i (0, 0) = l[i] := by
  rw [List.getD_eq_getElem?_getD, List.getElem?_eq_getElem h]; rfl
theorem prs_eq (src snk : List (Int × Int)) : PW.prs (wtOf src snk) (wtOf src snk).S = src.map (fun p => (p.2, p.1)) := by
  have e : PW.prs (wtOf src snk) (wtOf src snk).S = (List.range src.length).map fun i => ((src.getD i (0, 0)).2, (src.getD i (0, 0)).1) := rfl
  rw [e]
  refine List.ext_getElem (by simp) fun i a1 a2 => ?_
  rw [List.length_map] at a2
  rw [List.getElem_map, List.getElem_map, List.getElem_range, getD_at a2]
theorem Prs.take {H : Hp} {xs : List V} {l : List (Int × Int)} (h : Prs H xs l) (n : Nat) : Prs H (xs.take n) (l.take n) := by
  refine ⟨by rw [List.length_take, List.length_take, h.1], fun i v e => ?_⟩
  rw [List.getElem?_take] at e
  split at e
  · rename_i hi
    rw [List.getD_eq_getElem?_getD, List.getElem?_take, if_pos hi, ← List.getD_eq_getElem?_getD]
    exact h.2 i v e
  · cases e
theorem slA_side {K : PySem.W.Frag} {H : Hp} {a : Addr} {l : List (Int × Int)} {n : Nat} {Q : VK} (h : SideAt H a l) (q : ∀ H' a', Ext [] H H' → SideAt H' a' (l.take n) → Q (.ref a') H') : rSlA K (.ref a) none (some (n : Int)) H Q := by
  obtain ⟨xs, h1, h2⟩ := h
  refine ⟨a, xs, rfl, SqT.of h1, fun hw => ?_, fun hw p hp => ?_⟩
  · have hn : min n xs.length = xs.length := by have := hw.2; rw [HT.sIx_nat] at this; exact this
    refine q H a Ext.refl ⟨xs, h1, ?_⟩
    rw [List.take_of_length_le (by rw [← h2.1]; omega)]
    exact h2
  · refine q _ p (Ext.new hp) ⟨_, upd_same, ?_⟩
    have : cutV xs none (some (n : Int)) = xs.take n := by
      unfold cutV
      rw [HT.sIx_nat, HT.sIx_none, List.drop_zero, Nat.sub_zero, List.take_eq_take_iff]
      omega
    rw [this]
    exact (h2.take n).ext (Ext.new (S := []) hp)
theorem catA_side {K : PySem.W.Frag} {H : Hp} {a b : Addr} {l l' : List (Int × Int)} {Q : VK} (h : SideAt H a l) (h' : SideAt H b l') (n1 : 1 ≤ l.length) (n2 : l'.length = 1) (n3 : l.length ≤ 100) (q : ∀ H' p, Ext [] H H' → SideAt H' p (l ++ l') → Q (.ref p) H') :
    rCatA K (.ref a) (.ref b) H Q := by
  obtain ⟨xs, h1, h2⟩ := h
  obtain ⟨ys, h3, h4⟩ := h'
  have e1 := h2.1
  have e2 := h4.1
  refine ⟨a, b, xs, ys, rfl, rfl, SqT.of h1, SqT.of h3, Nat.le_trans (show xs.length + ys.length ≤ 101 by omega) (by decide), fun z => ?_, fun _ z => ?_, fun _ _ p hp => ?_⟩
  · rw [z] at e1; simp at e1; omega
  · rw [z] at e2; simp at e2; omega
  · refine q _ p (Ext.new hp) ⟨_, upd_same, ?_⟩
    have x : Ext [] H (upd H p (.tup (xs ++ ys))) := Ext.new hp
    obtain ⟨y, rfl⟩ := List.length_eq_one_iff.mp (e2.trans n2)
    obtain ⟨⟨i, j⟩, rfl⟩ := List.length_eq_one_iff.mp n2
    exact Prs.snoc (h2.ext x) (Pr.ext x (h4.2 0 y rfl))
theorem one_le1 : 1 ≤ sizeLine := by decide
theorem sideOk_of {l : List (Int × Int)} (h1 : 1 ≤ l.length) (h4 : l.length ≤ 4) (h : ∀ j, j < l.length → 1 ≤ (l.getD j (0, 0)).1 ∧ (l.getD j (0, 0)).1 ≤ 1000 ∧ 0 ≤ (l.getD j (0, 0)).2 ∧ (l.getD j (0, 0)).2 ≤ 1000) : SideOk l := by
  refine ⟨h1, h4, fun p hp => ?_⟩
  obtain ⟨i, hi, rfl⟩ := List.getElem_of_mem hp
  have := h i hi
  rw [getD_at hi] at this
  exact this
theorem take_getD {l : List (Int × Int)} {n j : Nat} (h : j < n) : (l.take n).getD j (0, 0) = l.getD j (0, 0) := by
  rw [List.getD_eq_getElem?_getD, List.getElem?_take, if_pos h, ← List.getD_eq_getElem?_getD]
theorem map_getD {l : List (Int × Int)} {g : Int × Int → Int × Int} {i : Nat} (hi : i < l.length) : (l.map g).getD i (0, 0) = g (l.getD i (0, 0)) := by
  rw [getD_at (by rw [List.length_map]; exact hi), List.getElem_map, getD_at hi]
theorem prs_map {H : Hp} {xs : List V} {l : List (Int × Int)} (g : Int × Int → Int × Int) (hl : xs.length = l.length) (h : ∀ i v, xs[i]? = some v → Pr H v (g (l.getD i (0, 0))).1 (g (l.getD i (0, 0))).2) : Prs H xs (l.map g) := by
  refine ⟨by rw [List.length_map]; exact hl, fun i v e => ?_⟩
  have hi : i < l.length := by
    rw [← hl]
    exact (List.getElem?_eq_some_iff.mp e).1
  rw [map_getD hi]
  exact h i v e
theorem DrawOk.at {l : List (Int × Int)} (h : DrawOk l) {i : Nat} (hi : i < l.length) : 1 ≤ (l.getD i (0, 0)).1 ∧ (l.getD i (0, 0)).1 ≤ 100 ∧ 0 ≤ (l.getD i (0, 0)).2 ∧ (l.getD i (0, 0)).2 ≤ 300 := h.2.2 _ (getD_mem hi)
/-- more: one source more -/
theorem more_ok {src : List (Int × Int)} {x y : Int} (h : DrawOk src) (hx : 0 ≤ x ∧ x < 50) (hy : 0 ≤ y ∧ y < 100) : SideOk ((src ++ [(1 + x, y)]).take 4) ∧ (src ++ [(1 + x, y)]).take 4 = src ++ [(1 + x, y)] := by
  have h3 := h.2.1
  have e : (src ++ [(1 + x, y)]).take 4 = src ++ [(1 + x, y)] := List.take_of_length_le (by rw [List.length_append]; simp; omega)
  rw [e]
  refine ⟨⟨by rw [List.length_append]; simp, by rw [List.length_append]; simp; omega, fun p hp => ?_⟩, rfl⟩
  rcases List.mem_append.mp hp with z | z
  · have := h.2.2 p z; omega
  · have : p = (1 + x, y) := by simpa using z
    subst this
    show 1 ≤ 1 + x ∧ 1 + x ≤ 1000 ∧ 0 ≤ y ∧ y ≤ 1000
    omega
/-! ### the laws of the least -/
theorem law_more {src snk : List (Int × Int)} {x y : Int} {v v' : Rat} (hx : 0 ≤ x) (h : PW.IsLeast (wtOf src snk) v) (h' : PW.IsLeast (wtOf (src ++ [(1 + x, y)]) snk) v') : v' ≤ v := by
  refine PW.least_more h h' (by show (src ++ [_]).length = src.length + 1; rw [List.length_append]; rfl) rfl (fun i hi => ?_) ?_ fun j _ => ⟨rfl, rfl⟩
  · have hi : i < src.length := hi
    have e : (src ++ [(1 + x, y)]).getD i (0, 0) = src.getD i (0, 0) := by rw [List.getD_eq_getElem?_getD, List.getElem?_append_left hi, ← List.getD_eq_getElem?_getD]
    exact ⟨congrArg Prod.fst e, congrArg Prod.snd e⟩
  · show 0 ≤ ((src ++ [(1 + x, y)]).getD src.length (0, 0)).1
    rw [List.getD_eq_getElem?_getD, List.getElem?_append_right (Nat.le_refl _)]
    simp
    omega
theorem law_cleaner {src snk : List (Int × Int)} {v v' : Rat} (ho : ∀ i, i < src.length → 0 ≤ (src.getD i (0, 0)).2) (hf : ∀ j, j < snk.length → 0 ≤ (snk.getD j (0, 0)).1) (h : PW.IsLeast (wtOf src snk) v) (h' : PW.IsLeast (wtOf (src.map fun p => (p.1, p.2 / 2)) snk) v') : v' ≤ v := by
  refine PW.least_cleaner h h' (by show (src.map _).length = _; rw [List.length_map]; rfl) rfl (fun i hi => ?_) (fun i hi => ?_) (fun j _ => rfl) fun j hj => ⟨hf j hj, Int.le_refl _⟩
  · show ((src.map fun p => (p.1, p.2 / 2)).getD i (0, 0)).1 = _
    rw [map_getD hi]
    rfl
  · show ((src.map fun p => (p.1, p.2 / 2)).getD i (0, 0)).2 ≤ (src.getD i (0, 0)).2
    rw [map_getD hi]
    have := ho i hi
    show (src.getD i (0, 0)).2 / 2 ≤ _
    omega
theorem law_dirtier {src snk dl : List (Int × Int)} {v v' : Rat} (hl : dl.length = snk.length) (hf : ∀ j, j < snk.length → 0 ≤ (snk.getD j (0, 0)).1) (hd : ∀ j, j < snk.length → (dl.getD j (0, 0)).1 = (snk.getD j (0, 0)).1 ∧ (snk.getD j (0, 0)).2 ≤ (dl.getD j (0, 0)).2)
    (h : PW.IsLeast (wtOf src snk) v) (h' : PW.IsLeast (wtOf src dl) v') : v' ≤ v :=
  PW.least_cleaner h h' rfl hl (fun _ _ => rfl) (fun _ _ => Int.le_refl _) (fun j hj => (hd j hj).1) fun j hj => ⟨hf j hj, (hd j hj).2⟩
theorem law_parts {src snk : List (Int × Int)} {v : Rat} {g : Nat → Rat} (h : PW.IsLeast (wtOf src snk) v) (hg : ∀ j, j < snk.length → PW.IsLeast (wtOf src [snk.getD j (0, 0)]) (g j)) : PW.sm snk.length g ≤ v := by
  refine PW.least_parts h fun j hj => PW.least_congr (w := wtOf src [snk.getD j (0, 0)]) (w' := (wtOf src snk).one j) rfl rfl (fun _ _ => ⟨rfl, rfl⟩) (fun j' hj' => ?_) (hg j hj)
  have : j' = 0 := by have hj' : j' < 1 := hj'; omega
  subst this
  exact ⟨rfl, rfl⟩
theorem law_flows {src snk : List (Int × Int)} {v : Rat} (o1 : SideOk src) (o2 : SideOk snk) (h : PW.IsLeast (wtOf src snk) v) : v ≤ (((snk.map fun p => p.1).sum : Int) : Rat) := by
  rw [PW.sum_sm]
  exact PW.least_flows (wtOf_ok o1 o2) h
theorem law_alone {src snk : List (Int × Int)} {v : Rat} {l : List (Int × Int)} (o1 : SideOk src) (o2 : SideOk (snk.take 1)) (h : PW.IsLeast (wtOf src (snk.take 1)) v) (hp : l.Perm (src.map fun p => (p.2, p.1))) (hs : l.Pairwise (fun a b => a.1 ≤ b.1)) :
    v = PW.alone l ((snk.getD 0 (0, 0)).1 : Rat) (((snk.getD 0 (0, 0)).1 : Rat) * ((snk.getD 0 (0, 0)).2 : Rat)) := by
  have hW : (wtOf src (snk.take 1)).W = 1 := by
    have := o2.1
    have h3 : (snk.take 1).length ≤ 1 := by rw [List.length_take]; omega
    show (snk.take 1).length = 1
    omega
  have := PW.alone_least (wtOf_ok o1 o2) hW (l := l) (by rw [prs_eq]; exact hp) hs
  have e : (snk.take 1).getD 0 (0, 0) = snk.getD 0 (0, 0) := take_getD (by decide)
  have e1 : (wtOf src (snk.take 1)).f 0 = (snk.getD 0 (0, 0)).1 := congrArg Prod.fst e
  have e2 : (wtOf src (snk.take 1)).e 0 = (snk.getD 0 (0, 0)).2 := congrArg Prod.snd e
  rw [e1, e2] at this
  exact h.uniq this
theorem sum_bound : ∀ (l : List (Int × Int)), (∀ p ∈ l, 1 ≤ p.1 ∧ p.1 ≤ 100) → 0 ≤ (l.map fun p => p.1).sum ∧ (l.map fun p => p.1).sum ≤ 100 * (l.length : Int)
  | [], _ => ⟨Int.le_refl _, by simp⟩
  | p :: l, h => by
    have h1 := h p (List.mem_cons_self ..)
    have h2 := sum_bound l fun q hq => h q (List.mem_cons_of_mem _ hq)
    rw [List.map_cons, List.sum_cons, List.length_cons]
    push_cast
    omega
end PWK
namespace PWK
open PySem PySem.Spec PyProof.Rows L2
section
variable {P : Program} {w : World} {K : PySem.W.Frag} {mg : Str → Option Value} {base : Heap}
abbrev nLaw : List Str := ["_law_script", "_law_row", "_law_sources", "_law_sinks", "_law_flow", "_law_most", "_law_base", "_law_cleaner", "_law_more", "_law_dirtier", "_law_water_here", "_law_found", "_law_alone_here", "_law_one"]
theorem scLaw : FnScope nLaw ["_law_script"] (defScope sLaw) := ⟨rfl, rfl, rfl, by decide +kernel, rfl, by decide +kernel, by decide +kernel⟩
def spLaw (K : PySem.W.Frag) (Pt : Addr) : Sp := fun vs H Q _ => ∃ (sc : Addr) (ns : List Int), vs = [.ref sc] ∧ SqL K H sc (ns.map V.int) ∧ GxR.TabG H Pt ∧ ∀ H', Q (.bl true) H'
set_option maxHeartbeats 4000000 in
theorem ok_law {f fT fW fA fL fE fS Pt : Addr} {fd fdT fdW fdA fdL fdE fdS : FuncData} (F : Fun K "law" "law" sLaw f fd) (mt : mg "tuple" = none) (mm : mg "min" = none) (ms : mg "sum" = none)
    (GT : FnOk P w K mg base CX0 1 fT fdT ["_law_row", "_law_many"] (spTaken K)) (kT : PySem.W.keepIn K (.ref fT) = true) (bT : Binds K fdT ["_law_row", "_law_many"] []) (gT : mg "_law_taken" = some (.ref fT))
    (GW : FnOk P w K mg base CX0 3 fW fdW ["_law_row"] (spLWater K)) (kW : PySem.W.keepIn K (.ref fW) = true) (bW : Binds K fdW ["_law_row"] []) (gW : mg "_law_water" = some (.ref fW))
    (GA : FnOk P w K mg base CX0 2 fA fdA ["_law_found", "_law_due"] spAlike) (kA : PySem.W.keepIn K (.ref fA) = true) (bA : Binds K fdA ["_law_found", "_law_due"] []) (gA : mg "_law_alike" = some (.ref fA))
    (GL : FnOk P w K mg base CX0 9 fL fdL ["water"] (spLeast Pt)) (kL : PySem.W.keepIn K (.ref fL) = true) (bL : Binds K fdL ["water"] []) (gL : mg "least_fresh" = some (.ref fL))
    (GE : FnOk P w K mg base CX0 3 fE fdE ["_law_sources", "_law_flow", "_law_most"] spLAlone) (kE : PySem.W.keepIn K (.ref fE) = true) (bE : Binds K fdE ["_law_sources", "_law_flow", "_law_most"] []) (gE : mg "_law_alone" = some (.ref fE))
    (GS : FnOk P w K mg base CX0 3 fS fdS ["_law_some"] spTotal) (kS : PySem.W.keepIn K (.ref fS) = true) (bS : Binds K fdS ["_law_some"] []) (gS : mg "_law_sum" = some (.ref fS)) :
    FnOk P w K mg base CX0 10 f fd ["_law_script"] (spLaw K Pt) := by
  refine F.ok scLaw (fun vs H Q E h => ?_) (fun cdv A outer s H vs Q E hr h => ?_)
  · obtain ⟨sc, ns, rfl, _⟩ := h
    rfl
  · obtain ⟨sc, ns, rfl, hsc, hT, q⟩ := h
    have hr1 : Room 1 _ := hr.mono (by decide)
    have hr2 : Room 2 _ := hr.mono (by decide)
    have hr3 : Room 3 _ := hr.mono (by decide)
    refine ⟨_, pss_cons (ps_set (i := 1) scLaw.nd rfl (.inr rfl) (pe_lst (pa_cons (pv 0) (pa_cons pe_int (pa_cons pe_int (pa_cons pe_int pa_nil))))))
      (pss_cons (ps_asg (pe_call GW hr3 rfl gW kW bW .nil pass0 (pa_cons (pv 1) pa_nil)) (pg_tup rfl (pgs_cons (pg_name (i := 2) scLaw.nd rfl (.inr rfl)) (pgs_cons (pg_name (i := 3) scLaw.nd rfl (.inl rfl)) pgs_nil))))
      (pss_cons (ps_asg (tx (pv 3) pe_int) (pg_tup rfl (pgs_cons (pg_name (i := 4) scLaw.nd rfl (.inl rfl)) (pgs_cons (pg_name (i := 5) scLaw.nd rfl (.inl rfl)) pgs_nil))))
      (pss_cons (ps_if (pt_not (pt_val (pe_call GA hr2 rfl gA kA bA .nil pass0 (pa_cons (pe_call GL hr rfl gL kL bL .nil pass0 (pa_cons (pe_tup (pa_cons (pv 2) (pa_cons (pe_slice sl_tupA (pv 3) po_none (po_some pe_int)) pa_nil))) pa_nil))
          (pa_cons (pe_call GE hr3 rfl gE kE bE .nil pass0 (pa_cons (pv 2) (pa_cons (pv 4) (pa_cons (pv 5) pa_nil)))) pa_nil))))) pss_never pss_nil)
      (pss_cons (ps_set (i := 6) scLaw.nd rfl (.inl rfl) (pe_call GL hr rfl gL kL bL .nil pass0 (pa_cons (pe_tup (pa_cons (pv 2) (pa_cons (pv 3) pa_nil))) pa_nil)))
      (pss_cons (ps_set (i := 7) scLaw.nd rfl (.inl rfl) (pe_callTy call_tuple_of rfl mt (by decide +kernel) (pa_cons
          (pe_lc (own := [("_law_one", 13)]) (g := gName 13) rfl scLaw.nd (pi_tup (pv 2)) (blkOk_by (N := nLaw) (sc := defScope sLaw) (by decide +kernel)) (fun _ _ _ _ _ => pg_name (i := 13) scLaw.nd rfl (.inl rfl)) (fun _ _ _ _ _ => pts_nil)
            (fun _ _ _ _ _ => pe_tup (pa_cons (txB K (pv 13) pe_int) (pa_cons (pe_op op_fdiv (txB K (pv 13) pe_int) pe_int) pa_nil)))) pa_nil)))
      (pss_cons (ps_set (i := 8) scLaw.nd rfl (.inl rfl) (pe_slice sl_tupA (pe_op op_catA (pv 2) (pe_tup (pa_cons (pe_tup (pa_cons (pe_op op_add pe_int (pe_call GT hr1 rfl gT kT bT .nil pass0 (pa_cons (pv 1) (pa_cons pe_int pa_nil))))
          (pa_cons (pe_call GT hr1 rfl gT kT bT .nil pass0 (pa_cons (pv 1) (pa_cons pe_int pa_nil))) pa_nil))) pa_nil))) po_none (po_some pe_int)))
      (pss_cons (ps_set (i := 9) scLaw.nd rfl (.inl rfl) (pe_callTy call_tuple_of rfl mt (by decide +kernel) (pa_cons
          (pe_lc (own := [("_law_one", 13)]) (g := gName 13) rfl scLaw.nd (pi_tup (pv 3)) (blkOk_by (N := nLaw) (sc := defScope sLaw) (by decide +kernel)) (fun _ _ _ _ _ => pg_name (i := 13) scLaw.nd rfl (.inl rfl)) (fun _ _ _ _ _ => pts_nil)
            (fun _ _ _ _ _ => pe_tup (pa_cons (txB K (pv 13) pe_int) (pa_cons (pe_callB (call_min2 rfl) rfl mm (by decide +kernel) (pa_cons pe_int (pa_cons (pe_op op_add (txB K (pv 13) pe_int)
              (pe_call GT hr1 rfl gT kT bT .nil pass0 (pa_cons (pv 1) (pa_cons pe_int pa_nil)))) pa_nil))) pa_nil)))) pa_nil)))
      (pss_cons (ps_for PassesOwn.never rfl (pi_list (pe_lst (pa_cons (pe_tup (pa_cons (pv 7) (pa_cons (pv 3) pa_nil))) (pa_cons (pe_tup (pa_cons (pv 8) (pa_cons (pv 3) pa_nil))) (pa_cons (pe_tup (pa_cons (pv 2) (pa_cons (pv 9) pa_nil))) pa_nil)))))
          (pg_name (i := 10) scLaw.nd rfl (.inl rfl))
        (pss_cons (ps_set (i := 11) scLaw.nd rfl (.inl rfl) (pe_call GL hr rfl gL kL bL .nil pass0 (pa_cons (pv 10) pa_nil)))
        (pss_one (ps_if (pt_cmpR op_gt (pe_op op_mulW (tx (pv 11) pe_int) (tx (pv 6) pe_int)) (pe_op op_mulW (tx (pv 6) pe_int) (tx (pv 11) pe_int)) (nomark _)) pss_never pss_nil))))
      (pss_cons (ps_set (i := 12) scLaw.nd rfl (.inl rfl) (pe_call GS hr3 rfl gS kS bS .nil pass0 (pa_cons
          (pe_lc (own := [("_law_one", 13)]) (g := gName 13) rfl scLaw.nd (pi_tup (pv 3)) (blkOk_by (N := nLaw) (sc := defScope sLaw) (by decide +kernel)) (fun _ _ _ _ _ => pg_name (i := 13) scLaw.nd rfl (.inl rfl)) (fun _ _ _ _ _ => pts_nil)
            (fun _ _ _ _ _ => pe_call GL hr rfl gL kL bL .nil pass0 (pa_cons (pe_tup (pa_cons (pv 2) (pa_cons (pe_tup (pa_cons (pv 13) pa_nil)) pa_nil))) pa_nil))) pa_nil)))
      (pss_one (ps_ret (pe_and (pe_cmpR op_ge (pe_op op_mulW (tx (pv 6) pe_int) (tx (pv 12) pe_int)) (pe_op op_mulW (tx (pv 12) pe_int) (tx (pv 6) pe_int)) (nomark _))
        (pe_one (pe_cmpR op_le (tx (pv 6) pe_int) (pe_op op_mulW (pe_callB (cr_sum rfl) rfl ms (by decide +kernel) (pa_cons
          (pe_lc (own := [("_law_one", 13)]) (g := gName 13) rfl scLaw.nd (pi_tup (pv 3)) (blkOk_by (N := nLaw) (sc := defScope sLaw) (by decide +kernel)) (fun _ _ _ _ _ => pg_name (i := 13) scLaw.nd rfl (.inl rfl)) (fun _ _ _ _ _ => pts_nil)
            (fun _ _ _ _ _ => txB K (pv 13) pe_int)) pa_nil)) (tx (pv 6) pe_int)) (nomark _))))))))))))))), ?_⟩
    refine ⟨_, rfl, by show 4 ≤ sizeLine; decide, fun r hrn => ?_⟩
    have e0 : Ext [] H (upd H r (.lst [.ref sc, .int 0, .int 4034, .int 0])) := Ext.new hrn
    have hR0 : RowAt K sc ns (upd H r (.lst [.ref sc, .int 0, .int 4034, .int 0])) r := ⟨0, 4034, 0, upd_same, sqL_ext e0 (by simp) hsc⟩
    have hT0 := TabG.ext e0 hT
    generalize upd H r (.lst [.ref sc, .int 0, .int 4034, .int 0]) = H0 at hR0 hT0 ⊢
    refine ⟨_, rfl, r, sc, ns, rfl, hR0, fun H1 a b src snk e1 hR1 wa hwa hsa hsb dsrc dsnk => ?_⟩
    have hT1 := TabG.ext e1 hT0
    have o1 := dsrc.side
    have o2 := dsnk.side
    have k1 := dsrc.2.1
    have k2 := dsnk.2.1
    have k0 := dsnk.1
    have k3 := dsrc.1
    refine ⟨wa, _, rfl, SqT.of hwa, rfl, _, _, rfl, _, _, rfl, rfl, ?_⟩
    obtain ⟨ys, hb1, pb⟩ := id hsb
    obtain ⟨xs, ha1, pa⟩ := id hsa
    obtain ⟨v0, hv0, hp0⟩ := pb.get (i := 0) (by omega)
    obtain ⟨p0, rfl, hp0⟩ := hp0
    have b0 := dsnk.at (i := 0) (by omega)
    refine ⟨_, rfl, b, ys, 0, _, rfl, rfl, SqT.of hb1, atI_nat (j := 0) hv0, p0, _, rfl, SqT.of hp0, rfl, _, _, rfl, _, _, rfl, rfl, ?_⟩
    refine ⟨_, rfl, _, rfl, _, rfl, slA_side (n := 1) hsb fun H2 b1 e2 hs2 => ⟨two_le, fun wp hwp => ?_⟩⟩
    have e3 : Ext [] H1 (upd H2 wp (.tup [.ref a, .ref b1])) := e2.trans (Ext.new hwp)
    have o3 : SideOk (snk.take 1) := sideOk_of (by rw [List.length_take]; omega) (by rw [List.length_take]; omega) fun j hj => by
      rw [List.length_take] at hj
      have hj1 : j < 1 := by omega
      rw [take_getD hj1]
      have := dsnk.at (i := j) (by omega)
      omega
    refine ⟨wp, src, snk.take 1, rfl, ⟨a, b1, upd_same, hsa.ext e3, hs2.ext (Ext.new (S := []) hwp)⟩, o1, o3, TabG.ext e3 hT1, fun H4 v1 r1 e4 hv1 hl1 hk1 => ?_⟩
    have e14 := e3.trans e4
    refine ⟨_, rfl, _, rfl, _, rfl, a, _, _, src, rfl, hsa.ext e14, by omega, fun p hp => by have := dsrc.2.2 p hp; omega, by omega, by omega, by omega, by omega, fun H5 v2 l e5 hperm hpw hv2 => ?_⟩
    have hr := law_alone o1 o3 hl1 hperm hpw
    rw [← hr] at hv2
    obtain ⟨a1, rfl, h1⟩ := Pr.ext e5 hv1
    obtain ⟨a2, rfl, h2⟩ := hv2
    refine ⟨a1, a2, _, _, rfl, h1, h2, fun H6 e6 => ⟨true, rfl, ?_⟩⟩
    have e16 := e14.trans (e5.trans e6)
    refine ⟨_, rfl, _, rfl, two_le, fun wp2 hwp2 => ?_⟩
    have e17 := e16.trans (Ext.new (S := []) (o := .tup [.ref a, .ref b]) hwp2)
    refine ⟨wp2, src, snk, rfl, ⟨a, b, upd_same, hsa.ext e17, hsb.ext e17⟩, o1, o2, TabG.ext e17 hT1, fun H8 vb rb e8 hvb hlb hkb => ?_⟩
    have e18 := e17.trans e8
    refine ⟨_, rfl, a, rfl, ⟨xs, SqT.of (e18.tup _ _ ha1)⟩, ?_⟩
    refine lc_map walk_tup (fun i v H' => Pr H' v (src.getD i (0, 0)).1 ((src.getD i (0, 0)).2 / 2)) (fun _ _ _ _ _ x h => Pr.ext x h) yat_ext (fun H' e => SqT.of (e.tup _ _ (e18.tup _ _ ha1))) (by rw [pa.1]; omega) (fun k x H9 H10 hk ex y R k2 => ?_) (fun D H9 cs hD e9 hL hl hv => ?_)
    · obtain ⟨rfl, hx⟩ := y
      obtain ⟨t, rfl, ht⟩ := Pr.ext (e18.trans ex) (pa.2 k x hx)
      exact ⟨rfl, _, rfl, t, _, 0, _, rfl, rfl, SqT.of ht, atI_0, _, rfl, t, _, 1, _, rfl, rfl, SqT.of ht, atI_1, _, _, rfl, rfl, ⟨by decide, by decide⟩, two_le, fun p hp => k2 _ _ (Ext.new hp) ⟨p, rfl, upd_same⟩⟩
    refine ⟨D, cs, rfl, .inl ⟨SqL.of hL, fun ca hca => ?_⟩⟩
    have e10 : Ext [] H1 (upd H9 ca (.tup cs)) := (e18.trans e9).trans (Ext.new hca)
    have hsc' : SideAt (upd H9 ca (.tup cs)) ca (src.map fun p => (p.1, p.2 / 2)) :=
      ⟨cs, upd_same, (prs_map (fun p => (p.1, p.2 / 2)) (by rw [hl, pa.1]) hv).ext (Ext.new (S := []) hca)⟩
    have hvb10 := (hvb.ext e9).ext (Ext.new (S := []) (o := .tup cs) hca)
    generalize upd H9 ca (.tup cs) = H10 at e10 hsc' hvb10 ⊢
    have hR10 := hR1.ext0 e10
    refine ⟨_, rfl, _, rfl, r, sc, ns, 50, rfl, hR10, by decide, by decide, fun H11 n1 e11 hR11 n10 n11 => ⟨_, _, rfl, rfl, _, rfl, r, sc, ns, 100, rfl, hR11, by decide, by decide, fun H12 n2 e12 hR12 n20 n21 => ⟨two_le, fun p1 hp1 => ⟨one_le1, fun p2 hp2 => ?_⟩⟩⟩⟩
    have e13 : Ext [] H12 (upd (upd H12 p1 (.tup [.int (1 + n1), .int n2])) p2 (.tup [.ref p1])) := (Ext.new hp1).trans (Ext.new hp2)
    have hs13 : SideAt (upd (upd H12 p1 (.tup [.int (1 + n1), .int n2])) p2 (.tup [.ref p1])) p2 [(1 + n1, n2)] := by
      refine ⟨[.ref p1], upd_same, rfl, fun i v e => ?_⟩
      cases i with
      | zero =>
        have : V.ref p1 = v := Option.some.inj e
        subst this
        exact ⟨p1, rfl, (Ext.new (S := []) hp2).tup _ _ upd_same⟩
      | succ i => simp at e
    generalize upd (upd H12 p1 (.tup [.int (1 + n1), .int n2])) p2 (.tup [.ref p1]) = H13 at e13 hs13 ⊢
    have e1013 : Ext [r] H10 H13 := (e11.trans e12).trans e13.up
    refine catA_side ((hsa.ext e10).ext e1013) hs13 (by omega) rfl (by omega) fun H14 p3 e14' hs14 => ⟨_, rfl, slA_side (n := 4) hs14 fun H15 ma e15 hs15 => ?_⟩
    obtain ⟨om, em⟩ := more_ok (x := n1) (y := n2) dsrc ⟨n10, n11⟩ ⟨n20, n21⟩
    rw [em] at hs15 om
    have e1315 : Ext [] H13 H15 := e14'.trans e15
    have e1015 : Ext [r] H10 H15 := e1013.trans e1315.up
    have eR : Ext [r] H1 H15 := e10.up.trans e1015
    have hR15 : RowAt K sc ns H15 r := hR12.ext0 (e13.trans e1315)
    have hvb15 := hvb10.ext e1015
    have hsc15 := hsc'.ext e1015
    have hsa15 := hsa.ext eR
    have hsb15 := hsb.ext eR
    have hT15 := TabG.ext eR hT1
    have hb15 := eR.tup _ _ hb1
    obtain ⟨rw0, hrw0⟩ := hR15.some
    refine ⟨_, rfl, b, rfl, ⟨ys, SqT.of hb15⟩, ?_⟩
    refine fun D2 hD2 => lc_it (D := D2) walk_tup (fun i H' => ∃ zs dl, Ext [r] H15 H' ∧ RowAt K sc ns H' r ∧ H' D2 = some (.lst zs) ∧ dl.length = i ∧ Prs H' zs dl ∧ ∀ j, j < i → (dl.getD j (0, 0)).1 = (snk.getD j (0, 0)).1 ∧ (snk.getD j (0, 0)).2 ≤ (dl.getD j (0, 0)).2 ∧ (dl.getD j (0, 0)).2 ≤ 1000)
      ⟨[], [], Ext.new hD2, hR15.ext0 (Ext.new hD2), upd_same, rfl, ⟨rfl, fun i v e => by simp at e⟩, fun j hj => by omega⟩ (fun i H' _ ⟨_, _, e, _⟩ => SqT.of (e.tup _ _ hb15))
      (fun i x H16 H17 hi ⟨zs, dl, e16', hR16, hz16, hl16, hP16, hd16⟩ y => ?_) (fun H16 ⟨zs, dl, e16', hR16, hz16, hl16, hP16, hd16⟩ => ?_)
    · obtain ⟨rfl, hx⟩ := y
      have hi' : i < snk.length := by rw [← pb.1]; exact hi
      have bi := dsnk.at hi'
      obtain ⟨t, rfl, ht⟩ := Pr.ext (eR.trans e16') (pb.2 i x hx)
      refine ⟨rfl, _, rfl, t, _, 0, _, rfl, rfl, SqT.of ht, atI_0, _, rfl, t, _, 1, _, rfl, rfl, SqT.of ht, atI_1, _, rfl, r, sc, ns, 30, rfl, hR16, by decide, by decide, fun H18 z e18' hR18 z0 z1 => ⟨_, _, rfl, rfl, _, _, rfl, two_le, fun p hp => ?_⟩⟩
      have hmin : (if (snk.getD i (0, 0)).2 + z < 1000 then (snk.getD i (0, 0)).2 + z else 1000) = (snk.getD i (0, 0)).2 + z := if_pos (by omega)
      rw [hmin]
      have eNew : Ext [] H18 (upd H18 p (.tup [.int (snk.getD i (0, 0)).1, .int ((snk.getD i (0, 0)).2 + z)])) := Ext.new hp
      have hpt : upd H18 p (.tup [.int (snk.getD i (0, 0)).1, .int ((snk.getD i (0, 0)).2 + z)]) p = some (.tup [.int (snk.getD i (0, 0)).1, .int ((snk.getD i (0, 0)).2 + z)]) := upd_same
      generalize upd H18 p (.tup [.int (snk.getD i (0, 0)).1, .int ((snk.getD i (0, 0)).2 + z)]) = H19 at eNew hpt ⊢
      have e1719 : Ext [r] H17 H19 := e18'.trans eNew.up
      have hD2r : D2 ≠ r := (ne_of_none hrw0 hD2).symm
      have hz19 : H19 D2 = some (.lst zs) := e1719.lst (by simpa using hD2r) hz16
      refine ⟨zs, hz19, Nat.lt_of_lt_of_le (show zs.length < 100000 by have := hP16.1; omega) (by decide), ?_⟩
      have e19 := e16'.trans e1719
      have put : Ext [D2] H19 (upd H19 D2 (.lst (zs ++ [.ref p]))) := Ext.put (by simp) hz19
      refine ⟨_, dl ++ [((snk.getD i (0, 0)).1, (snk.getD i (0, 0)).2 + z)], e19.hidS hD2, hR15.hid e19 (hR18.ext0 eNew) hD2, upd_same, by rw [List.length_append, hl16]; rfl, Prs.snoc ((hP16.ext e1719).ext put) ⟨p, rfl, put.tup _ _ hpt⟩, fun j hj => ?_⟩
      rcases Nat.lt_or_ge j i with w1 | w1
      · rw [List.getD_eq_getElem?_getD, List.getElem?_append_left (by omega), ← List.getD_eq_getElem?_getD]
        exact hd16 j w1
      · have : j = i := by omega
        subst this
        rw [List.getD_eq_getElem?_getD, List.getElem?_append_right (by omega), hl16, Nat.sub_self]
        show (snk.getD j (0, 0)).1 = _ ∧ (snk.getD j (0, 0)).2 ≤ (snk.getD j (0, 0)).2 + z ∧ (snk.getD j (0, 0)).2 + z ≤ 1000
        exact ⟨rfl, by omega, by omega⟩
    refine ⟨D2, zs, rfl, .inl ⟨SqL.of hz16, fun da hda => ?_⟩⟩
    rw [pb.1] at hl16 hd16
    have e17' : Ext [r] H15 (upd H16 da (.tup zs)) := e16'.trans (Ext.new hda)
    have hsd : SideAt (upd H16 da (.tup zs)) da dl := ⟨zs, upd_same, hP16.ext (Ext.new (S := []) hda)⟩
    generalize upd H16 da (.tup zs) = H17 at e17' hsd ⊢
    have od : SideOk dl := sideOk_of (by omega) (by omega) fun j hj => by
      have w1 := hd16 j (by omega)
      have w2 := dsnk.at (i := j) (by omega)
      omega
    have hvb17 := hvb15.ext e17'
    have hsc17 := hsc15.ext e17'
    have hsm17 := hs15.ext e17'
    have hsa17 := hsa15.ext e17'
    have hsb17 := hsb15.ext e17'
    have hT17 := TabG.ext e17' hT15
    have oc : SideOk (src.map fun p => (p.1, p.2 / 2)) := sideOk_of (by rw [List.length_map]; omega) (by rw [List.length_map]; omega) fun j hj => by
      rw [List.length_map] at hj
      rw [map_getD hj]
      have := dsrc.at hj
      show 1 ≤ (src.getD j (0, 0)).1 ∧ (src.getD j (0, 0)).1 ≤ 1000 ∧ 0 ≤ (src.getD j (0, 0)).2 / 2 ∧ (src.getD j (0, 0)).2 / 2 ≤ 1000
      omega
    have hf0 : ∀ j, j < snk.length → 0 ≤ (snk.getD j (0, 0)).1 := fun j hj => by have := dsnk.at hj; omega
    obtain ⟨ab, rfl, hab⟩ := id hvb17
    refine ⟨_, rfl, _, rfl, two_le, fun q1 hq1 => ⟨_, rfl, _, rfl, two_le, fun q2 hq2 => ⟨_, rfl, _, rfl, two_le, fun q3 hq3 => ⟨by show 3 ≤ sizeLine; decide, fun ql hql => ?_⟩⟩⟩⟩
    have z1 : Ext [] H17 (upd H17 q1 (.tup [.ref ca, .ref b])) := Ext.new hq1
    have z2 : Ext [] (upd H17 q1 (.tup [.ref ca, .ref b])) (upd (upd H17 q1 (.tup [.ref ca, .ref b])) q2 (.tup [.ref ma, .ref b])) := Ext.new hq2
    have z3 : Ext [] (upd (upd H17 q1 (.tup [.ref ca, .ref b])) q2 (.tup [.ref ma, .ref b])) (upd (upd (upd H17 q1 (.tup [.ref ca, .ref b])) q2 (.tup [.ref ma, .ref b])) q3 (.tup [.ref a, .ref da])) := Ext.new hq3
    have z4 : Ext [] (upd (upd (upd H17 q1 (.tup [.ref ca, .ref b])) q2 (.tup [.ref ma, .ref b])) q3 (.tup [.ref a, .ref da])) (upd (upd (upd (upd H17 q1 (.tup [.ref ca, .ref b])) q2 (.tup [.ref ma, .ref b])) q3 (.tup [.ref a, .ref da])) ql (.lst [.ref q1, .ref q2, .ref q3])) := Ext.new hql
    have t1 := z4.tup _ _ (z3.tup _ _ (z2.tup _ _ (show upd H17 q1 (.tup [.ref ca, .ref b]) q1 = some (.tup [.ref ca, .ref b]) from upd_same)))
    have t2 := z4.tup _ _ (z3.tup _ _ (show upd (upd H17 q1 (.tup [.ref ca, .ref b])) q2 (.tup [.ref ma, .ref b]) q2 = some (.tup [.ref ma, .ref b]) from upd_same))
    have t3 := z4.tup _ _ (show upd (upd (upd H17 q1 (.tup [.ref ca, .ref b])) q2 (.tup [.ref ma, .ref b])) q3 (.tup [.ref a, .ref da]) q3 = some (.tup [.ref a, .ref da]) from upd_same)
    have tl : upd (upd (upd (upd H17 q1 (.tup [.ref ca, .ref b])) q2 (.tup [.ref ma, .ref b])) q3 (.tup [.ref a, .ref da])) ql (.lst [.ref q1, .ref q2, .ref q3]) ql = some (.lst [.ref q1, .ref q2, .ref q3]) := upd_same
    have e1718 := ((z1.trans z2).trans z3).trans z4
    clear z1 z2 z3 z4
    generalize upd (upd (upd (upd H17 q1 (.tup [.ref ca, .ref b])) q2 (.tup [.ref ma, .ref b])) q3 (.tup [.ref a, .ref da])) ql (.lst [.ref q1, .ref q2, .ref q3]) = H18 at t1 t2 t3 tl e1718 ⊢
    have hall : ∀ x ∈ [V.ref q1, V.ref q2, V.ref q3], ∃ wa' src' snk', x = V.ref wa' ∧ WaterAt H18 wa' src' snk' ∧ SideOk src' ∧ SideOk snk' ∧ ∀ v', PW.IsLeast (wtOf src' snk') v' → v' ≤ rb := fun x hx => by
      rcases List.mem_cons.mp hx with w1 | w1
      · exact ⟨q1, _, _, w1, ⟨ca, b, t1, hsc17.ext e1718, hsb17.ext e1718⟩, oc, o2, fun v' h' => law_cleaner (fun i hi => by have := dsrc.at hi; omega) hf0 hlb h'⟩
      · rcases List.mem_cons.mp w1 with w1 | w1
        · exact ⟨q2, _, _, w1, ⟨ma, b, t2, hsm17.ext e1718, hsb17.ext e1718⟩, om, o2, fun v' h' => law_more n10 hlb h'⟩
        · rcases List.mem_cons.mp w1 with w1 | w1
          · exact ⟨q3, _, _, w1, ⟨a, da, t3, hsa17.ext e1718, hsd.ext e1718⟩, o1, od, fun v' h' => law_dirtier hl16 hf0 (fun j hj => ⟨(hd16 j hj).1, (hd16 j hj).2.1⟩) hlb h'⟩
          · cases w1
    refine ⟨ql, rfl, ⟨_, SqL.of tl⟩, ?_⟩
    refine for_list (xs := [.ref q1, .ref q2, .ref q3]) (fun i σ H' => ∃ y10 y11, σ = [some (.ref sc), some (.ref r), some (.ref a), some (.ref b), some (.int (snk.getD 0 (0, 0)).1), some (.int (snk.getD 0 (0, 0)).2), some (.ref ab), some (.ref ca), some (.ref ma), some (.ref da), y10, y11, none, none] ∧ Ext [] H18 H')
      ⟨none, none, rfl, Ext.refl⟩ (fun i σ H' _ ⟨_, _, _, e⟩ => SqL.of (e.lst0 tl)) (fun i x σ H19 hx ⟨y10, y11, hσ, e19⟩ => ?_) (fun σ H19 ⟨y10, y11, hσ, e19⟩ => ?_)
    · subst hσ
      obtain ⟨wa', src', snk', rfl, hW, oa, ob, hle⟩ := hall x (List.mem_of_getElem? hx)
      refine ⟨_, rfl, wa', src', snk', rfl, hW.ext e19, oa, ob, TabG.ext (e1718.trans e19) hT17, fun H20 vf rf e20 hvf hlf hkf => ?_⟩
      obtain ⟨af, rfl, haf⟩ := hvf
      have hab20 := (e1718.trans (e19.trans e20)).tup _ _ hab
      refine ⟨_, rfl, af, _, 0, _, rfl, rfl, SqT.of haf, atI_0, _, rfl, ab, _, 1, _, rfl, rfl, SqT.of hab20, atI_1, _, _, rfl, rfl, mw hkf.1 (dlt hkb) ⟨by decide, by decide, by decide⟩, ?_⟩
      refine ⟨_, rfl, ab, _, 0, _, rfl, rfl, SqT.of hab20, atI_0, _, rfl, af, _, 1, _, rfl, rfl, SqT.of haf, atI_1, _, _, rfl, rfl, mw hkb.1 (dlt hkf) ⟨by decide, by decide, by decide⟩, _, _, rfl, rfl, _, rfl, ?_⟩
      have hno : ¬ rf.num * (rb.den : Int) > rb.num * (rf.den : Int) := fun z => by
        have w1 := (PW.less_iff rb rf).mp z
        have w2 := hle rf hlf
        exact absurd w1 (Rat.not_lt.mpr w2)
      rw [decide_eq_false hno]
      exact ⟨_, _, rfl, e19.trans e20⟩
    · subst hσ
      have e1719 := e1718.trans e19
      have hab19 := e1719.tup _ _ hab
      have hsa19 := hsa17.ext e1719
      have hb19 : H19 b = some (.tup ys) := e1719.tup _ _ (e17'.tup _ _ hb15)
      have pb19 : Prs H19 ys snk := (((pb.ext eR).ext e17').ext e1719)
      have hT19 := TabG.ext e1719 hT17
      refine ⟨_, rfl, b, rfl, ⟨ys, SqT.of hb19⟩, ?_⟩
      refine lc_map walk_tup (fun i v H' => ∃ u, Rt H' v u ∧ PW.IsLeast (wtOf src [snk.getD i (0, 0)]) u ∧ PW.Bk 1300 u) (fun _ _ _ _ _ x ⟨u, h1, h2, h3⟩ => ⟨u, Pr.ext x h1, h2, h3⟩) yat_ext (fun H' e => SqT.of (e.tup _ _ hb19)) (by rw [pb.1]; omega) (fun k x H20 H21 hk ex y R k2 => ?_) (fun D3 H20 zs3 hD3 e20 hL3 hl3 hv3 => ?_)
      · obtain ⟨rfl, hx⟩ := y
        have hi' : k < snk.length := by rw [← pb.1]; exact hk
        have bi := dsnk.at hi'
        obtain ⟨t, rfl, ht⟩ := Pr.ext ex (pb19.2 k x hx)
        refine ⟨rfl, _, rfl, _, rfl, one_le1, fun s1 hs1 => ⟨two_le, fun w1 hw1 => ?_⟩⟩
        have x1 : Ext [] H21 (upd H21 s1 (.tup [.ref t])) := Ext.new hs1
        have x2 : Ext [] (upd H21 s1 (.tup [.ref t])) (upd (upd H21 s1 (.tup [.ref t])) w1 (.tup [.ref a, .ref s1])) := Ext.new hw1
        have x12 := x1.trans x2
        have ht1 := x12.tup _ _ ht
        have hs1' := x2.tup _ _ (show upd H21 s1 (.tup [.ref t]) s1 = some (.tup [.ref t]) from upd_same)
        have hw1' : upd (upd H21 s1 (.tup [.ref t])) w1 (.tup [.ref a, .ref s1]) w1 = some (.tup [.ref a, .ref s1]) := upd_same
        clear x1 x2
        generalize upd (upd H21 s1 (.tup [.ref t])) w1 (.tup [.ref a, .ref s1]) = H22 at x12 ht1 hs1' hw1' ⊢
        refine ⟨w1, src, [snk.getD k (0, 0)], rfl, ⟨a, s1, hw1', hsa19.ext (ex.trans x12), [.ref t], hs1', rfl, fun i v e => ?_⟩, o1, sideOk_of (Nat.le_refl 1) (by show 1 ≤ 4; decide) (fun j hj => ?_), TabG.ext (ex.trans x12) hT19, fun H23 v u e23 hv hl hk' => k2 v H23 (x12.trans e23) ⟨u, hv, hl, hk'⟩⟩
        · cases i with
          | zero =>
            have : V.ref t = v := Option.some.inj e
            subst this
            exact ⟨t, rfl, ht1⟩
          | succ i => simp at e
        · have : j = 0 := by have hj : j < 1 := hj; omega
          subst this
          show 1 ≤ (snk.getD k (0, 0)).1 ∧ (snk.getD k (0, 0)).1 ≤ 1000 ∧ 0 ≤ (snk.getD k (0, 0)).2 ∧ (snk.getD k (0, 0)).2 ≤ 1000
          omega
      · rw [pb.1] at hl3
        obtain ⟨g, hg⟩ : ∃ g : Nat → Rat, ∀ j, j < snk.length → PW.IsLeast (wtOf src [snk.getD j (0, 0)]) (g j) ∧ PW.Bk 1300 (g j) := by
          refine Classical.axiomOfChoice (r := fun j u => j < snk.length → PW.IsLeast (wtOf src [snk.getD j (0, 0)]) u ∧ PW.Bk 1300 u) fun j => ?_
          by_cases hj : j < snk.length
          · obtain ⟨u, _, h2, h3⟩ := hv3 j _ (List.getElem?_eq_getElem (by omega))
            exact ⟨u, fun _ => ⟨h2, h3⟩⟩
          · exact ⟨0, fun z => absurd z hj⟩
        have hRs : Rs H20 zs3 snk.length g := ⟨hl3, fun i v e => by
          obtain ⟨u, h1, h2, _⟩ := hv3 i v e
          have hi : i < snk.length := by
            rw [← hl3]
            exact (List.getElem?_eq_some_iff.mp e).1
          rw [(hg i hi).1.uniq h2]
          exact h1⟩
        refine ⟨D3, zs3, snk.length, 1300, g, rfl, hL3, hRs, fun i hi => (hg i hi).2, by decide, by omega, by omega, fun H22 vs e22 hvs => ?_⟩
        obtain ⟨as, rfl, has⟩ := hvs
        have e1922 := e20.trans e22
        have hab22 := e1922.tup _ _ hab19
        have hbs : PW.Bk 4000 (PW.sm snk.length g) := (PW.Bk.sm fun i hi => (hg i hi).2).mono (by omega)
        have hle := law_parts hlb fun j hj => (hg j hj).1
        refine ⟨_, rfl, ab, _, 0, _, rfl, rfl, SqT.of hab22, atI_0, _, rfl, as, _, 1, _, rfl, rfl, SqT.of has, atI_1, _, _, rfl, rfl, mw hkb.1 (dlt hbs) ⟨by decide, by decide, by decide⟩, ?_⟩
        refine ⟨_, rfl, as, _, 0, _, rfl, rfl, SqT.of has, atI_0, _, rfl, ab, _, 1, _, rfl, rfl, SqT.of hab22, atI_1, _, _, rfl, rfl, mw hbs.1 (dlt hkb) ⟨by decide, by decide, by decide⟩, _, _, rfl, rfl, true, ?_, ?_⟩
        · have hge : rb.num * ((PW.sm snk.length g).den : Int) ≥ (PW.sm snk.length g).num * (rb.den : Int) := by
            exact Int.not_lt.mp fun z => Rat.not_lt.mpr hle ((PW.less_iff _ _).mp z)
          show V.bl (decide (rb.num * ((PW.sm snk.length g).den : Int) ≥ (PW.sm snk.length g).num * (rb.den : Int))) = _
          rw [decide_eq_true hge]
        rw [if_pos rfl]
        refine ⟨_, rfl, ab, _, 0, _, rfl, rfl, SqT.of hab22, atI_0, _, rfl, b, rfl, ⟨ys, SqT.of (e1922.tup _ _ hb19)⟩, ?_⟩
        refine lc_map walk_tup (fun i v H' => v = V.int (snk.getD i (0, 0)).1) (fun _ _ _ _ _ x h => h) yat_ext (fun H' e => SqT.of (e.tup _ _ (e1922.tup _ _ hb19))) (by rw [pb.1]; omega) (fun k x H24 H25 hk ex y R k2 => ?_) (fun D4 H24 zs4 hD4 e24 hL4 hl4 hv4 => ?_)
        · obtain ⟨rfl, hx⟩ := y
          obtain ⟨t, rfl, ht⟩ := Pr.ext (e1922.trans ex) (pb19.2 k x hx)
          exact ⟨rfl, _, rfl, t, _, 0, _, rfl, rfl, SqT.of ht, atI_0, k2 _ _ Ext.refl rfl⟩
        · rw [pb.1] at hl4
          have ezs : zs4 = (snk.map fun p => p.1).map V.int := by
            refine List.ext_getElem (by rw [List.length_map, List.length_map, hl4]) fun i a1 a2 => ?_
            rw [List.length_map, List.length_map] at a2
            rw [hv4 i _ (List.getElem?_eq_getElem a1), List.getElem_map, List.getElem_map, getD_at a2]
          have hsb' := sum_bound snk fun p hp => by have := dsnk.2.2 p hp; omega
          have hflo := law_flows o1 o2 hlb
          generalize hsum : (snk.map fun p => p.1).sum = S at hsb' hflo
          have hab24 := e24.tup _ _ hab22
          refine ⟨D4, snk.map (fun p => p.1), rfl, SqL.of (by rw [← ezs]; exact hL4), ?_⟩
          rw [hsum]
          refine ⟨_, rfl, ab, _, 1, _, rfl, rfl, SqT.of hab24, atI_1, _, _, rfl, rfl, mw (a := 11) ?_ (dlt hkb) ⟨by decide, by decide, by decide⟩, _, _, rfl, rfl, ?_⟩
          · have : (2 : Nat) ^ 11 = 2048 := by decide
            omega
          · have hlast : rb.num ≤ S * (rb.den : Int) := by
              have := Int.not_lt.mp fun z => Rat.not_lt.mpr hflo ((PW.less_iff ((S : Int) : Rat) rb).mp z)
              simpa using this
            show Q (V.bl (decide (rb.num ≤ S * (rb.den : Int)))) _
            rw [decide_eq_true hlast]
            exact q _
end
end PWK
namespace PWK
open PySem PySem.Spec PyProof.Rows L2
/-! ### the end: what the top has left -/
theorem keep_fn {K : PySem.W.Frag} {f : Addr} {oc : Value} {od : Option Addr} {fd : FuncData} {sl : Array (Option Value)} (l : K.lookup f = some ⟨oc, od, .func fd, sl⟩) : PySem.W.keepIn K (.ref f) = true := by
  unfold PySem.W.keepIn
  simp only [l]
theorem FunC.binds {K : PySem.W.Frag} {x qual : Str} {st : Stmt} {f c : Addr} {fd : FuncData} {ps : List Str} (F : FunC K x qual st f fd c)
    (h : ∀ (kV doc pm : Value) (an : Option Addr) (ct : Value) (us : List Value), us.length = ps.length → bindArgs (PySem.W.fnOf x qual (defArgs st) (defBody st) (defScope st) .none kV doc pm an (.ref c) ct) ⟨us, []⟩ = pure (ps.zip us)) : Binds K fd ps [] := by
  obtain ⟨oc, od, kV, doc, pm, an, ct, osl, rfl, lk, hcd⟩ := F.ex
  exact .all (h kV doc pm an ct)
/-- the def x's code object heads its table, which is empty -/
def TabKnown (K : PySem.W.Frag) (h : Heap) (x : Str) : Prop := ∀ (f c P : Addr) (o : Obj) (fd : FuncData) (e : Value) (dd : Option Addr) (vs : Array Value) (sl : Array (Option Value)), PySem.W.nsIn K mainGlobals x = some (some (.ref f)) → K.lookup f = some o → o.data = .func fd → fd.code = .ref c →
  K.lookup c = some ⟨e, dd, .fields vs, sl⟩ → vs[11]? = some (.ref P) → PySem.W.CodeHd h c P ∧ h.get? P = some { cls := .none, data := .fields #[] }
theorem walk_tab {l : PySem.W.OpenLaw} {n k : Nat} {q : Program} {loose : List Str} {XP : (Str → Option Value) → Heap → Prop} {YP : World → Heap → Prop} {d : DefRec} {K : Params → PySem.W.Frag} {CX : World → CXT} {x y : Str}
    (hn : l.most = some n) (hn2 : n ≤ sizeLine) (hdf : d.params.defaults = []) (hr : Room k callerA) (hrec : ((recsOf q).any fun e => e.name == y) = true) (hY : ∀ (w : World) (h : Heap), YP w h → (K w.params).In h)
    (F : ∀ (w : World) (mg : Str → Option Value) (fa : Addr) (h : Heap), YP w h → (K w.params).In h → h.Ns mainGlobals mg → mg d.name = some (.ref fa) → TabKnown (K w.params) h y → LamX.LawAtS l w (K w.params) (CX w) k n x mg fa h)
    (hCX : ∀ (w : World) (H : Hp) (s : Shared) (e : Value) (s' : Shared), CX w [] H s (fun _ _ _ => False) e s' → False) :
    PySem.W.WalkO q loose XP YP l.row.toRowW d [] (fun f vs => PySem.call f vs) := by
  refine Att.attach_callB hn hdf fun w s₀ s₁ mg mb fa o pm cd doc a vs ns G Y ho hd hcd hmg hobj hints hlen hbits hg => ?_
  have KX := hY w _ Y
  have own : TabKnown (K w.params) s₁.heap y := fun f c P o1 fd1 e dd vs1 sl k0 k1 k2 k3 k4 k5 => by
    obtain ⟨dL, hm, hn1⟩ := List.any_eq_true.mp hrec
    have hn2 : dL.name = y := beq_iff_eq.mp hn1
    obtain ⟨a', o', fd', c', P', h1, h2, h3, h4, h5, h6⟩ := G.T.tab dL hm
    rw [hn2, PySem.W.mg_of KX G.T.g k0] at h1
    cases h1
    have g1 := KX _ _ k1
    rw [g1] at h2
    cases h2
    rw [k2] at h3
    cases h3
    rw [k3] at h4
    cases h4
    have h6' := h6
    obtain ⟨⟨oc, vc, e1, _, e3, e4⟩, hP⟩ := h6'
    have g2 := KX _ _ k4
    rw [g2] at e1
    cases e1
    cases e3
    rw [k5] at e4
    cases e4
    exact ⟨PySem.W.CodeHd.of h5 h6, hP⟩
  obtain ⟨fd, cs, sp, hT, nT, C, hb, hsp, hF⟩ := F w mg fa _ Y KX G.T.g hmg own
  exact LamX.law_callTs KX G.T.g G.T.b G.T.builtins G.T.nolimit hg hT nT C G.T.bmain hobj hints (Nat.le_trans hlen hn2) hr hF hb (fun H hH hS => hsp H a ns hlen hbits hH hS) fun H e s' => hCX w H s₁ e s'
set_option maxHeartbeats 4000000 in
theorem all_mk {l : PySem.W.OpenLaw} {w : World} {K : PySem.W.Frag} {h : Heap} {mg : Str → Option Value} {fa C : Addr} (X : K.In h) (G : h.Ns mainGlobals mg) (hfa : mg "law" = some (.ref fa)) (hTab : TabKnown K h "need_water")
    {frat : Addr} {odrat anrat : Option Addr} {slrat : Array (Option Value)} {ocrat kVrat dcrat pmrat ctrat : Value} {cdrat : Value}
    (arat : PySem.W.nsIn K mainGlobals "ratio" = some (some (.ref frat)))
    (lrat : K.lookup frat = some ⟨ocrat, odrat, .func (PySem.W.fnOf "ratio" "ratio" (defArgs sRatio) (defBody sRatio) (defScope sRatio) .none kVrat dcrat pmrat anrat cdrat ctrat), slrat⟩) (crat_ : PySem.W.codeIn K cdrat "ratio" = true)
    {fplu : Addr} {odplu anplu : Option Addr} {slplu : Array (Option Value)} {ocplu kVplu dcplu pmplu ctplu : Value} {cdplu : Value}
    (aplu : PySem.W.nsIn K mainGlobals "plus" = some (some (.ref fplu)))
    (lplu : K.lookup fplu = some ⟨ocplu, odplu, .func (PySem.W.fnOf "plus" "plus" (defArgs sPlus) (defBody sPlus) (defScope sPlus) .none kVplu dcplu pmplu anplu cdplu ctplu), slplu⟩) (cplu_ : PySem.W.codeIn K cdplu "plus" = true)
    {fmin : Addr} {odmin anmin : Option Addr} {slmin : Array (Option Value)} {ocmin kVmin dcmin pmmin ctmin : Value} {cdmin : Value}
    (amin : PySem.W.nsIn K mainGlobals "minus" = some (some (.ref fmin)))
    (lmin : K.lookup fmin = some ⟨ocmin, odmin, .func (PySem.W.fnOf "minus" "minus" (defArgs sMinus) (defBody sMinus) (defScope sMinus) .none kVmin dcmin pmmin anmin cdmin ctmin), slmin⟩) (cmin_ : PySem.W.codeIn K cdmin "minus" = true)
    {fby : Addr} {odby anby : Option Addr} {slby : Array (Option Value)} {ocby kVby dcby pmby ctby : Value} {cdby : Value}
    (aby : PySem.W.nsIn K mainGlobals "by" = some (some (.ref fby)))
    (lby : K.lookup fby = some ⟨ocby, odby, .func (PySem.W.fnOf "by" "by" (defArgs sBy) (defBody sBy) (defScope sBy) .none kVby dcby pmby anby cdby ctby), slby⟩) (cby_ : PySem.W.codeIn K cdby "by" = true)
    {fove : Addr} {odove anove : Option Addr} {slove : Array (Option Value)} {ocove kVove dcove pmove ctove : Value} {cdove : Value}
    (aove : PySem.W.nsIn K mainGlobals "over" = some (some (.ref fove)))
    (love : K.lookup fove = some ⟨ocove, odove, .func (PySem.W.fnOf "over" "over" (defArgs sOver) (defBody sOver) (defScope sOver) .none kVove dcove pmove anove cdove ctove), slove⟩) (cove_ : PySem.W.codeIn K cdove "over" = true)
    {fles : Addr} {odles anles : Option Addr} {slles : Array (Option Value)} {ocles kVles dcles pmles ctles : Value} {cdles : Value}
    (ales : PySem.W.nsIn K mainGlobals "less" = some (some (.ref fles)))
    (lles : K.lookup fles = some ⟨ocles, odles, .func (PySem.W.fnOf "less" "less" (defArgs sLess) (defBody sLess) (defScope sLess) .none kVles dcles pmles anles cdles ctles), slles⟩) (cles_ : PySem.W.codeIn K cdles "less" = true)
    {ftot : Addr} {odtot antot : Option Addr} {sltot : Array (Option Value)} {octot kVtot dctot pmtot cttot : Value} {cdtot : Value}
    (atot : PySem.W.nsIn K mainGlobals "total" = some (some (.ref ftot)))
    (ltot : K.lookup ftot = some ⟨octot, odtot, .func (PySem.W.fnOf "total" "total" (defArgs sTotal) (defBody sTotal) (defScope sTotal) .none kVtot dctot pmtot antot cdtot cttot), sltot⟩) (ctot_ : PySem.W.codeIn K cdtot "total" = true)
    {fini : Addr} {odini anini : Option Addr} {slini : Array (Option Value)} {ocini kVini dcini pmini ctini : Value} {cdini : Value}
    (aini : PySem.W.findIn K (.ref C) "__init__" = some (some (.ref fini))) (iini : PySem.W.isFn K (.ref fini) = true)
    (lini : K.lookup fini = some ⟨ocini, odini, .func (PySem.W.fnOf "__init__" "Program.__init__" (defArgs sInit) (defBody sInit) (defScope sInit) .none kVini dcini pmini anini cdini ctini), slini⟩) (cini_ : PySem.W.codeIn K cdini "Program.__init__" = true)
    {ftur : Addr} {odtur antur : Option Addr} {sltur : Array (Option Value)} {octur kVtur dctur pmtur cttur : Value} {cdtur : Value}
    (atur : PySem.W.findIn K (.ref C) "turn" = some (some (.ref ftur))) (itur : PySem.W.isFn K (.ref ftur) = true)
    (ltur : K.lookup ftur = some ⟨octur, odtur, .func (PySem.W.fnOf "turn" "Program.turn" (defArgs sTurn) (defBody sTurn) (defScope sTurn) .none kVtur dctur pmtur antur cdtur cttur), sltur⟩) (ctur_ : PySem.W.codeIn K cdtur "Program.turn" = true)
    {fmul : Addr} {odmul anmul : Option Addr} {slmul : Array (Option Value)} {ocmul kVmul dcmul pmmul ctmul : Value} {cdmul : Value}
    (amul : PySem.W.findIn K (.ref C) "multiplier" = some (some (.ref fmul))) (imul : PySem.W.isFn K (.ref fmul) = true)
    (lmul : K.lookup fmul = some ⟨ocmul, odmul, .func (PySem.W.fnOf "multiplier" "Program.multiplier" (defArgs sMult) (defBody sMult) (defScope sMult) .none kVmul dcmul pmmul anmul cdmul ctmul), slmul⟩) (cmul_ : PySem.W.codeIn K cdmul "Program.multiplier" = true)
    {fcli : Addr} {odcli ancli : Option Addr} {slcli : Array (Option Value)} {occli kVcli dccli pmcli ctcli : Value} {cdcli : Value}
    (acli : PySem.W.findIn K (.ref C) "climb" = some (some (.ref fcli))) (icli : PySem.W.isFn K (.ref fcli) = true)
    (lcli : K.lookup fcli = some ⟨occli, odcli, .func (PySem.W.fnOf "climb" "Program.climb" (defArgs sClimb) (defBody sClimb) (defScope sClimb) .none kVcli dccli pmcli ancli cdcli ctcli), slcli⟩) (ccli_ : PySem.W.codeIn K cdcli "Program.climb" = true)
    {flea : Addr} {odlea anlea : Option Addr} {sllea : Array (Option Value)} {oclea kVlea dclea pmlea ctlea : Value} {cdlea : Value}
    (alea : PySem.W.findIn K (.ref C) "leave_help" = some (some (.ref flea))) (ilea : PySem.W.isFn K (.ref flea) = true)
    (llea : K.lookup flea = some ⟨oclea, odlea, .func (PySem.W.fnOf "leave_help" "Program.leave_help" (defArgs sLeave) (defBody sLeave) (defScope sLeave) .none kVlea dclea pmlea anlea cdlea ctlea), sllea⟩) (clea_ : PySem.W.codeIn K cdlea "Program.leave_help" = true)
    {famo : Addr} {odamo anamo : Option Addr} {slamo : Array (Option Value)} {ocamo kVamo dcamo pmamo ctamo : Value} {cdamo : Value}
    (aamo : PySem.W.findIn K (.ref C) "amounts" = some (some (.ref famo))) (iamo : PySem.W.isFn K (.ref famo) = true)
    (lamo : K.lookup famo = some ⟨ocamo, odamo, .func (PySem.W.fnOf "amounts" "Program.amounts" (defArgs sAmounts) (defBody sAmounts) (defScope sAmounts) .none kVamo dcamo pmamo anamo cdamo ctamo), slamo⟩) (camo_ : PySem.W.codeIn K cdamo "Program.amounts" = true)
    {fpri : Addr} {odpri anpri : Option Addr} {slpri : Array (Option Value)} {ocpri kVpri dcpri pmpri ctpri : Value} {cdpri : Value}
    (apri : PySem.W.findIn K (.ref C) "prices" = some (some (.ref fpri))) (ipri : PySem.W.isFn K (.ref fpri) = true)
    (lpri : K.lookup fpri = some ⟨ocpri, odpri, .func (PySem.W.fnOf "prices" "Program.prices" (defArgs sPrices) (defBody sPrices) (defScope sPrices) .none kVpri dcpri pmpri anpri cdpri ctpri), slpri⟩) (cpri_ : PySem.W.codeIn K cdpri "Program.prices" = true)
    {fsol : Addr} {odsol ansol : Option Addr} {slsol : Array (Option Value)} {ocsol kVsol dcsol pmsol ctsol : Value} {cdsol : Value}
    (asol : PySem.W.nsIn K mainGlobals "solved" = some (some (.ref fsol)))
    (lsol : K.lookup fsol = some ⟨ocsol, odsol, .func (PySem.W.fnOf "solved" "solved" (defArgs sSolved) (defBody sSolved) (defScope sSolved) .none kVsol dcsol pmsol ansol cdsol ctsol), slsol⟩) (csol_ : PySem.W.codeIn K cdsol "solved" = true)
    {fisi : Addr} {odisi anisi : Option Addr} {slisi : Array (Option Value)} {ocisi kVisi dcisi pmisi ctisi : Value} {cdisi : Value}
    (aisi : PySem.W.nsIn K mainGlobals "is_in" = some (some (.ref fisi)))
    (lisi : K.lookup fisi = some ⟨ocisi, odisi, .func (PySem.W.fnOf "is_in" "is_in" (defArgs sIsIn) (defBody sIsIn) (defScope sIsIn) .none kVisi dcisi pmisi anisi cdisi ctisi), slisi⟩) (cisi_ : PySem.W.codeIn K cdisi "is_in" = true)
    {fnee : Addr} {odnee annee : Option Addr} {slnee : Array (Option Value)} {ocnee kVnee dcnee pmnee ctnee : Value} {cnee Pnee : Addr} {enee : Value} {ddnee : Option Addr} {vsnee : Array Value} {tsnee : Array (Option Value)}
    (anee : PySem.W.nsIn K mainGlobals "need_water" = some (some (.ref fnee)))
    (lnee : K.lookup fnee = some ⟨ocnee, odnee, .func (PySem.W.fnOf "need_water" "need_water" (defArgs sNeed) (defBody sNeed) (defScope sNeed) .none kVnee dcnee pmnee annee (.ref cnee) ctnee), slnee⟩) (cnee_ : PySem.W.codeIn K (.ref cnee) "need_water" = true)
    (tnee : K.lookup cnee = some ⟨enee, ddnee, .fields vsnee, tsnee⟩) (pnee : vsnee[11]? = some (.ref Pnee)) (nnee : K.lookup Pnee = none)
    {fwho : Addr} {odwho anwho : Option Addr} {slwho : Array (Option Value)} {ocwho kVwho dcwho pmwho ctwho : Value} {cdwho : Value}
    (awho : PySem.W.nsIn K mainGlobals "whole_row" = some (some (.ref fwho)))
    (lwho : K.lookup fwho = some ⟨ocwho, odwho, .func (PySem.W.fnOf "whole_row" "whole_row" (defArgs sWhole) (defBody sWhole) (defScope sWhole) .none kVwho dcwho pmwho anwho cdwho ctwho), slwho⟩) (cwho_ : PySem.W.codeIn K cdwho "whole_row" = true)
    {fpro : Addr} {odpro anpro : Option Addr} {slpro : Array (Option Value)} {ocpro kVpro dcpro pmpro ctpro : Value} {cdpro : Value}
    (apro : PySem.W.nsIn K mainGlobals "program_of" = some (some (.ref fpro)))
    (lpro : K.lookup fpro = some ⟨ocpro, odpro, .func (PySem.W.fnOf "program_of" "program_of" (defArgs sProg) (defBody sProg) (defScope sProg) .none kVpro dcpro pmpro anpro cdpro ctpro), slpro⟩) (cpro_ : PySem.W.codeIn K cdpro "program_of" = true)
    {fpla : Addr} {odpla anpla : Option Addr} {slpla : Array (Option Value)} {ocpla kVpla dcpla pmpla ctpla : Value} {cdpla : Value}
    (apla : PySem.W.nsIn K mainGlobals "plan_of" = some (some (.ref fpla)))
    (lpla : K.lookup fpla = some ⟨ocpla, odpla, .func (PySem.W.fnOf "plan_of" "plan_of" (defArgs sPlan) (defBody sPlan) (defScope sPlan) .none kVpla dcpla pmpla anpla cdpla ctpla), slpla⟩) (cpla_ : PySem.W.codeIn K cdpla "plan_of" = true)
    {ffre : Addr} {odfre anfre : Option Addr} {slfre : Array (Option Value)} {ocfre kVfre dcfre pmfre ctfre : Value} {cdfre : Value}
    (afre : PySem.W.nsIn K mainGlobals "fresh_of" = some (some (.ref ffre)))
    (lfre : K.lookup ffre = some ⟨ocfre, odfre, .func (PySem.W.fnOf "fresh_of" "fresh_of" (defArgs sFresh) (defBody sFresh) (defScope sFresh) .none kVfre dcfre pmfre anfre cdfre ctfre), slfre⟩) (cfre_ : PySem.W.codeIn K cdfre "fresh_of" = true)
    {flst : Addr} {odlst anlst : Option Addr} {sllst : Array (Option Value)} {oclst kVlst dclst pmlst ctlst : Value} {cdlst : Value}
    (alst : PySem.W.nsIn K mainGlobals "least_fresh" = some (some (.ref flst)))
    (llst : K.lookup flst = some ⟨oclst, odlst, .func (PySem.W.fnOf "least_fresh" "least_fresh" (defArgs sLeast) (defBody sLeast) (defScope sLeast) .none kVlst dclst pmlst anlst cdlst ctlst), sllst⟩) (clst_ : PySem.W.codeIn K cdlst "least_fresh" = true)
    {ftak : Addr} {odtak antak : Option Addr} {sltak : Array (Option Value)} {octak kVtak dctak pmtak cttak : Value} {cdtak : Value}
    (atak : PySem.W.nsIn K mainGlobals "_law_taken" = some (some (.ref ftak)))
    (ltak : K.lookup ftak = some ⟨octak, odtak, .func (PySem.W.fnOf "_law_taken" "_law_taken" (defArgs sTaken) (defBody sTaken) (defScope sTaken) .none kVtak dctak pmtak antak cdtak cttak), sltak⟩) (ctak_ : PySem.W.codeIn K cdtak "_law_taken" = true)
    {fpic : Addr} {odpic anpic : Option Addr} {slpic : Array (Option Value)} {ocpic kVpic dcpic pmpic ctpic : Value} {cdpic : Value}
    (apic : PySem.W.nsIn K mainGlobals "_law_pick" = some (some (.ref fpic)))
    (lpic : K.lookup fpic = some ⟨ocpic, odpic, .func (PySem.W.fnOf "_law_pick" "_law_pick" (defArgs sPick) (defBody sPick) (defScope sPick) .none kVpic dcpic pmpic anpic cdpic ctpic), slpic⟩) (cpic_ : PySem.W.codeIn K cdpic "_law_pick" = true)
    {fali : Addr} {odali anali : Option Addr} {slali : Array (Option Value)} {ocali kVali dcali pmali ctali : Value} {cdali : Value}
    (aali : PySem.W.nsIn K mainGlobals "_law_alike" = some (some (.ref fali)))
    (lali : K.lookup fali = some ⟨ocali, odali, .func (PySem.W.fnOf "_law_alike" "_law_alike" (defArgs sAlike) (defBody sAlike) (defScope sAlike) .none kVali dcali pmali anali cdali ctali), slali⟩) (cali_ : PySem.W.codeIn K cdali "_law_alike" = true)
    {flra : Addr} {odlra anlra : Option Addr} {sllra : Array (Option Value)} {oclra kVlra dclra pmlra ctlra : Value} {cdlra : Value}
    (alra : PySem.W.nsIn K mainGlobals "_law_ratio" = some (some (.ref flra)))
    (llra : K.lookup flra = some ⟨oclra, odlra, .func (PySem.W.fnOf "_law_ratio" "_law_ratio" (defArgs sLRatio) (defBody sLRatio) (defScope sLRatio) .none kVlra dclra pmlra anlra cdlra ctlra), sllra⟩) (clra_ : PySem.W.codeIn K cdlra "_law_ratio" = true)
    {flpl : Addr} {odlpl anlpl : Option Addr} {sllpl : Array (Option Value)} {oclpl kVlpl dclpl pmlpl ctlpl : Value} {cdlpl : Value}
    (alpl : PySem.W.nsIn K mainGlobals "_law_plus" = some (some (.ref flpl)))
    (llpl : K.lookup flpl = some ⟨oclpl, odlpl, .func (PySem.W.fnOf "_law_plus" "_law_plus" (defArgs sLPlus) (defBody sLPlus) (defScope sLPlus) .none kVlpl dclpl pmlpl anlpl cdlpl ctlpl), sllpl⟩) (clpl_ : PySem.W.codeIn K cdlpl "_law_plus" = true)
    {flby : Addr} {odlby anlby : Option Addr} {sllby : Array (Option Value)} {oclby kVlby dclby pmlby ctlby : Value} {cdlby : Value}
    (alby : PySem.W.nsIn K mainGlobals "_law_by" = some (some (.ref flby)))
    (llby : K.lookup flby = some ⟨oclby, odlby, .func (PySem.W.fnOf "_law_by" "_law_by" (defArgs sLBy) (defBody sLBy) (defScope sLBy) .none kVlby dclby pmlby anlby cdlby ctlby), sllby⟩) (clby_ : PySem.W.codeIn K cdlby "_law_by" = true)
    {flsu : Addr} {odlsu anlsu : Option Addr} {sllsu : Array (Option Value)} {oclsu kVlsu dclsu pmlsu ctlsu : Value} {cdlsu : Value}
    (alsu : PySem.W.nsIn K mainGlobals "_law_sum" = some (some (.ref flsu)))
    (llsu : K.lookup flsu = some ⟨oclsu, odlsu, .func (PySem.W.fnOf "_law_sum" "_law_sum" (defArgs sLSum) (defBody sLSum) (defScope sLSum) .none kVlsu dclsu pmlsu anlsu cdlsu ctlsu), sllsu⟩) (clsu_ : PySem.W.codeIn K cdlsu "_law_sum" = true)
    {flwa : Addr} {odlwa anlwa : Option Addr} {sllwa : Array (Option Value)} {oclwa kVlwa dclwa pmlwa ctlwa : Value} {cdlwa : Value}
    (alwa : PySem.W.nsIn K mainGlobals "_law_water" = some (some (.ref flwa)))
    (llwa : K.lookup flwa = some ⟨oclwa, odlwa, .func (PySem.W.fnOf "_law_water" "_law_water" (defArgs sLWater) (defBody sLWater) (defScope sLWater) .none kVlwa dclwa pmlwa anlwa cdlwa ctlwa), sllwa⟩) (clwa_ : PySem.W.codeIn K cdlwa "_law_water" = true)
    {flal : Addr} {odlal anlal : Option Addr} {sllal : Array (Option Value)} {oclal kVlal dclal pmlal ctlal : Value} {cdlal : Value}
    (alal : PySem.W.nsIn K mainGlobals "_law_alone" = some (some (.ref flal)))
    (llal : K.lookup flal = some ⟨oclal, odlal, .func (PySem.W.fnOf "_law_alone" "_law_alone" (defArgs sLAlone) (defBody sLAlone) (defScope sLAlone) .none kVlal dclal pmlal anlal cdlal ctlal), sllal⟩) (clal_ : PySem.W.codeIn K cdlal "_law_alone" = true)
    {flaw : Addr} {odlaw anlaw : Option Addr} {sllaw : Array (Option Value)} {oclaw kVlaw dclaw pmlaw ctlaw : Value} {cdlaw : Value}
    (alaw : PySem.W.nsIn K mainGlobals "law" = some (some (.ref flaw)))
    (llaw : K.lookup flaw = some ⟨oclaw, odlaw, .func (PySem.W.fnOf "law" "law" (defArgs sLaw) (defBody sLaw) (defScope sLaw) .none kVlaw dclaw pmlaw anlaw cdlaw ctlaw), sllaw⟩) (claw_ : PySem.W.codeIn K cdlaw "law" = true)
    (aC : PySem.W.nsIn K mainGlobals "Program" = some (some (.ref C))) (pg : PySem.W.plainGet K C Str.empty = true) (hd : PySem.W.hasDictIn K C = true) (po : PySem.W.plainOver K C = true) (sa : PySem.W.findIn K (.ref C) "__setattr__" = some (some (.builtin "object.__setattr__"))) (mk : PySem.W.makesIn K C = true) (kc : PySem.W.keepIn K (.ref C) = true)
    (na0 : PySem.W.findIn K (.ref C) "many" = some none)
    (na1 : PySem.W.findIn K (.ref C) "signs" = some none)
    (na2 : PySem.W.findIn K (.ref C) "rows" = some none)
    (na3 : PySem.W.findIn K (.ref C) "basis" = some none)
    (z_len : PySem.W.nsIn K mainGlobals "len" = some none)
    (z_range : PySem.W.nsIn K mainGlobals "range" = some none)
    (z_enumerate : PySem.W.nsIn K mainGlobals "enumerate" = some none)
    (z_zip : PySem.W.nsIn K mainGlobals "zip" = some none)
    (z_list : PySem.W.nsIn K mainGlobals "list" = some none)
    (z_isinstance : PySem.W.nsIn K mainGlobals "isinstance" = some none)
    (z_int : PySem.W.nsIn K mainGlobals "int" = some none)
    (z_bool : PySem.W.nsIn K mainGlobals "bool" = some none)
    (z_tuple : PySem.W.nsIn K mainGlobals "tuple" = some none)
    (z_all : PySem.W.nsIn K mainGlobals "all" = some none)
    (z_dict : PySem.W.nsIn K mainGlobals "dict" = some none)
    (z_abs : PySem.W.nsIn K mainGlobals "abs" = some none)
    (z_str : PySem.W.nsIn K mainGlobals "str" = some none)
    (z_sorted : PySem.W.nsIn K mainGlobals "sorted" = some none)
    (z_min : PySem.W.nsIn K mainGlobals "min" = some none)
    (z_sum : PySem.W.nsIn K mainGlobals "sum" = some none)
    {t1 t2 t3 : Tok} (m1 : PySem.W.nsIn K mainGlobals "MOST_SIDE" = some (some (.int 4 t1))) (m2 : PySem.W.nsIn K mainGlobals "MOST_FLOW" = some (some (.int 1000 t2))) (m3 : PySem.W.nsIn K mainGlobals "MOST_DIRT" = some (some (.int 1000 t3))) (aG : PySem.W.nsIn K mainGlobals "gcd" = some (some (.builtin "math.gcd"))) :
    LamX.LawAtS l w K CX0 10 63 "_law_script" mg fa h := by
  have e := hfa.symm.trans (PySem.W.mg_of X G alaw)
  cases e
  have Z_len := PySem.W.mg_none_of X G z_len
  have Z_range := PySem.W.mg_none_of X G z_range
  have Z_enumerate := PySem.W.mg_none_of X G z_enumerate
  have Z_zip := PySem.W.mg_none_of X G z_zip
  have Z_list := PySem.W.mg_none_of X G z_list
  have Z_isinstance := PySem.W.mg_none_of X G z_isinstance
  have Z_int := PySem.W.mg_none_of X G z_int
  have Z_bool := PySem.W.mg_none_of X G z_bool
  have Z_tuple := PySem.W.mg_none_of X G z_tuple
  have Z_all := PySem.W.mg_none_of X G z_all
  have Z_dict := PySem.W.mg_none_of X G z_dict
  have Z_abs := PySem.W.mg_none_of X G z_abs
  have Z_str := PySem.W.mg_none_of X G z_str
  have Z_sorted := PySem.W.mg_none_of X G z_sorted
  have Z_min := PySem.W.mg_none_of X G z_min
  have Z_sum := PySem.W.mg_none_of X G z_sum
  have M1 := PySem.W.mg_of X G m1
  have M2 := PySem.W.mg_of X G m2
  have M3 := PySem.W.mg_of X G m3
  have MG := PySem.W.mg_of X G aG
  have MC := PySem.W.mg_of X G aC
  have grat := PySem.W.mg_of X G arat
  have Frat := fun_mk (st := sRatio) lrat crat_ (keep_fn lrat)
  have krat := keep_fn lrat
  have brat := Frat.binds (ps := ["top", "bottom"]) fun _ _ _ _ _ _ us hl => match us, hl with | [_, _], _ => rfl
  have gplu := PySem.W.mg_of X G aplu
  have Fplu := fun_mk (st := sPlus) lplu cplu_ (keep_fn lplu)
  have kplu := keep_fn lplu
  have bplu := Fplu.binds (ps := ["one", "other"]) fun _ _ _ _ _ _ us hl => match us, hl with | [_, _], _ => rfl
  have gmin := PySem.W.mg_of X G amin
  have Fmin := fun_mk (st := sMinus) lmin cmin_ (keep_fn lmin)
  have kmin := keep_fn lmin
  have bmin := Fmin.binds (ps := ["one", "other"]) fun _ _ _ _ _ _ us hl => match us, hl with | [_, _], _ => rfl
  have gby := PySem.W.mg_of X G aby
  have Fby := fun_mk (st := sBy) lby cby_ (keep_fn lby)
  have kby := keep_fn lby
  have bby := Fby.binds (ps := ["one", "other"]) fun _ _ _ _ _ _ us hl => match us, hl with | [_, _], _ => rfl
  have gove := PySem.W.mg_of X G aove
  have Fove := fun_mk (st := sOver) love cove_ (keep_fn love)
  have kove := keep_fn love
  have bove := Fove.binds (ps := ["one", "other"]) fun _ _ _ _ _ _ us hl => match us, hl with | [_, _], _ => rfl
  have gles := PySem.W.mg_of X G ales
  have Fles := fun_mk (st := sLess) lles cles_ (keep_fn lles)
  have kles := keep_fn lles
  have bles := Fles.binds (ps := ["one", "other"]) fun _ _ _ _ _ _ us hl => match us, hl with | [_, _], _ => rfl
  have gtot := PySem.W.mg_of X G atot
  have Ftot := fun_mk (st := sTotal) ltot ctot_ (keep_fn ltot)
  have ktot := keep_fn ltot
  have btot := Ftot.binds (ps := ["some"]) fun _ _ _ _ _ _ us hl => match us, hl with | [_], _ => rfl
  have Fini := fun_mk (st := sInit) lini cini_ (keep_fn lini)
  have kini := keep_fn lini
  have bini := Fini.binds (ps := ["self", "rows", "goals"]) fun _ _ _ _ _ _ us hl => match us, hl with | [_, _, _], _ => rfl
  have Ftur := fun_mk (st := sTurn) ltur ctur_ (keep_fn ltur)
  have ktur := keep_fn ltur
  have btur := Ftur.binds (ps := ["self", "j", "k"]) fun _ _ _ _ _ _ us hl => match us, hl with | [_, _, _], _ => rfl
  have Fmul := fun_mk (st := sMult) lmul cmul_ (keep_fn lmul)
  have kmul := keep_fn lmul
  have bmul := Fmul.binds (ps := ["self", "costs", "k"]) fun _ _ _ _ _ _ us hl => match us, hl with | [_, _, _], _ => rfl
  have Fcli := fun_mk (st := sClimb) lcli ccli_ (keep_fn lcli)
  have kcli := keep_fn lcli
  have bcli := Fcli.binds (ps := ["self", "costs", "columns"]) fun _ _ _ _ _ _ us hl => match us, hl with | [_, _, _], _ => rfl
  have Flea := fun_mk (st := sLeave) llea clea_ (keep_fn llea)
  have klea := keep_fn llea
  have blea := Flea.binds (ps := ["self"]) fun _ _ _ _ _ _ us hl => match us, hl with | [_], _ => rfl
  have Famo := fun_mk (st := sAmounts) lamo camo_ (keep_fn lamo)
  have kamo := keep_fn lamo
  have bamo := Famo.binds (ps := ["self"]) fun _ _ _ _ _ _ us hl => match us, hl with | [_], _ => rfl
  have Fpri := fun_mk (st := sPrices) lpri cpri_ (keep_fn lpri)
  have kpri := keep_fn lpri
  have bpri := Fpri.binds (ps := ["self", "costs"]) fun _ _ _ _ _ _ us hl => match us, hl with | [_, _], _ => rfl
  have gsol := PySem.W.mg_of X G asol
  have Fsol := fun_mk (st := sSolved) lsol csol_ (keep_fn lsol)
  have ksol := keep_fn lsol
  have bsol := Fsol.binds (ps := ["rows", "goals", "costs"]) fun _ _ _ _ _ _ us hl => match us, hl with | [_, _, _], _ => rfl
  have gisi := PySem.W.mg_of X G aisi
  have Fisi := fun_mk (st := sIsIn) lisi cisi_ (keep_fn lisi)
  have kisi := keep_fn lisi
  have bisi := Fisi.binds (ps := ["value", "least", "most"]) fun _ _ _ _ _ _ us hl => match us, hl with | [_, _, _], _ => rfl
  have gnee := PySem.W.mg_of X G anee
  have Fnee : FunC K "need_water" "need_water" sNeed fnee _ cnee := ⟨_, _, _, _, _, _, _, _, rfl, lnee, cnee_⟩
  have knee := keep_fn lnee
  have bnee := Fnee.binds (ps := ["water"]) fun _ _ _ _ _ us hl => match us, hl with | [_], _ => rfl
  have gwho := PySem.W.mg_of X G awho
  have Fwho := fun_mk (st := sWhole) lwho cwho_ (keep_fn lwho)
  have kwho := keep_fn lwho
  have bwho := Fwho.binds (ps := ["many", "entries"]) fun _ _ _ _ _ _ us hl => match us, hl with | [_, _], _ => rfl
  have gpro := PySem.W.mg_of X G apro
  have Fpro := fun_mk (st := sProg) lpro cpro_ (keep_fn lpro)
  have kpro := keep_fn lpro
  have bpro := Fpro.binds (ps := ["water"]) fun _ _ _ _ _ _ us hl => match us, hl with | [_], _ => rfl
  have gpla := PySem.W.mg_of X G apla
  have Fpla := fun_mk (st := sPlan) lpla cpla_ (keep_fn lpla)
  have kpla := keep_fn lpla
  have bpla := Fpla.binds (ps := ["water", "amounts"]) fun _ _ _ _ _ _ us hl => match us, hl with | [_, _], _ => rfl
  have gfre := PySem.W.mg_of X G afre
  have Ffre := fun_mk (st := sFresh) lfre cfre_ (keep_fn lfre)
  have kfre := keep_fn lfre
  have bfre := Ffre.binds (ps := ["water"]) fun _ _ _ _ _ _ us hl => match us, hl with | [_], _ => rfl
  have glst := PySem.W.mg_of X G alst
  have Flst := fun_mk (st := sLeast) llst clst_ (keep_fn llst)
  have klst := keep_fn llst
  have blst := Flst.binds (ps := ["water"]) fun _ _ _ _ _ _ us hl => match us, hl with | [_], _ => rfl
  have gtak := PySem.W.mg_of X G atak
  have Ftak := fun_mk (st := sTaken) ltak ctak_ (keep_fn ltak)
  have ktak := keep_fn ltak
  have btak := Ftak.binds (ps := ["_law_row", "_law_many"]) fun _ _ _ _ _ _ us hl => match us, hl with | [_, _], _ => rfl
  have gpic := PySem.W.mg_of X G apic
  have Fpic := fun_mk (st := sPick) lpic cpic_ (keep_fn lpic)
  have kpic := keep_fn lpic
  have bpic := Fpic.binds (ps := ["_law_row", "_law_things"]) fun _ _ _ _ _ _ us hl => match us, hl with | [_, _], _ => rfl
  have gali := PySem.W.mg_of X G aali
  have Fali := fun_mk (st := sAlike) lali cali_ (keep_fn lali)
  have kali := keep_fn lali
  have bali := Fali.binds (ps := ["_law_found", "_law_due"]) fun _ _ _ _ _ _ us hl => match us, hl with | [_, _], _ => rfl
  have glra := PySem.W.mg_of X G alra
  have Flra := fun_mk (st := sLRatio) llra clra_ (keep_fn llra)
  have klra := keep_fn llra
  have blra := Flra.binds (ps := ["_law_top", "_law_bottom"]) fun _ _ _ _ _ _ us hl => match us, hl with | [_, _], _ => rfl
  have glpl := PySem.W.mg_of X G alpl
  have Flpl := fun_mk (st := sLPlus) llpl clpl_ (keep_fn llpl)
  have klpl := keep_fn llpl
  have blpl := Flpl.binds (ps := ["_law_one", "_law_other"]) fun _ _ _ _ _ _ us hl => match us, hl with | [_, _], _ => rfl
  have glby := PySem.W.mg_of X G alby
  have Flby := fun_mk (st := sLBy) llby clby_ (keep_fn llby)
  have klby := keep_fn llby
  have blby := Flby.binds (ps := ["_law_one", "_law_other"]) fun _ _ _ _ _ _ us hl => match us, hl with | [_, _], _ => rfl
  have glsu := PySem.W.mg_of X G alsu
  have Flsu := fun_mk (st := sLSum) llsu clsu_ (keep_fn llsu)
  have klsu := keep_fn llsu
  have blsu := Flsu.binds (ps := ["_law_some"]) fun _ _ _ _ _ _ us hl => match us, hl with | [_], _ => rfl
  have glwa := PySem.W.mg_of X G alwa
  have Flwa := fun_mk (st := sLWater) llwa clwa_ (keep_fn llwa)
  have klwa := keep_fn llwa
  have blwa := Flwa.binds (ps := ["_law_row"]) fun _ _ _ _ _ _ us hl => match us, hl with | [_], _ => rfl
  have glal := PySem.W.mg_of X G alal
  have Flal := fun_mk (st := sLAlone) llal clal_ (keep_fn llal)
  have klal := keep_fn llal
  have blal := Flal.binds (ps := ["_law_sources", "_law_flow", "_law_most"]) fun _ _ _ _ _ _ us hl => match us, hl with | [_, _, _], _ => rfl
  have glaw := PySem.W.mg_of X G alaw
  have Flaw := fun_mk (st := sLaw) llaw claw_ (keep_fn llaw)
  have klaw := keep_fn llaw
  have blaw := Flaw.binds (ps := ["_law_script"]) fun _ _ _ _ _ _ us hl => match us, hl with | [_], _ => rfl
  have T : Txt K mg C := ⟨⟨pg, hd, po, sa⟩, na0, na1, na2, na3, Z_len, Z_range, Z_enumerate, Z_zip⟩
  obtain ⟨hcd, htb⟩ := hTab fnee cnee Pnee _ _ _ _ _ _ anee lnee rfl rfl tnee pnee
  refine ⟨PySem.W.fnOf "law" "law" (defArgs sLaw) (defBody sLaw) (defScope sLaw) .none kVlaw dclaw pmlaw anlaw cdlaw ctlaw, [(cnee, Pnee)], spLaw K Pnee, fun p hp => ?_, fun p hp => ?_, fun p hp => ?_, fun s v => .of_eq rfl, fun H a ns hl _ hT hS => ⟨a, ns, rfl, hS, ⟨#[], hT (cnee, Pnee) (by simp), ?_⟩, fun _ => rfl⟩, fun base KB GB0 TB => ?_⟩
  · rw [List.mem_singleton.mp hp]; exact htb
  · rw [List.mem_singleton.mp hp]; exact nnee
  · rw [List.mem_singleton.mp hp]; exact hcd
  · trivial
  · have TB0 := TB (cnee, Pnee) (by simp)
    have TBn : GxR.TabB base mg cnee Pnee := ⟨TB0.code, TB0.bm, TB0.gP⟩
    have Grat := ok_ratio (P := l.prog) (w := w) (base := base) Frat MG
    have Gplu := ok_plus (P := l.prog) (w := w) (base := base) Fplu Frat brat grat MG
    have Gmin := ok_minus (P := l.prog) (w := w) (base := base) Fmin Frat brat grat MG
    have Gby := ok_by (P := l.prog) (w := w) (base := base) Fby Frat brat grat MG
    have Gove := ok_over (P := l.prog) (w := w) (base := base) Fove Frat brat grat MG
    have Gles := ok_less (P := l.prog) (w := w) (base := base) (mg := mg) Fles
    have Gtot := ok_total Ftot Gplu kplu bplu gplu
    have Gtur := ok_turn Ftur T Gove kove bove gove Gmin kmin bmin gmin Gby kby bby gby
    have Gmul := ok_mult Fmul T Gtot ktot btot gtot Gby kby bby gby
    have mtur := (show Meth K C "turn" ftur from ⟨atur, itur, ktur⟩)
    have mmul := (show Meth K C "multiplier" fmul from ⟨amul, imul, kmul⟩)
    have mcli := (show Meth K C "climb" fcli from ⟨acli, icli, kcli⟩)
    have mlea := (show Meth K C "leave_help" flea from ⟨alea, ilea, klea⟩)
    have mamo := (show Meth K C "amounts" famo from ⟨aamo, iamo, kamo⟩)
    have mpri := (show Meth K C "prices" fpri from ⟨apri, ipri, kpri⟩)
    have Gcli := ok_climb Fcli T Gmul mmul bmul Gtur mtur btur Gove kove bove gove Gles kles bles gles
    have Glea := ok_leave Flea T Gtur mtur btur
    have Gamo := ok_amounts (P := l.prog) (w := w) (base := base) Famo T
    have Gpri := ok_prices Fpri T Gmul mmul bmul Gby kby bby gby
    have Gini := ok_init Fini T Gby kby bby gby
    have M := (show Mk K C fini from ⟨mk, aini, iini, kc⟩)
    have Gsol := ok_solved Fsol T MC Z_list M Gini bini Gmul mmul bmul Gcli mcli bcli Glea mlea blea Gamo mamo bamo Gpri mpri bpri
    have Gisi := ok_isIn (P := l.prog) (w := w) (base := base) Fisi Z_isinstance Z_int Z_bool
    have Gnee := ok_need Fnee TBn Z_isinstance Z_tuple Z_len Z_all Z_enumerate M1 M2 M3 Gisi kisi bisi gisi
    have Gwho := ok_whole (P := l.prog) (w := w) (base := base) Fwho Z_range
    have Gpro := ok_prog Fpro Z_len Z_range Z_enumerate Z_dict Gwho kwho bwho gwho Gsol ksol bsol gsol
    have Gpla := ok_plan (P := l.prog) (w := w) (base := base) Fpla Z_len Z_range Z_tuple
    have Gfre := ok_fresh Ffre Z_list Gpro kpro bpro gpro Gpla kpla bpla gpla Gtot ktot btot gtot
    have Glst := ok_least Flst Gnee knee bnee gnee Gfre kfre bfre gfre
    have Gtak := ok_taken (P := l.prog) (w := w) (base := base) Ftak Z_len Z_int
    have Gpic := ok_pick Fpic Z_len Gtak ktak btak gtak
    have Gali := ok_alike (P := l.prog) (w := w) (base := base) Fali Z_isinstance Z_tuple Z_list Z_str Z_int Z_bool Z_len Z_range bali gali
    have Glra := ok_lratio (P := l.prog) (w := w) (base := base) Flra Z_abs Z_int
    have Glpl := ok_lplus Flpl Glra klra blra glra
    have Glby := ok_lby Flby Glra klra blra glra
    have Glsu := ok_lsum Flsu Glpl klpl blpl glpl
    have Glwa := ok_lwater Flwa Z_range Z_tuple Gtak ktak btak gtak Gpic kpic bpic gpic
    have Glal := ok_lalone Flal Z_sorted Glby klby blby glby Glpl klpl blpl glpl
    exact ok_law Flaw Z_tuple Z_min Z_sum Gtak ktak btak gtak Glwa klwa blwa glwa Gali kali bali gali Glst klst blst glst Glal klal blal glal Glsu klsu blsu glsu
end PWK
set_option maxRecDepth 100000 in
set_option maxHeartbeats 0 in
open PySem PySem.W PyProof.Rows in
theorem PySem.Challenge.cw_pinchworks_k34_whole_water_of_one_sink_holds : PySem.Challenge.rw_pinchworks_k34_whole_water_of_one_sink.Holds := by
  w_on; o_law; k_head; (case hw => w_witness2)
  k_fill
  refine PWK.walk_tab (l := PySem.Challenge.rw_pinchworks_k34_whole_water_of_one_sink) (n := 63) (k := 10) (x := "_law_script") (y := "need_water") (CX := fun _ => L2.CX0) rfl (by decide) rfl ⟨rfl, by decide, by decide⟩ (by kernel_rfl) (fun w h Y => PySem.W.kIn_of Y) ?F fun _ _ _ _ _ z => z
  case F =>
    intro w mg fa h Y KX G hmg hTab
    refine' PWK.all_mk KX G hmg hTab ?arat ?lrat ?crat_ ?aplu ?lplu ?cplu_ ?amin ?lmin ?cmin_ ?aby ?lby ?cby_ ?aove ?love ?cove_ ?ales ?lles ?cles_ ?atot ?ltot ?ctot_ ?aini ?iini ?lini ?cini_ ?atur ?itur ?ltur ?ctur_ ?amul ?imul ?lmul ?cmul_ ?acli ?icli ?lcli ?ccli_ ?alea ?ilea ?llea ?clea_ ?aamo ?iamo ?lamo ?camo_ ?apri ?ipri ?lpri ?cpri_ ?asol ?lsol ?csol_ ?aisi ?lisi ?cisi_ ?anee ?lnee ?cnee_ ?tnee ?pnee ?nnee ?awho ?lwho ?cwho_ ?apro ?lpro ?cpro_ ?apla ?lpla ?cpla_ ?afre ?lfre ?cfre_ ?alst ?llst ?clst_ ?atak ?ltak ?ctak_ ?apic ?lpic ?cpic_ ?aali ?lali ?cali_ ?alra ?llra ?clra_ ?alpl ?llpl ?clpl_ ?alby ?llby ?clby_ ?alsu ?llsu ?clsu_ ?alwa ?llwa ?clwa_ ?alal ?llal ?clal_ ?alaw ?llaw ?claw_ ?aC ?pg ?hd ?po ?sa ?mk ?kc ?na0 ?na1 ?na2 ?na3 ?z_len ?z_range ?z_enumerate ?z_zip ?z_list ?z_isinstance ?z_int ?z_bool ?z_tuple ?z_all ?z_dict ?z_abs ?z_str ?z_sorted ?z_min ?z_sum ?m1 ?m2 ?m3 ?aG
    (case aC => k_is)
    (case arat => k_is)
    (case lrat => k_is)
    (case crat_ => k_is)
    (case aplu => k_is)
    (case lplu => k_is)
    (case cplu_ => k_is)
    (case amin => k_is)
    (case lmin => k_is)
    (case cmin_ => k_is)
    (case aby => k_is)
    (case lby => k_is)
    (case cby_ => k_is)
    (case aove => k_is)
    (case love => k_is)
    (case cove_ => k_is)
    (case ales => k_is)
    (case lles => k_is)
    (case cles_ => k_is)
    (case atot => k_is)
    (case ltot => k_is)
    (case ctot_ => k_is)
    (case aini => k_is)
    (case iini => k_is)
    (case lini => k_is)
    (case cini_ => k_is)
    (case atur => k_is)
    (case itur => k_is)
    (case ltur => k_is)
    (case ctur_ => k_is)
    (case amul => k_is)
    (case imul => k_is)
    (case lmul => k_is)
    (case cmul_ => k_is)
    (case acli => k_is)
    (case icli => k_is)
    (case lcli => k_is)
    (case ccli_ => k_is)
    (case alea => k_is)
    (case ilea => k_is)
    (case llea => k_is)
    (case clea_ => k_is)
    (case aamo => k_is)
    (case iamo => k_is)
    (case lamo => k_is)
    (case camo_ => k_is)
    (case apri => k_is)
    (case ipri => k_is)
    (case lpri => k_is)
    (case cpri_ => k_is)
    (case asol => k_is)
    (case lsol => k_is)
    (case csol_ => k_is)
    (case aisi => k_is)
    (case lisi => k_is)
    (case cisi_ => k_is)
    (case anee => k_is)
    (case lnee => k_is)
    (case cnee_ => k_is)
    (case tnee => k_is)
    (case pnee => rfl)
    (case nnee => first | k_is | kernel_rfl)
    (case awho => k_is)
    (case lwho => k_is)
    (case cwho_ => k_is)
    (case apro => k_is)
    (case lpro => k_is)
    (case cpro_ => k_is)
    (case apla => k_is)
    (case lpla => k_is)
    (case cpla_ => k_is)
    (case afre => k_is)
    (case lfre => k_is)
    (case cfre_ => k_is)
    (case alst => k_is)
    (case llst => k_is)
    (case clst_ => k_is)
    (case atak => k_is)
    (case ltak => k_is)
    (case ctak_ => k_is)
    (case apic => k_is)
    (case lpic => k_is)
    (case cpic_ => k_is)
    (case aali => k_is)
    (case lali => k_is)
    (case cali_ => k_is)
    (case alra => k_is)
    (case llra => k_is)
    (case clra_ => k_is)
    (case alpl => k_is)
    (case llpl => k_is)
    (case clpl_ => k_is)
    (case alby => k_is)
    (case llby => k_is)
    (case clby_ => k_is)
    (case alsu => k_is)
    (case llsu => k_is)
    (case clsu_ => k_is)
    (case alwa => k_is)
    (case llwa => k_is)
    (case clwa_ => k_is)
    (case alal => k_is)
    (case llal => k_is)
    (case clal_ => k_is)
    (case alaw => k_is)
    (case llaw => k_is)
    (case claw_ => k_is)
    (case pg => k_is)
    (case hd => k_is)
    (case po => k_is)
    (case sa => k_is)
    (case mk => k_is)
    (case kc => k_is)
    (case na0 => k_is)
    (case na1 => k_is)
    (case na2 => k_is)
    (case na3 => k_is)
    (case z_len => k_is)
    (case z_range => k_is)
    (case z_enumerate => k_is)
    (case z_zip => k_is)
    (case z_list => k_is)
    (case z_isinstance => k_is)
    (case z_int => k_is)
    (case z_bool => k_is)
    (case z_tuple => k_is)
    (case z_all => k_is)
    (case z_dict => k_is)
    (case z_abs => k_is)
    (case z_str => k_is)
    (case z_sorted => k_is)
    (case z_min => k_is)
    (case z_sum => k_is)
    (case m1 => k_is)
    (case m2 => k_is)
    (case m3 => k_is)
    (case aG => k_is)
