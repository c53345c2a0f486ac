import PyProof.Rows.All
import Wide.All
import OpenK.AllK
import Wide.FinOn
import HandS.ForMost
import HandS.Walk
import HandS.Gcd
import HandS.Wide
import HandS.IsInst
import HandS.AnyAll
import HandS.EndTab
import HandS.Star
import HandS.Style
import HandS.Flow
import HandS.Zip
import HandS.TupAny
import HandS.Conv
import KE.GoesEnum
import KE.GoesMore
import PyProof.WalksMore
import PyProof.TupleKey
import PySem.Challenge.RW_pinchworks_k31_whole_least_fresh_water
/-! ## WMath -/
set_option linter.all false
namespace Wt
/-- the sum of f k, k below n -/
def S : Nat → (Nat → Rat) → Rat
  | 0, _ => 0
  | n + 1, f => S n f + f n

theorem S_congr {f g : Nat → Rat} : ∀ {n : Nat}, (∀ k, k < n → f k = g k) → S n f = S n g
  | 0, _ => rfl
  | n + 1, h => by
    unfold S
    rw [S_congr (n := n) fun k hk => h k (Nat.lt_succ_of_lt hk), h n (Nat.lt_succ_self n)]
theorem S_add (f g : Nat → Rat) : ∀ n : Nat, S n (fun k => f k + g k) = S n f + S n g
  | 0 => by
    show (0 : Rat) = 0 + 0
    grind
  | n + 1 => by
    unfold S
    rw [S_add f g n]
    grind
theorem S_sub (f g : Nat → Rat) : ∀ n : Nat, S n (fun k => f k - g k) = S n f - S n g
  | 0 => by
    show (0 : Rat) = 0 - 0
    grind
  | n + 1 => by
    unfold S
    rw [S_sub f g n]
    grind
theorem S_mul (c : Rat) (f : Nat → Rat) : ∀ n : Nat, S n (fun k => c * f k) = c * S n f
  | 0 => by simp [S]
  | n + 1 => by
    unfold S
    rw [S_mul c f n]
    grind
theorem S_mulr (c : Rat) (f : Nat → Rat) (n : Nat) : S n (fun k => f k * c) = S n f * c := by
  rw [Rat.mul_comm, ← S_mul]
  exact S_congr fun k _ => Rat.mul_comm _ _
theorem S_zero {f : Nat → Rat} : ∀ {n : Nat}, (∀ k, k < n → f k = 0) → S n f = 0
  | 0, _ => rfl
  | n + 1, h => by
    unfold S
    rw [S_zero (n := n) fun k hk => h k (Nat.lt_succ_of_lt hk), h n (Nat.lt_succ_self n)]
    grind
theorem S_one {f : Nat → Rat} {j : Nat} : ∀ {n : Nat}, j < n → (∀ k, k < n → k ≠ j → f k = 0) → S n f = f j
  | 0, hj, _ => absurd hj (Nat.not_lt_zero _)
  | n + 1, hj, h => by
    unfold S
    by_cases e : j = n
    · subst e
      rw [S_zero (n := j) fun k hk => h k (Nat.lt_succ_of_lt hk) (Nat.ne_of_lt hk)]
      grind
    · rw [S_one (n := n) (by omega) fun k hk => h k (Nat.lt_succ_of_lt hk), h n (Nat.lt_succ_self n) (Ne.symm e)]
      grind
theorem S_swap (f : Nat → Nat → Rat) (m : Nat) : ∀ n : Nat, S n (fun i => S m (fun j => f i j)) = S m (fun j => S n (fun i => f i j))
  | 0 => by
    refine Eq.trans ?_ (S_zero (n := m) fun k _ => rfl).symm
    rfl
  | n + 1 => by
    show S n (fun i => S m (fun j => f i j)) + S m (fun j => f n j) = S m (fun j => S n (fun i => f i j) + f n j)
    rw [S_swap f m n, S_add]
theorem S_nonneg {f : Nat → Rat} : ∀ {n : Nat}, (∀ k, k < n → 0 ≤ f k) → 0 ≤ S n f
  | 0, _ => by simp [S]
  | n + 1, h => by
    unfold S
    have h1 := S_nonneg (n := n) fun k hk => h k (Nat.lt_succ_of_lt hk)
    have h2 := h n (Nat.lt_succ_self n)
    grind
theorem S_le {f g : Nat → Rat} : ∀ {n : Nat}, (∀ k, k < n → f k ≤ g k) → S n f ≤ S n g
  | 0, _ => by simp [S]
  | n + 1, h => by
    unfold S
    have h1 := S_le (n := n) fun k hk => h k (Nat.lt_succ_of_lt hk)
    have h2 := h n (Nat.lt_succ_self n)
    grind
theorem S_pos {f : Nat → Rat} : ∀ {n : Nat}, 0 < S n f → ∃ k, k < n ∧ 0 < f k
  | 0, h => by
    unfold S at h
    grind
  | n + 1, h => by
    unfold S at h
    by_cases hn : 0 < f n
    · exact ⟨n, Nat.lt_succ_self n, hn⟩
    · obtain ⟨k, hk, h'⟩ := S_pos (n := n) (f := f) (by grind)
      exact ⟨k, Nat.lt_succ_of_lt hk, h'⟩
/-- all of a sum of things from 0 on that is at most 0 are 0 -/
theorem S_all_zero {f : Nat → Rat} : ∀ {n : Nat}, (∀ k, k < n → 0 ≤ f k) → S n f ≤ 0 → ∀ k, k < n → f k = 0
  | 0, _, _, k, hk => absurd hk (Nat.not_lt_zero _)
  | n + 1, h, h0, k, hk => by
    unfold S at h0
    have h1 := S_nonneg (n := n) fun k hk => h k (Nat.lt_succ_of_lt hk)
    have h2 := h n (Nat.lt_succ_self n)
    by_cases e : k = n
    · subst e
      grind
    · exact S_all_zero (n := n) (fun k hk => h k (Nat.lt_succ_of_lt hk)) (by grind) k (by omega)
/-- a sum split behind its first a -/
theorem S_split (f : Nat → Rat) (a : Nat) : ∀ b : Nat, S (a + b) f = S a f + S b (fun k => f (a + k))
  | 0 => by
    show S a f = S a f + 0
    grind
  | b + 1 => by
    show S (a + b) f + f (a + b) = S a f + (S b (fun k => f (a + k)) + f (a + b))
    rw [S_split f a b]
    grind

/-! ### tables -/
structure Tb where
  T : Nat → Nat → Rat
  B : Nat → Nat
def Ker (m W : Nat) (T : Nat → Nat → Rat) (v : Nat → Rat) : Prop := ∀ i, i < m → S W (fun k => T i k * v k) = 0
structure Good (n m : Nat) (T0 : Nat → Nat → Rat) (s : Tb) : Prop where
  bas : ∀ j, j < m → s.B j < n + m
  unit : ∀ i j, i < m → j < m → s.T i (s.B j) = if i = j then 1 else 0
  ker : ∀ v, Ker m (n + m + 1) T0 v ↔ Ker m (n + m + 1) s.T v
/-- column k at row j -/
def piv (s : Tb) (j k : Nat) : Tb where
  T := fun i c => if i = j then s.T j c / s.T j k else s.T i c - s.T i k * (s.T j c / s.T j k)
  B := fun i => if i = j then k else s.B i
def mult (m : Nat) (s : Tb) (c : Nat → Rat) (k : Nat) : Rat := S m (fun j => c (s.B j) * s.T j k)
def Feas (n m : Nat) (s : Tb) : Prop := ∀ j, j < m → 0 ≤ s.T j (n + m)
def Enter (n m : Nat) (c : Nat → Rat) (s : Tb) (k : Nat) : Prop := k < n ∧ mult m s c k < c k ∧ ∀ k', k' < k → ¬ mult m s c k' < c k'
def Leave (n m : Nat) (s : Tb) (k j : Nat) : Prop := j < m ∧ 0 < s.T j k ∧ ∀ i, i < m → 0 < s.T i k →
  s.T j (n + m) / s.T j k < s.T i (n + m) / s.T i k ∨ (s.T j (n + m) / s.T j k = s.T i (n + m) / s.T i k ∧ s.B j ≤ s.B i)
/-- the way out from a table along column k -/
def dir (m : Nat) (s : Tb) (k : Nat) : Nat → Rat := fun x => (if x = k then 1 else 0) - S m (fun j => if s.B j = x then s.T j k else 0)

section
variable {n m : Nat} {T0 : Nat → Nat → Rat} {s : Tb} {c : Nat → Rat} {j k : Nat}
theorem Good.inj (g : Good n m T0 s) {i j : Nat} (hi : i < m) (hj : j < m) (e : s.B i = s.B j) : i = j := by
  have h1 := g.unit i j hi hj
  rw [← e, g.unit i i hi hi, if_pos rfl] at h1
  by_cases h : i = j
  · exact h
  · rw [if_neg h] at h1
    exact absurd h1 (by decide)
theorem div_self' {a : Rat} (h : a ≠ 0) : a / a = 1 := by grind
theorem good_piv (g : Good n m T0 s) (hj : j < m) (hk : k < n + m) (hp : s.T j k ≠ 0) : Good n m T0 (piv s j k) := by
  refine ⟨fun i hi => ?_, fun i l hi hl => ?_, fun v => (g.ker v).trans ⟨fun h i hi => ?_, fun h i hi => ?_⟩⟩
  · show (if i = j then k else s.B i) < n + m
    split
    · exact hk
    · exact g.bas i hi
  · show (if i = j then s.T j (if l = j then k else s.B l) / s.T j k else s.T i (if l = j then k else s.B l) - s.T i k * (s.T j (if l = j then k else s.B l) / s.T j k)) = _
    by_cases el : l = j
    · subst el
      rw [if_pos rfl]
      by_cases ei : i = l
      · rw [if_pos ei, if_pos ei]
        exact div_self' hp
      · rw [if_neg ei, if_neg ei]
        grind
    · rw [if_neg el]
      have h1 := g.unit i l hi hl
      have h2 := g.unit j l hj hl
      rw [if_neg (Ne.symm el)] at h2
      rw [h1, h2]
      by_cases ei : i = j
      · subst ei
        rw [if_pos rfl, if_neg (Ne.symm el)]
        grind
      · rw [if_neg ei]
        grind
  · have hrow : S (n + m + 1) (fun x => s.T j x / s.T j k * v x) = 0 := by
      have e : S (n + m + 1) (fun x => s.T j x / s.T j k * v x) = S (n + m + 1) (fun x => (1 / s.T j k) * (s.T j x * v x)) := S_congr fun x _ => by grind
      rw [e, S_mul, h j hj]
      grind
    by_cases ei : i = j
    · subst ei
      refine Eq.trans (S_congr fun x _ => ?_) hrow
      show (if i = i then _ else _) * v x = _
      rw [if_pos rfl]
    · have e : S (n + m + 1) (fun x => (piv s j k).T i x * v x) = S (n + m + 1) (fun x => s.T i x * v x - s.T i k * (s.T j x / s.T j k * v x)) := S_congr fun x _ => by
        show (if i = j then _ else _) * v x = _
        rw [if_neg ei]
        grind
      rw [e, S_sub, S_mul, hrow, h i hi]
      grind
  · have hrow : S (n + m + 1) (fun x => s.T j x / s.T j k * v x) = 0 := by
      refine Eq.trans (S_congr fun x _ => ?_) (h j hj)
      show _ = (if j = j then _ else _) * v x
      rw [if_pos rfl]
    have hj0 : S (n + m + 1) (fun x => s.T j x * v x) = 0 := by
      have e : S (n + m + 1) (fun x => s.T j x * v x) = S (n + m + 1) (fun x => s.T j k * (s.T j x / s.T j k * v x)) := S_congr fun x _ => by grind
      rw [e, S_mul, hrow]
      grind
    by_cases ei : i = j
    · subst ei
      exact hj0
    · have e : S (n + m + 1) (fun x => s.T i x * v x) = S (n + m + 1) (fun x => (piv s j k).T i x * v x + s.T i k * (s.T j x / s.T j k * v x)) := S_congr fun x _ => by
        show _ = (if i = j then _ else _) * v x + _
        rw [if_neg ei]
        grind
      rw [e, S_add, S_mul, hrow, h i hi]
      grind
theorem div_nonneg' {a b : Rat} (h : 0 < b) (ha : 0 ≤ a) : 0 ≤ a / b := by
  rw [Rat.div_def]
  exact Rat.mul_nonneg ha (Rat.le_of_lt (Rat.inv_pos.mpr h))
theorem feas_piv (f : Feas n m s) (l : Leave n m s k j) : Feas n m (piv s j k) := fun i hi => by
  obtain ⟨hj, hp, hl⟩ := l
  have ht : 0 ≤ s.T j (n + m) / s.T j k := div_nonneg' hp (f j hj)
  show 0 ≤ (if i = j then _ else _)
  by_cases ei : i = j
  · rw [if_pos ei]
    exact ht
  · rw [if_neg ei]
    by_cases hi0 : 0 < s.T i k
    · have h1 : s.T j (n + m) / s.T j k ≤ s.T i (n + m) / s.T i k := by
        rcases hl i hi hi0 with h | ⟨h, _⟩ <;> grind
      have h2 := Rat.mul_le_mul_of_nonneg_left h1 (Rat.le_of_lt hi0)
      have h3 : s.T i k * (s.T i (n + m) / s.T i k) = s.T i (n + m) := by
        have : s.T i k ≠ 0 := by grind
        grind
      grind
    · have h2 := Rat.mul_nonneg (a := - s.T i k) (b := s.T j (n + m) / s.T j k) (by grind) ht
      have h1 := f i hi
      grind
/-- g along the way out -/
theorem pair (g : Nat → Rat) {W : Nat} (hk : k < W) (hb : ∀ j, j < m → s.B j < W) : S W (fun x => g x * dir m s k x) = g k - S m (fun j => s.T j k * g (s.B j)) := by
  have e : S W (fun x => g x * dir m s k x) = S W (fun x => g x * (if x = k then 1 else 0)) - S W (fun x => S m (fun j => g x * (if s.B j = x then s.T j k else 0))) := by
    rw [← S_sub]
    refine S_congr fun x _ => ?_
    rw [S_mul]
    show g x * (_ - _) = _
    grind
  rw [e, S_swap]
  congr 1
  · rw [S_one hk fun x _ hx => by rw [if_neg hx]; grind]
    rw [if_pos rfl]
    grind
  · refine S_congr fun j hj => ?_
    rw [S_one (hb j hj) fun x _ hx => by rw [if_neg (Ne.symm hx)]; grind]
    rw [if_pos rfl]
    grind
theorem dir_ker (g : Good n m T0 s) (hk : k < n + m + 1) : Ker m (n + m + 1) s.T (dir m s k) := fun i hi => by
  rw [pair (s.T i) hk fun j hj => Nat.lt_succ_of_lt (g.bas j hj)]
  rw [S_one hi fun j hj e => by rw [g.unit i j hi hj, if_neg (Ne.symm e)]; grind]
  rw [g.unit i i hi hi, if_pos rfl]
  grind
theorem mult_ker {W : Nat} {v : Nat → Rat} (h : Ker m W s.T v) : S W (fun x => mult m s c x * v x) = 0 := by
  have e : S W (fun x => mult m s c x * v x) = S W (fun x => S m (fun j => c (s.B j) * (s.T j x * v x))) := S_congr fun x _ => by
    unfold mult
    rw [← S_mulr]
    exact S_congr fun j _ => by grind
  rw [e, S_swap]
  refine S_zero fun j hj => ?_
  rw [S_mul, h j hj]
  grind
/-- the sum of costs by the differences -/
theorem red {W : Nat} {v : Nat → Rat} (h : Ker m W s.T v) : S W (fun x => c x * v x) = S W (fun x => (c x - mult m s c x) * v x) := by
  have e : S W (fun x => (c x - mult m s c x) * v x) = S W (fun x => c x * v x) - S W (fun x => mult m s c x * v x) := by
    rw [← S_sub]
    exact S_congr fun x _ => by grind
  rw [e, mult_ker h]
  grind
theorem mult_piv (hj : j < m) (hp : s.T j k ≠ 0) (x : Nat) : mult m (piv s j k) c x = mult m s c x + (c k - mult m s c k) * (s.T j x / s.T j k) := by
  have e : mult m (piv s j k) c x = S m (fun i => (c (s.B i) * s.T i x - c (s.B i) * s.T i k * (s.T j x / s.T j k)) + (if i = j then c k * (s.T j x / s.T j k) else 0)) := by
    refine S_congr fun i _ => ?_
    show c (if i = j then k else s.B i) * (if i = j then _ else _) = _
    by_cases ei : i = j
    · subst ei
      rw [if_pos rfl, if_pos rfl, if_pos rfl]
      have : s.T i k * (s.T i x / s.T i k) = s.T i x := by grind
      grind
    · rw [if_neg ei, if_neg ei, if_neg ei]
      grind
  have e2 : S m (fun i => if i = j then c k * (s.T j x / s.T j k) else 0) = c k * (s.T j x / s.T j k) := by
    rw [S_one hj fun i _ ei => if_neg ei, if_pos rfl]
  rw [e, S_add, S_sub, S_mulr, e2]
  unfold mult
  grind
/-- at a basic column the difference is 0 -/
theorem mult_bas (g : Good n m T0 s) (hj : j < m) : mult m s c (s.B j) = c (s.B j) := by
  unfold mult
  rw [S_one hj fun i hi e => by rw [g.unit i j hi hj, if_neg e]; grind]
  rw [g.unit j j hj hj, if_pos rfl]
  grind
theorem Enter.notin (g : Good n m T0 s) (e : Enter n m c s k) {j : Nat} (hj : j < m) : s.B j ≠ k := fun q => by
  obtain ⟨_, h, _⟩ := e
  rw [← q, mult_bas g hj] at h
  grind
theorem dir_out (h : ∀ j, j < m → s.B j ≠ k) : dir m s k k = 1 := by
  unfold dir
  rw [if_pos rfl, S_zero fun j hj => if_neg (h j hj)]
  grind
theorem dir_bas (g : Good n m T0 s) (hj : j < m) (h : s.B j ≠ k) : dir m s k (s.B j) = - s.T j k := by
  unfold dir
  rw [if_neg h, S_one hj fun i hi e => if_neg fun q => e (g.inj hi hj q)]
  rw [if_pos rfl]
  grind
theorem dir_else {x : Nat} (h : x ≠ k) (h' : ∀ j, j < m → s.B j ≠ x) : dir m s k x = 0 := by
  unfold dir
  rw [if_neg h, S_zero fun j hj => if_neg (h' j hj)]
  grind
/-- two tables over the same basis are alike -/
theorem same_of_bas {s' : Tb} (g : Good n m T0 s) (g' : Good n m T0 s') (h : ∀ j, j < m → s.B j = s'.B j) {i k : Nat} (hi : i < m) (hk : k < n + m + 1) : s'.T i k = s.T i k := by
  have h1 := (g'.ker _).mp ((g.ker _).mpr (dir_ker g hk)) i hi
  rw [pair (s'.T i) hk fun j hj => Nat.lt_succ_of_lt (g.bas j hj)] at h1
  rw [S_one hi fun j hj e => by rw [h j hj, g'.unit i j hi hj, if_neg (Ne.symm e)]; grind] at h1
  rw [h i hi, g'.unit i i hi hi, if_pos rfl] at h1
  grind
end
end Wt
namespace Wt
/-! ### no basis comes twice (Bland) -/
/-- a run of steps -/
structure Run (n m : Nat) (T0 : Nat → Nat → Rat) (c : Nat → Rat) (σ : Nat → Tb) (e l : Nat → Nat) (L : Nat) : Prop where
  good : ∀ i, i ≤ L → Good n m T0 (σ i)
  feas : ∀ i, i ≤ L → Feas n m (σ i)
  ent : ∀ i, i < L → Enter n m c (σ i) (e i)
  lev : ∀ i, i < L → Leave n m (σ i) (e i) (l i)
  stp : ∀ i, i < L → σ (i + 1) = piv (σ i) (l i) (e i)
def InB (m : Nat) (s : Tb) (x : Nat) : Prop := ∃ j, j < m ∧ s.B j = x
section
variable {n m : Nat} {T0 : Nat → Nat → Rat} {c : Nat → Rat} {σ : Nat → Tb} {e l : Nat → Nat} {L : Nat}
theorem Run.pos (r : Run n m T0 c σ e l L) {i : Nat} (hi : i < L) : (σ i).T (l i) (e i) ≠ 0 := by
  have h := (r.lev i hi).2.1
  grind
theorem Run.notin (r : Run n m T0 c σ e l L) {i : Nat} (hi : i < L) : ¬ InB m (σ i) (e i) := fun ⟨j, hj, q⟩ =>
  Enter.notin (r.good i (Nat.le_of_lt hi)) (r.ent i hi) hj q
theorem Run.inB (r : Run n m T0 c σ e l L) {i : Nat} (hi : i < L) : InB m (σ (i + 1)) (e i) :=
  ⟨l i, (r.lev i hi).1, by rw [r.stp i hi]; exact if_pos rfl⟩
theorem Run.stay (r : Run n m T0 c σ e l L) {i x : Nat} (hi : i < L) (h : InB m (σ i) x) (hx : (σ i).B (l i) ≠ x) : InB m (σ (i + 1)) x := by
  obtain ⟨j, hj, q⟩ := h
  refine ⟨j, hj, ?_⟩
  rw [r.stp i hi]
  show (if j = l i then _ else _) = x
  rw [if_neg fun z => hx (by rw [← z]; exact q)]
  exact q
theorem Run.back (r : Run n m T0 c σ e l L) {i x : Nat} (hi : i < L) (h : InB m (σ (i + 1)) x) (hx : e i ≠ x) : InB m (σ i) x := by
  obtain ⟨j, hj, q⟩ := h
  rw [r.stp i hi] at q
  have q' : (if j = l i then e i else (σ i).B j) = x := q
  by_cases z : j = l i
  · rw [if_pos z] at q'
    exact absurd q' hx
  · rw [if_neg z] at q'
    exact ⟨j, hj, q'⟩
/-- what stays in from i on -/
theorem Run.stays (r : Run n m T0 c σ e l L) {x : Nat} (hx : ∀ i, i < L → (σ i).B (l i) ≠ x) {i : Nat} (h : InB m (σ i) x) : ∀ d, i + d ≤ L → InB m (σ (i + d)) x
  | 0, _ => h
  | d + 1, hd => r.stay (i := i + d) (by omega) (r.stays hx h d (by omega)) (hx _ (by omega))
/-- what stays out from i on -/
theorem Run.outs (r : Run n m T0 c σ e l L) {x : Nat} (hx : ∀ i, i < L → e i ≠ x) {i : Nat} (h : ¬ InB m (σ i) x) : ∀ d, i + d ≤ L → ¬ InB m (σ (i + d)) x
  | 0, _ => h
  | d + 1, hd => fun q => r.outs hx h d (by omega) (r.back (i := i + d) (by omega) q (hx _ (by omega)))
def obj (n m : Nat) (c : Nat → Rat) (s : Tb) : Rat := mult m s c (n + m)
theorem Run.theta (r : Run n m T0 c σ e l L) {i : Nat} (hi : i < L) : 0 ≤ (σ i).T (l i) (n + m) / (σ i).T (l i) (e i) :=
  div_nonneg' (r.lev i hi).2.1 (r.feas i (Nat.le_of_lt hi) _ (r.lev i hi).1)
theorem Run.obj_step (r : Run n m T0 c σ e l L) {i : Nat} (hi : i < L) : obj n m c (σ (i + 1)) = obj n m c (σ i) + (c (e i) - mult m (σ i) c (e i)) * ((σ i).T (l i) (n + m) / (σ i).T (l i) (e i)) := by
  unfold obj
  rw [r.stp i hi]
  exact mult_piv (r.lev i hi).1 (r.pos hi) _
theorem Run.obj_up (r : Run n m T0 c σ e l L) {i : Nat} (hi : i < L) : obj n m c (σ i) ≤ obj n m c (σ (i + 1)) := by
  rw [r.obj_step hi]
  have h := Rat.mul_nonneg (a := c (e i) - mult m (σ i) c (e i)) (by have := (r.ent i hi).2.1; grind) (r.theta hi)
  grind
theorem Run.obj_ups (r : Run n m T0 c σ e l L) (i : Nat) : ∀ d, i + d ≤ L → obj n m c (σ i) ≤ obj n m c (σ (i + d))
  | 0, _ => Rat.le_refl
  | d + 1, hd => Rat.le_trans (r.obj_ups i d (by omega)) (r.obj_up (i := i + d) (by omega))
theorem ex_max (e : Nat → Nat) : ∀ L, 0 < L → ∃ i, i < L ∧ ∀ j, j < L → e j ≤ e i
  | 0, h => absurd h (Nat.lt_irrefl _)
  | L + 1, _ => by
    by_cases hL : L = 0
    · subst hL
      exact ⟨0, by omega, fun j hj => by
        have : j = 0 := by omega
        subst this
        exact Nat.le_refl _⟩
    · obtain ⟨i, hi, h⟩ := ex_max e L (by omega)
      by_cases hc : e i ≤ e L
      · refine ⟨L, by omega, fun j hj => ?_⟩
        by_cases z : j = L
        · rw [z]
          exact Nat.le_refl _
        · exact Nat.le_trans (h j (by omega)) hc
      · refine ⟨i, by omega, fun j hj => ?_⟩
        by_cases z : j = L
        · rw [z]
          omega
        · exact h j (by omega)
/-- the amount of column x -/
def amt (n m : Nat) (s : Tb) (x : Nat) : Rat := S m (fun j => if s.B j = x then s.T j (n + m) else 0)
theorem amt_bas {s : Tb} (g : Good n m T0 s) {j : Nat} (hj : j < m) : amt n m s (s.B j) = s.T j (n + m) := by
  unfold amt
  rw [S_one hj fun i hi q => if_neg fun z => q (g.inj hi hj z), if_pos rfl]
theorem amt_out {s : Tb} {x : Nat} (h : ¬ InB m s x) : amt n m s x = 0 := by
  unfold amt
  exact S_zero fun j hj => if_neg fun z => h ⟨j, hj, z⟩

theorem no_cycle (hL : 0 < L) (r : Run n m T0 c σ e l L) (hB : ∀ j, j < m → (σ 0).B j = (σ L).B j) : False := by
  -- all steps move nothing
  have hz : obj n m c (σ L) = obj n m c (σ 0) := by
    unfold obj mult
    refine S_congr fun j hj => ?_
    rw [← hB j hj, same_of_bas (r.good 0 (Nat.zero_le _)) (r.good L (Nat.le_refl _)) hB hj (Nat.lt_succ_self _)]
  have deg : ∀ i, i < L → (σ i).T (l i) (n + m) = 0 := fun i hi => by
    have h1 := r.obj_ups 0 i (by omega)
    have h2 := r.obj_ups (i + 1) (L - (i + 1)) (by omega)
    rw [show i + 1 + (L - (i + 1)) = L by omega] at h2
    rw [Nat.zero_add] at h1
    have h3 := r.obj_step hi
    have h4 := r.theta hi
    have hd := (r.ent i hi).2.1
    have h5 : (c (e i) - mult m (σ i) c (e i)) * ((σ i).T (l i) (n + m) / (σ i).T (l i) (e i)) ≤ 0 := by grind
    have h6 : (σ i).T (l i) (n + m) / (σ i).T (l i) (e i) = 0 := by
      by_cases z : 0 < (σ i).T (l i) (n + m) / (σ i).T (l i) (e i)
      · have := Rat.mul_pos (a := c (e i) - mult m (σ i) c (e i)) (by grind) z
        grind
      · grind
    have h7 := r.pos hi
    grind
  -- so the point stays
  have pt : ∀ i, i < L → ∀ x, amt n m (σ (i + 1)) x = amt n m (σ i) x := fun i hi x => by
    unfold amt
    refine S_congr fun j hj => ?_
    rw [r.stp i hi]
    show (if (if j = l i then e i else (σ i).B j) = x then (if j = l i then _ else _) else 0) = _
    by_cases z : j = l i
    · rw [if_pos z, if_pos z, z, deg i hi]
      have : (0 : Rat) / (σ i).T (l i) (e i) = 0 := by grind
      rw [this]
      split <;> split <;> rfl
    · rw [if_neg z, if_neg z, deg i hi]
      have : (σ i).T j (n + m) - (σ i).T j (e i) * (0 / (σ i).T (l i) (e i)) = (σ i).T j (n + m) := by grind
      rw [this]
  have pts : ∀ d, d ≤ L → ∀ x, amt n m (σ d) x = amt n m (σ 0) x := fun d => by
    induction d with
    | zero => exact fun _ _ => rfl
    | succ d ih => exact fun hd x => (pt d (by omega) x).trans (ih (by omega) x)
  have cyc : ∀ x, InB m (σ 0) x ↔ InB m (σ L) x := fun x => ⟨fun ⟨j, hj, q⟩ => ⟨j, hj, (hB j hj).symm.trans q⟩, fun ⟨j, hj, q⟩ => ⟨j, hj, (hB j hj).trans q⟩⟩
  -- the greatest column that enters
  obtain ⟨i0, hi0, hmax⟩ := ex_max e L hL
  -- it leaves too
  have hp : ∃ p, p < L ∧ (σ p).B (l p) = e i0 := Classical.byContradiction fun no => by
    have st : ∀ i, i < L → (σ i).B (l i) ≠ e i0 := fun i hi q => no ⟨i, hi, q⟩
    have h1 := r.stays st (r.inB hi0) (L - (i0 + 1)) (by omega)
    rw [show i0 + 1 + (L - (i0 + 1)) = L by omega] at h1
    have h2 := r.stays st ((cyc _).mpr h1) i0 (by omega)
    rw [Nat.zero_add] at h2
    exact r.notin hi0 h2
  obtain ⟨p, hp, hpt⟩ := hp
  have gp := r.good p (Nat.le_of_lt hp)
  have gi := r.good i0 (Nat.le_of_lt hi0)
  -- the way out of D along its entering column
  have kv := (gi.ker _).mp ((gp.ker _).mpr (dir_ker gp (k := e p) (by have := (r.ent p hp).1; omega)))
  have h1 : S (n + m + 1) (fun x => c x * dir m (σ p) (e p) x) = c (e p) - mult m (σ p) c (e p) := by
    rw [pair c (by have := (r.ent p hp).1; omega) fun j hj => Nat.lt_succ_of_lt (gp.bas j hj)]
    unfold mult
    congr 1
    exact S_congr fun j _ => Rat.mul_comm _ _
  have h2 : 0 < S (n + m + 1) (fun x => (c x - mult m (σ i0) c x) * dir m (σ p) (e p) x) := by
    rw [← red kv, h1]
    have := (r.ent p hp).2.1
    grind
  obtain ⟨x, hx, hpos⟩ := S_pos h2
  have outp : ∀ j, j < m → (σ p).B j ≠ e p := fun j hj q => r.notin hp ⟨j, hj, q⟩
  -- x is in the basis of D or enters there; and it isn't in the other one
  have hnin : ¬ InB m (σ i0) x := fun ⟨j, hj, q⟩ => by
    rw [← q, mult_bas gi hj] at hpos
    grind
  have hin : x = e p ∨ InB m (σ p) x := Classical.byContradiction fun no => by
    rw [dir_else (fun q => no (.inl q)) (fun j hj q => no (.inr ⟨j, hj, q⟩))] at hpos
    grind
  have fick : ∃ i, i < L ∧ e i = x := Classical.byContradiction fun no => by
    rcases hin with q | q
    · exact no ⟨p, hp, q.symm⟩
    · have st : ∀ i, i < L → e i ≠ x := fun i hi q => no ⟨i, hi, q⟩
      have h1 := r.outs st hnin (L - i0) (by omega)
      rw [show i0 + (L - i0) = L by omega] at h1
      have h2 := r.outs st (fun z => h1 ((cyc _).mp z)) p (by omega)
      rw [Nat.zero_add] at h2
      exact h2 q
  obtain ⟨f, hf, hfx⟩ := fick
  have hle : x ≤ e i0 := by rw [← hfx]; exact hmax f hf
  have hpe : 0 < (σ p).T (l p) (e p) := (r.lev p hp).2.1
  have hne : x ≠ e i0 := fun q => by
    have d1 : dir m (σ p) (e p) x = - (σ p).T (l p) (e p) := by
      rw [q, ← hpt]
      exact dir_bas gp (r.lev p hp).1 (outp _ (r.lev p hp).1)
    rw [d1, q] at hpos
    have h3 := Rat.mul_pos (a := c (e i0) - mult m (σ i0) c (e i0)) (by have := (r.ent i0 hi0).2.1; grind) hpe
    grind
  have hlt : x < e i0 := by omega
  have hneg : c x - mult m (σ i0) c x ≤ 0 := by
    have := (r.ent i0 hi0).2.2 x hlt
    grind
  have hv : dir m (σ p) (e p) x < 0 := by
    refine Classical.byContradiction fun no => ?_
    have h3 := Rat.mul_nonneg (a := - (c x - mult m (σ i0) c x)) (b := dir m (σ p) (e p) x) (by grind) (by grind)
    grind
  rcases hin with q | ⟨j, hj, q⟩
  · rw [q, dir_out outp] at hv
    exact absurd hv (by decide)
  · rw [← q, dir_bas gp hj (outp j hj)] at hv
    have hT : 0 < (σ p).T j (e p) := by grind
    -- j's amount is 0
    have hb : (σ p).T j (n + m) = 0 := by
      rw [← amt_bas gp hj, q, pts p (by omega), ← pts f (by omega)]
      exact amt_out (by rw [← hfx]; exact r.notin hf)
    rcases (r.lev p hp).2.2 j hj hT with h | ⟨_, h⟩
    · rw [hb] at h
      have h3 := r.theta hp
      have : (0 : Rat) / (σ p).T j (e p) = 0 := by grind
      grind
    · rw [q, hpt] at h
      omega

/-! ### so there are not many steps -/
def code (b : Nat) (B : Nat → Nat) : Nat → Nat
  | 0 => 0
  | m + 1 => code b B m * b + B m
theorem code_lt {b : Nat} {B : Nat → Nat} : ∀ {m : Nat}, (∀ j, j < m → B j < b) → code b B m < b ^ m
  | 0, _ => by simp [code]
  | m + 1, h => by
    have h1 := code_lt (m := m) fun j hj => h j (Nat.lt_succ_of_lt hj)
    have h2 := h m (Nat.lt_succ_self m)
    show code b B m * b + B m < b ^ (m + 1)
    rw [Nat.pow_succ]
    have h3 : (code b B m + 1) * b ≤ b ^ m * b := Nat.mul_le_mul_right b h1
    rw [Nat.add_mul] at h3
    omega
theorem code_inj {b : Nat} {B C : Nat → Nat} : ∀ {m : Nat}, (∀ j, j < m → B j < b) → (∀ j, j < m → C j < b) → code b B m = code b C m → ∀ j, j < m → B j = C j
  | 0, _, _, _, j, hj => absurd hj (Nat.not_lt_zero _)
  | m + 1, hB, hC, e, j, hj => by
    have e' : code b B m * b + B m = code b C m * b + C m := e
    have h1 := hB m (Nat.lt_succ_self m)
    have h2 := hC m (Nat.lt_succ_self m)
    have e1 : B m = C m := by
      have := congrArg (· % b) e'
      simpa [Nat.mul_add_mod_of_lt, h1, h2, Nat.mul_comm, Nat.mul_add_mod, Nat.mod_eq_of_lt] using this
    have e2 : code b B m = code b C m := by
      rw [e1] at e'
      exact Nat.eq_of_mul_eq_mul_right (by omega : 0 < b) (by omega)
    by_cases z : j = m
    · rw [z]
      exact e1
    · exact code_inj (fun j hj => hB j (Nat.lt_succ_of_lt hj)) (fun j hj => hC j (Nat.lt_succ_of_lt hj)) e2 j (by omega)
theorem pigeon : ∀ (N : Nat) (f : Nat → Nat) (L : Nat), (∀ i, i ≤ L → f i < N) → (∀ i j, i < j → j ≤ L → f i ≠ f j) → L < N
  | 0, f, L, h, _ => absurd (h 0 (Nat.zero_le _)) (Nat.not_lt_zero _)
  | N + 1, f, L, h, inj => by
    cases L with
    | zero => omega
    | succ L =>
      by_cases hx : ∃ i, i ≤ L + 1 ∧ f i = N
      · obtain ⟨i, hi, e⟩ := hx
        have := pigeon N (fun a => if a < i then f a else f (a + 1)) L (fun a ha => ?_) (fun a b hab hb => ?_)
        · omega
        · show (if a < i then f a else f (a + 1)) < N
          split
          · rename_i q
            have h1 := h a (by omega)
            have h2 := inj a i q hi
            omega
          · rename_i q
            have h1 := h (a + 1) (by omega)
            have h2 := inj i (a + 1) (by omega) (by omega)
            omega
        · show (if a < i then f a else f (a + 1)) ≠ (if b < i then f b else f (b + 1))
          by_cases q1 : a < i
          · rw [if_pos q1]
            by_cases q2 : b < i
            · rw [if_pos q2]
              exact inj a b hab (by omega)
            · rw [if_neg q2]
              exact inj a (b + 1) (by omega) (by omega)
          · rw [if_neg q1, if_neg (by omega)]
            exact inj (a + 1) (b + 1) (by omega) (by omega)
      · have := pigeon N f L (fun a ha => ?_) (fun a b hab hb => inj a b hab (by omega))
        · -- one place more
          have h2 := pigeon N f (L + 1) (fun a ha => by
            have h1 := h a ha
            have h3 : f a ≠ N := fun q => hx ⟨a, ha, q⟩
            omega) inj
          omega
        · have h1 := h a (by omega)
          have h3 : f a ≠ N := fun q => hx ⟨a, by omega, q⟩
          omega
  termination_by N => N
theorem Run.part (r : Run n m T0 c σ e l L) {a d : Nat} (h : a + d ≤ L) : Run n m T0 c (fun i => σ (a + i)) (fun i => e (a + i)) (fun i => l (a + i)) d :=
  ⟨fun i hi => r.good _ (by omega), fun i hi => r.feas _ (by omega), fun i hi => r.ent _ (by omega), fun i hi => r.lev _ (by omega), fun i hi => r.stp (a + i) (by omega)⟩
theorem Run.short (r : Run n m T0 c σ e l L) : L < (n + m) ^ m := by
  refine pigeon _ (fun i => code (n + m) (σ i).B m) L (fun i hi => code_lt fun j hj => (r.good i hi).bas j hj) (fun i j hij hj q => ?_)
  have q' := code_inj (fun a ha => (r.good i (by omega)).bas a ha) (fun a ha => (r.good j hj).bas a ha) q
  have r' := r.part (a := i) (d := j - i) (by omega)
  refine no_cycle (by omega) r' fun a ha => ?_
  show (σ (i + 0)).B a = (σ (i + (j - i))).B a
  rw [show i + (j - i) = j by omega]
  exact q' a ha
/-- one step more -/
theorem Run.more (r : Run n m T0 c σ e l L) {k j : Nat} (h1 : Enter n m c (σ L) k) (h2 : Leave n m (σ L) k j) :
    Run n m T0 c (fun i => if i ≤ L then σ i else piv (σ L) j k) (fun i => if i < L then e i else k) (fun i => if i < L then l i else j) (L + 1) := by
  have g := r.good L (Nat.le_refl _)
  have gp : Good n m T0 (piv (σ L) j k) := good_piv g h2.1 (by have := h1.1; omega) (by have := h2.2.1; grind)
  have fp : Feas n m (piv (σ L) j k) := feas_piv (r.feas L (Nat.le_refl _)) h2
  refine ⟨fun i hi => ?_, fun i hi => ?_, fun i hi => ?_, fun i hi => ?_, fun i hi => ?_⟩
  · show Good n m T0 (if i ≤ L then σ i else _)
    split
    · rename_i q
      exact r.good i q
    · exact gp
  · show Feas n m (if i ≤ L then σ i else _)
    split
    · rename_i q
      exact r.feas i q
    · exact fp
  · show Enter n m c (if i ≤ L then σ i else _) (if i < L then e i else k)
    rw [if_pos (by omega)]
    by_cases z : i < L
    · rw [if_pos z]
      exact r.ent i z
    · rw [if_neg z, show i = L by omega]
      exact h1
  · show Leave n m (if i ≤ L then σ i else _) (if i < L then e i else k) (if i < L then l i else j)
    rw [if_pos (by omega)]
    by_cases z : i < L
    · rw [if_pos z, if_pos z]
      exact r.lev i z
    · rw [if_neg z, if_neg z, show i = L by omega]
      exact h2
  · show (if i + 1 ≤ L then σ (i + 1) else _) = piv (if i ≤ L then σ i else _) (if i < L then l i else j) (if i < L then e i else k)
    rw [if_pos (show i ≤ L by omega)]
    by_cases z : i < L
    · rw [if_pos z, if_pos z, if_pos (by omega)]
      exact r.stp i z
    · rw [if_neg z, if_neg z, if_neg (by omega), show i = L by omega]
end
/-- s is reached by L steps from somewhere -/
def Reached (n m : Nat) (T0 : Nat → Nat → Rat) (c : Nat → Rat) (s : Tb) (L : Nat) : Prop := ∃ σ e l, Run n m T0 c σ e l L ∧ σ L = s
section
variable {n m : Nat} {T0 : Nat → Nat → Rat} {c : Nat → Rat} {s : Tb} {L : Nat}
theorem Reached.start (g : Good n m T0 s) (f : Feas n m s) : Reached n m T0 c s 0 :=
  ⟨fun _ => s, fun _ => 0, fun _ => 0, ⟨fun _ _ => g, fun _ _ => f, fun _ h => absurd h (Nat.not_lt_zero _), fun _ h => absurd h (Nat.not_lt_zero _), fun _ h => absurd h (Nat.not_lt_zero _)⟩, rfl⟩
theorem Reached.good (r : Reached n m T0 c s L) : Good n m T0 s := by
  obtain ⟨σ, e, l, r, rfl⟩ := r
  exact r.good L (Nat.le_refl _)
theorem Reached.feas (r : Reached n m T0 c s L) : Feas n m s := by
  obtain ⟨σ, e, l, r, rfl⟩ := r
  exact r.feas L (Nat.le_refl _)
theorem Reached.short (r : Reached n m T0 c s L) : L < (n + m) ^ m := by
  obtain ⟨σ, e, l, r, rfl⟩ := r
  exact r.short
theorem Reached.more (r : Reached n m T0 c s L) {k j : Nat} (h1 : Enter n m c s k) (h2 : Leave n m s k j) : Reached n m T0 c (piv s j k) (L + 1) := by
  obtain ⟨σ, e, l, r, rfl⟩ := r
  refine ⟨_, _, _, r.more h1 h2, ?_⟩
  show (if L + 1 ≤ L then _ else _) = _
  rw [if_neg (by omega)]
end
/-- with costs that are nowhere positive some row always bounds the entering column -/
theorem bounded {n m : Nat} {T0 : Nat → Nat → Rat} {c : Nat → Rat} {s : Tb} {k : Nat} (g : Good n m T0 s) (hc : ∀ x, c x ≤ 0) (h : Enter n m c s k) : ∃ j, j < m ∧ 0 < s.T j k := Classical.byContradiction fun no => by
  have hneg : ∀ j, j < m → s.T j k ≤ 0 := fun j hj => by
    have := fun q => no ⟨j, hj, q⟩
    grind
  have h1 : S (n + m + 1) (fun x => c x * dir m s k x) = c k - mult m s c k := by
    rw [pair c (by have := h.1; omega) fun j hj => Nat.lt_succ_of_lt (g.bas j hj)]
    unfold mult
    congr 1
    exact S_congr fun j _ => Rat.mul_comm _ _
  have h2 : 0 ≤ S (n + m + 1) (fun x => - (c x * dir m s k x)) := S_nonneg fun x _ => by
    have hd : 0 ≤ dir m s k x := by
      unfold dir
      have h3 : 0 ≤ S m (fun j => - (if s.B j = x then s.T j k else 0)) := S_nonneg fun j hj => by
        have := hneg j hj
        split <;> grind
      have h4 : S m (fun j => - (if s.B j = x then s.T j k else 0)) = (-1) * S m (fun j => (if s.B j = x then s.T j k else 0)) := by
        rw [← S_mul]
        exact S_congr fun j _ => by grind
      split <;> grind
    have := Rat.mul_nonneg (a := - c x) (by have := hc x; grind) hd
    grind
  have h3 : S (n + m + 1) (fun x => - (c x * dir m s k x)) = (-1) * S (n + m + 1) (fun x => c x * dir m s k x) := by
    rw [← S_mul]
    exact S_congr fun j _ => by grind
  have := h.2.1
  grind
end Wt
namespace Wt
/-! ### determinants, for the size of the entries -/
def sk (r a : Nat) : Nat := if a < r then a else a + 1
def sg (r : Nat) : Rat := if r % 2 = 0 then 1 else -1
def det : Nat → (Nat → Nat → Rat) → Rat
  | 0, _ => 1
  | m + 1, M => S (m + 1) (fun r => sg r * M r 0 * det m (fun a i => M (sk r a) (i + 1)))
def put (M : Nat → Nat → Rat) (r : Nat) (v : Nat → Rat) : Nat → Nat → Rat := fun a => if a = r then v else M a
theorem det_congr : ∀ {m : Nat} {M N : Nat → Nat → Rat}, (∀ a i, a < m → i < m → M a i = N a i) → det m M = det m N
  | 0, _, _, _ => rfl
  | m + 1, M, N, h => by
    unfold det
    refine S_congr fun r hr => ?_
    rw [h r 0 hr (Nat.succ_pos _), det_congr (m := m) (M := fun a i => M (sk r a) (i + 1)) (N := fun a i => N (sk r a) (i + 1)) fun a i ha hi => h _ _ (by unfold sk; split <;> omega) (by omega)]
theorem minor_put {M : Nat → Nat → Rat} {r x : Nat} {w : Nat → Rat} (h : x ≠ r) :
    (fun a i => put M r w (sk x a) (i + 1)) = put (fun a i => M (sk x a) (i + 1)) (if r < x then r else r - 1) (fun i => w (i + 1)) := by
  funext a i
  unfold put
  by_cases e : sk x a = r
  · have e' : a = (if r < x then r else r - 1) := by
      unfold sk at e
      split at e <;> split <;> omega
    rw [if_pos e, if_pos e']
  · have e' : ¬ a = (if r < x then r else r - 1) := fun z => e (by
      unfold sk
      split at z <;> split <;> omega)
    rw [if_neg e, if_neg e']
theorem minor_put_same {M : Nat → Nat → Rat} {r : Nat} {w : Nat → Rat} : (fun a i => put M r w (sk r a) (i + 1)) = (fun a i => M (sk r a) (i + 1)) := by
  funext a i
  unfold put
  rw [if_neg]
  unfold sk
  split <;> omega
theorem put_same {M : Nat → Nat → Rat} {r : Nat} {w : Nat → Rat} : put M r w r = w := if_pos rfl
theorem put_ne {M : Nat → Nat → Rat} {r a : Nat} {w : Nat → Rat} (h : a ≠ r) : put M r w a = M a := if_neg h
theorem put_self {M : Nat → Nat → Rat} {r : Nat} : put M r (M r) = M := by
  funext a
  unfold put
  split
  · rename_i h
    rw [h]
  · rfl
theorem put_put {M : Nat → Nat → Rat} {r : Nat} {u v : Nat → Rat} : put (put M r u) r v = put M r v := by
  funext a
  unfold put
  split <;> rfl
theorem put_comm {M : Nat → Nat → Rat} {r q : Nat} {u v : Nat → Rat} (h : r ≠ q) : put (put M r u) q v = put (put M q v) r u := by
  funext a
  unfold put
  by_cases e : a = q
  · rw [if_pos e, if_neg (by omega), if_pos e]
  · rw [if_neg e]
    by_cases e' : a = r
    · rw [if_pos e', if_pos e']
    · rw [if_neg e', if_neg e', if_neg e]
theorem det_lin {α β : Rat} : ∀ {m : Nat} {M : Nat → Nat → Rat} {r : Nat} {u v : Nat → Rat}, r < m → det m (put M r (fun i => α * u i + β * v i)) = α * det m (put M r u) + β * det m (put M r v)
  | 0, _, r, _, _, h => absurd h (Nat.not_lt_zero _)
  | m + 1, M, r, u, v, h => by
    unfold det
    rw [← S_mul, ← S_mul, ← S_add]
    refine S_congr fun x hx => ?_
    by_cases e : x = r
    · subst e
      rw [minor_put_same, minor_put_same, minor_put_same, put_same, put_same, put_same]
      grind
    · rw [minor_put e, minor_put e, minor_put e, put_ne e, put_ne e, put_ne e]
      rw [det_lin (m := m) (u := fun i => u (i + 1)) (v := fun i => v (i + 1)) (by split <;> omega)]
      grind
theorem S_two {f : Nat → Rat} {n a b : Nat} (hab : a < b) (hb : b < n) (h : ∀ k, k < n → k ≠ a → k ≠ b → f k = 0) : S n f = f a + f b := by
  have e : S n f = S n (fun k => (if k = a then f k else 0) + (if k = a then 0 else f k)) := S_congr fun k _ => by split <;> grind
  rw [e, S_add, S_one (j := a) (by omega) fun k _ hk => if_neg hk, S_one (j := b) hb fun k hk hkb => by
    split
    · rfl
    · rename_i z
      exact h k hk z hkb]
  rw [if_pos rfl, if_neg (by omega)]
theorem sg_succ (r : Nat) : sg (r + 1) = - sg r := by
  unfold sg
  rcases Nat.mod_two_eq_zero_or_one r with h | h
  · have h' : ¬ (r + 1) % 2 = 0 := by omega
    rw [if_pos h, if_neg h']
  · have h' : (r + 1) % 2 = 0 := by omega
    have h2 : ¬ r % 2 = 0 := by omega
    rw [if_neg h2, if_pos h']
    rfl
theorem det_adj : ∀ {m : Nat} {M : Nat → Nat → Rat} {r : Nat}, r + 1 < m → M r = M (r + 1) → det m M = 0
  | 0, _, r, h, _ => absurd h (Nat.not_lt_zero _)
  | m + 1, M, r, h, e => by
    unfold det
    rw [S_two (a := r) (b := r + 1) (by omega) h fun x hx h1 h2 => ?_]
    · have em : (fun a i => M (sk (r + 1) a) (i + 1)) = (fun a i => M (sk r a) (i + 1)) := by
        funext a i
        by_cases z : a = r
        · subst z
          have e1 : sk (a + 1) a = a := if_pos (Nat.lt_succ_self _)
          have e2 : sk a a = a + 1 := if_neg (Nat.lt_irrefl _)
          rw [e1, e2, e]
        · have : sk (r + 1) a = sk r a := by
            unfold sk
            split <;> split <;> omega
          rw [this]
      rw [em, sg_succ, e]
      grind
    · rw [det_adj (m := m) (M := fun a i => M (sk x a) (i + 1)) (r := if r + 1 < x then r else r - 1) (by split <;> omega) ?_]
      · grind
      · funext i
        show M (sk x (if r + 1 < x then r else r - 1)) (i + 1) = M (sk x ((if r + 1 < x then r else r - 1) + 1)) (i + 1)
        have e1 : sk x (if r + 1 < x then r else r - 1) = r := by
          unfold sk
          split <;> split <;> omega
        have e2 : sk x ((if r + 1 < x then r else r - 1) + 1) = r + 1 := by
          by_cases z : r + 1 < x
          · rw [if_pos z]
            exact if_pos z
          · rw [if_neg z]
            have : ¬ r - 1 + 1 < x := by omega
            unfold sk
            rw [if_neg this]
            omega
        rw [e1, e2, e]
theorem det_add {m : Nat} {M : Nat → Nat → Rat} {r : Nat} {u v : Nat → Rat} (h : r < m) : det m (put M r (fun i => u i + v i)) = det m (put M r u) + det m (put M r v) := by
  have e := det_lin (α := 1) (β := 1) (M := M) (u := u) (v := v) h
  have e2 : (fun i => (1 : Rat) * u i + 1 * v i) = fun i => u i + v i := by
    funext i
    grind
  rw [e2] at e
  rw [e]
  grind
theorem det_sw {m : Nat} {M : Nat → Nat → Rat} {r : Nat} {u v : Nat → Rat} (h : r + 1 < m) : det m (put (put M r u) (r + 1) v) = - det m (put (put M r v) (r + 1) u) := by
  have nz : r ≠ r + 1 := by omega
  have z : ∀ w : Nat → Rat, det m (put (put M r w) (r + 1) w) = 0 := fun w => det_adj h (by rw [put_ne nz, put_same, put_same])
  have h1 := z (fun i => u i + v i)
  rw [det_add h, put_comm nz, det_add (by omega), put_comm nz.symm, put_comm nz.symm, z u] at h1
  have h2 : det m (put (put M r (fun i => u i + v i)) (r + 1) v) = det m (put (put M r u) (r + 1) v) + 0 := by
    rw [put_comm nz, det_add (by omega), put_comm nz.symm, put_comm nz.symm, z v]
  rw [h2] at h1
  grind
theorem det_eq {m : Nat} : ∀ (d : Nat) {M : Nat → Nat → Rat} {a : Nat}, a + d + 1 < m → M a = M (a + d + 1) → det m M = 0
  | 0, _, _, h, e => det_adj h e
  | d + 1, M, a, h, e => by
    have h0 : M = put (put M (a + d + 1) (M (a + d + 1))) (a + d + 1 + 1) (M (a + d + 1 + 1)) := by rw [put_self, put_self]
    rw [h0, det_sw (by omega)]
    rw [det_eq d (M := put (put M (a + d + 1) (M (a + d + 1 + 1))) (a + d + 1 + 1) (M (a + d + 1))) (a := a) (by omega) ?_]
    · grind
    · rw [put_ne (by omega), put_ne (by omega), put_ne (by omega), put_same]
      exact e
theorem det_two {m : Nat} {M : Nat → Nat → Rat} {a b : Nat} (ha : a < m) (hb : b < m) (hab : a ≠ b) (e : M a = M b) : det m M = 0 := by
  rcases Nat.lt_or_gt_of_ne hab with h | h
  · refine det_eq (b - a - 1) (M := M) (a := a) (by omega) ?_
    rw [show a + (b - a - 1) + 1 = b by omega]
    exact e
  · refine det_eq (a - b - 1) (M := M) (a := b) (by omega) ?_
    rw [show b + (a - b - 1) + 1 = a by omega]
    exact e.symm
theorem det_sum {m : Nat} {M : Nat → Nat → Rat} {r : Nat} (h : r < m) (t : Nat → Rat) (u : Nat → Nat → Rat) : ∀ p : Nat, det m (put M r (fun i => S p (fun l => t l * u l i))) = S p (fun l => t l * det m (put M r (u l)))
  | 0 => by
    have e := det_lin (α := 0) (β := 0) (M := M) (u := fun _ => 0) (v := fun _ => 0) h
    have e2 : (fun i => (0 : Rat) * (fun _ : Nat => (0 : Rat)) i + 0 * (fun _ : Nat => (0 : Rat)) i) = fun i => S 0 (fun l => t l * u l i) := by
      funext i
      show (0 : Rat) * 0 + 0 * 0 = 0
      grind
    rw [e2] at e
    rw [e]
    show _ = (0 : Rat)
    grind
  | p + 1 => by
    have e := det_lin (α := 1) (β := t p) (M := M) (u := fun i => S p (fun l => t l * u l i)) (v := u p) h
    have e2 : (fun i => (1 : Rat) * (fun i => S p (fun l => t l * u l i)) i + t p * u p i) = fun i => S (p + 1) (fun l => t l * u l i) := by
      funext i
      show (1 : Rat) * S p (fun l => t l * u l i) + t p * u p i = S p (fun l => t l * u l i) + t p * u p i
      grind
    rw [e2] at e
    rw [e, det_sum h t u p]
    show _ = S p _ + _
    grind
theorem det_id : ∀ m : Nat, det m (fun a i => if a = i then 1 else 0) = 1
  | 0 => rfl
  | m + 1 => by
    unfold det
    rw [S_one (j := 0) (Nat.succ_pos _) fun x _ hx => by
      show sg x * (if x = 0 then 1 else 0) * _ = 0
      rw [if_neg hx]
      grind]
    have e : (fun a i => if sk 0 a = i + 1 then (1 : Rat) else 0) = fun a i => if a = i then 1 else 0 := by
      funext a i
      have : sk 0 a = a + 1 := if_neg (Nat.not_lt_zero _)
      rw [this]
      by_cases z : a = i
      · rw [if_pos z, if_pos (by omega)]
      · rw [if_neg z, if_neg (by omega)]
    rw [e, det_id m]
    show (1 : Rat) * 1 * 1 = 1
    rw [Rat.mul_one, Rat.mul_one]

section
variable {n m : Nat} {T0 : Nat → Nat → Rat} {s : Tb} {j k : Nat}
def cols (T0 : Nat → Nat → Rat) (B : Nat → Nat) : Nat → Nat → Rat := fun a i => T0 i (B a)
def D (m : Nat) (T0 : Nat → Nat → Rat) (s : Tb) : Rat := det m (cols T0 s.B)
theorem cramer (g : Good n m T0 s) (hj : j < m) (hk : k < n + m + 1) : det m (put (cols T0 s.B) j (fun i => T0 i k)) = s.T j k * D m T0 s := by
  have col : ∀ i, i < m → T0 i k = S m (fun l => s.T l k * cols T0 s.B l i) := fun i hi => by
    have h := (g.ker _).mpr (dir_ker g hk) i hi
    rw [pair (T0 i) hk fun j hj => Nat.lt_succ_of_lt (g.bas j hj)] at h
    unfold cols
    grind
  have e : det m (put (cols T0 s.B) j (fun i => T0 i k)) = det m (put (cols T0 s.B) j (fun i => S m (fun l => s.T l k * cols T0 s.B l i))) := det_congr fun a i _ hi => by
    unfold put
    split
    · exact col i hi
    · rfl
  rw [e, det_sum hj]
  rw [S_one hj fun l hl hlj => by
    rw [det_two (a := l) (b := j) hl hj hlj (by rw [put_ne hlj, put_same])]
    grind]
  rw [put_self]
  rfl
theorem D_piv (g : Good n m T0 s) (hj : j < m) (hk : k < n + m) : D m T0 (piv s j k) = s.T j k * D m T0 s := by
  rw [← cramer g hj (Nat.lt_succ_of_lt hk)]
  unfold D
  congr 1
  funext a i
  show T0 i (if a = j then k else s.B a) = (if a = j then (fun i => T0 i k) else cols T0 s.B a) i
  split <;> rfl
end

/-! ### whole numbers of bounded size -/
def IB (b : Nat) (q : Rat) : Prop := ∃ z : Int, q = (z : Rat) ∧ z.natAbs ≤ b
theorem IB.mul {a b : Nat} {p q : Rat} (h : IB a p) (h' : IB b q) : IB (a * b) (p * q) := by
  obtain ⟨x, rfl, hx⟩ := h
  obtain ⟨y, rfl, hy⟩ := h'
  refine ⟨x * y, by rw [Rat.intCast_mul], ?_⟩
  rw [Int.natAbs_mul]
  exact Nat.mul_le_mul hx hy
theorem IB.add {a b : Nat} {p q : Rat} (h : IB a p) (h' : IB b q) : IB (a + b) (p + q) := by
  obtain ⟨x, rfl, hx⟩ := h
  obtain ⟨y, rfl, hy⟩ := h'
  exact ⟨x + y, by rw [Rat.intCast_add], by omega⟩
theorem IB.S {b : Nat} {f : Nat → Rat} : ∀ {n : Nat}, (∀ k, k < n → IB b (f k)) → IB (n * b) (Wt.S n f)
  | 0, _ => ⟨0, rfl, by simp⟩
  | n + 1, h => by
    have h1 := IB.S (n := n) fun k hk => h k (Nat.lt_succ_of_lt hk)
    have h2 := h1.add (h n (Nat.lt_succ_self n))
    rw [Nat.add_mul, Nat.one_mul]
    exact h2
theorem IB.mono {a b : Nat} {q : Rat} (h : IB a q) (hab : a ≤ b) : IB b q := by
  obtain ⟨x, rfl, hx⟩ := h
  exact ⟨x, rfl, Nat.le_trans hx hab⟩
def db (M : Nat) : Nat → Nat
  | 0 => 1
  | m + 1 => (m + 1) * (1 * M * db M m)
theorem det_ib {b : Nat} : ∀ {m : Nat} {M : Nat → Nat → Rat}, (∀ a i, a < m → i < m → IB b (M a i)) → IB (db b m) (det m M)
  | 0, _, _ => ⟨1, rfl, by simp [db]⟩
  | m + 1, M, h => by
    unfold det db
    refine IB.S fun r hr => ?_
    refine ((?_ : IB 1 (sg r)).mul (h r 0 hr (Nat.succ_pos _))).mul (det_ib fun a i ha hi => h _ _ (by unfold sk; split <;> omega) (by omega))
    unfold sg
    split
    · exact ⟨1, rfl, by simp⟩
    · exact ⟨-1, rfl, by simp⟩
/-- the size of a ratio's parts -/
def Sz (n : Nat) (q : Rat) : Prop := q.num.natAbs < 2 ^ n ∧ q.den < 2 ^ n
theorem Sz.mono {a b : Nat} {q : Rat} (h : Sz a q) (hab : a ≤ b) : Sz b q := by
  have := Nat.pow_le_pow_right (show 0 < 2 by decide) hab
  exact ⟨Nat.lt_of_lt_of_le h.1 this, Nat.lt_of_lt_of_le h.2 this⟩
theorem sz_of {q d : Rat} {a b n : Nat} (hd : IB a d) (h0 : d ≠ 0) (h : IB b (q * d)) (ha : a < 2 ^ n) (hb : b < 2 ^ n) : Sz n q := by
  obtain ⟨y, rfl, hy⟩ := hd
  obtain ⟨x, e, hx⟩ := h
  have hy0 : y ≠ 0 := fun z => h0 (by rw [z]; rfl)
  have hq : q = Rat.divInt x y := by
    rw [Rat.divInt_eq_div]
    have hy1 : (y : Rat) ≠ 0 := h0
    rw [← e]
    grind
  have hdz : (q.den : Int) ≠ 0 := by
    have := q.den_nz
    omega
  have e2 : q.num * y = x * q.den := (Rat.divInt_eq_divInt_iff hdz hy0).mp ((Rat.num_divInt_den q).trans hq)
  have e3 : q.num.natAbs * y.natAbs = x.natAbs * q.den := by
    have := congrArg Int.natAbs e2
    rw [Int.natAbs_mul, Int.natAbs_mul] at this
    exact this
  have hden : q.den ∣ y.natAbs := Nat.Coprime.dvd_of_dvd_mul_left q.reduced.symm (by rw [e3]; exact Nat.dvd_mul_left _ _)
  have hyp : 0 < y.natAbs := by omega
  refine ⟨?_, Nat.lt_of_le_of_lt (Nat.le_trans (Nat.le_of_dvd hyp hden) hy) ha⟩
  by_cases hx0 : x.natAbs = 0
  · rw [hx0, Nat.zero_mul] at e3
    have : q.num.natAbs = 0 := by
      rcases Nat.mul_eq_zero.mp e3 with h | h
      · exact h
      · omega
    omega
  · have hnum : q.num.natAbs ∣ x.natAbs := Nat.Coprime.dvd_of_dvd_mul_right q.reduced (by rw [← e3]; exact Nat.dvd_mul_right _ _)
    exact Nat.lt_of_le_of_lt (Nat.le_trans (Nat.le_of_dvd (by omega) hnum) hx) hb
section
variable {n m b z : Nat} {T0 : Nat → Nat → Rat} {s : Tb} {j k : Nat}
/-- the first table's entries are whole numbers of at most b -/
def Whole (n m b : Nat) (T0 : Nat → Nat → Rat) : Prop := ∀ i k, i < m → k < n + m + 1 → IB b (T0 i k)
theorem cols_ib (h : Whole n m b T0) {B : Nat → Nat} (hB : ∀ j, j < m → B j < n + m + 1) : ∀ a i, a < m → i < m → IB b (cols T0 B a i) := fun a i ha hi => h i _ hi (hB a ha)
theorem put_ib (h : Whole n m b T0) (g : Good n m T0 s) (hk : k < n + m + 1) : IB (db b m) (det m (put (cols T0 s.B) j (fun i => T0 i k))) := det_ib fun a i ha hi => by
  unfold put
  split
  · exact h i k hi hk
  · exact h i _ hi (Nat.lt_succ_of_lt (g.bas a ha))
theorem T_sz (h : Whole n m b T0) (g : Good n m T0 s) (h0 : D m T0 s ≠ 0) (hz : db b m < 2 ^ z) (hj : j < m) (hk : k < n + m + 1) : Sz z (s.T j k) := by
  refine sz_of (d := D m T0 s) (det_ib (cols_ib h fun j hj => Nat.lt_succ_of_lt (g.bas j hj))) h0 ?_ hz hz
  rw [← cramer g hj hk]
  exact put_ib h g hk
/-- a multiplier of costs of at most 1 -/
theorem mult_sz {c : Nat → Rat} (h : Whole n m b T0) (g : Good n m T0 s) (h0 : D m T0 s ≠ 0) (hc : ∀ x, IB 1 (c x)) (hz0 : db b m < 2 ^ z) (hz : m * (1 * db b m) < 2 ^ z) (hk : k < n + m + 1) : Sz z (mult m s c k) := by
  refine sz_of (d := D m T0 s) (det_ib (cols_ib h fun j hj => Nat.lt_succ_of_lt (g.bas j hj))) h0 (b := m * (1 * db b m)) ?_ hz0 hz
  unfold mult
  rw [← S_mulr]
  refine IB.S fun j hj => ?_
  rw [Rat.mul_assoc, ← cramer g hj hk]
  exact (hc _).mul (put_ib h g hk)
end
end Wt
namespace Wt
/-! ### the two climbs -/
section
variable (n m : Nat) (A : Nat → Nat → Rat) (b : Nat → Rat)
/-- the first table: the equations, the helping columns, the goals -/
def T0 : Nat → Nat → Rat := fun i k => if k < n then A i k else if k < n + m then (if k = n + i then 1 else 0) else b i
def s0 : Tb := ⟨T0 n m A b, fun j => n + j⟩
/-- costs of the first climb -/
def ch : Nat → Rat := fun k => if k < n then 0 else if k < n + m then -1 else 0
/-- costs of the second one -/
def c2 (c : Nat → Rat) : Nat → Rat := fun k => if k < n then c k else 0
end
section
variable {n m : Nat} {A : Nat → Nat → Rat} {b : Nat → Rat} {s : Tb} {c : Nat → Rat}
theorem T0_low {i k : Nat} (h : k < n) : T0 n m A b i k = A i k := if_pos h
theorem T0_help {i j : Nat} (hj : j < m) : T0 n m A b i (n + j) = if i = j then 1 else 0 := by
  unfold T0
  rw [if_neg (by omega), if_pos (by omega)]
  by_cases e : i = j
  · rw [if_pos e, if_pos (by omega)]
  · rw [if_neg e, if_neg (by omega)]
theorem T0_goal {i : Nat} : T0 n m A b i (n + m) = b i := by
  unfold T0
  rw [if_neg (by omega), if_neg (by omega)]
theorem good0 : Good n m (T0 n m A b) (s0 n m A b) :=
  ⟨fun j hj => by show n + j < n + m; omega, fun i j hi hj => T0_help hj, fun v => Iff.rfl⟩
theorem feas0 (h : ∀ i, i < m → 0 ≤ b i) : Feas n m (s0 n m A b) := fun j hj => by
  show 0 ≤ T0 n m A b j (n + m)
  rw [T0_goal]
  exact h j hj
theorem D0 : D m (T0 n m A b) (s0 n m A b) ≠ 0 := by
  have e : D m (T0 n m A b) (s0 n m A b) = 1 := by
    refine Eq.trans (det_congr (N := fun a i => if a = i then 1 else 0) fun a i ha hi => ?_) (det_id m)
    show T0 n m A b i (n + a) = _
    rw [T0_help ha]
    by_cases e : i = a
    · rw [if_pos e, if_pos e.symm]
    · rw [if_neg e, if_neg (Ne.symm e)]
  rw [e]
  exact fun z => absurd z (by decide)
theorem whole0 {z : Nat} (hz : 1 ≤ z) (hA : ∀ i k, i < m → k < n → IB z (A i k)) (hb : ∀ i, i < m → IB z (b i)) : Whole n m z (T0 n m A b) := fun i k hi _ => by
  unfold T0
  split
  · exact hA i k hi ‹_›
  · split
    · split
      · exact ⟨1, rfl, hz⟩
      · exact ⟨0, rfl, Nat.zero_le _⟩
    · exact hb i hi
theorem ch_neg (x : Nat) : ch n m x ≤ 0 := by
  unfold ch
  split
  · grind
  · split <;> grind
theorem ch_ib (x : Nat) : IB 1 (ch n m x) := by
  unfold ch
  split
  · exact ⟨0, rfl, by decide⟩
  · split
    · exact ⟨-1, rfl, by decide⟩
    · exact ⟨0, rfl, by decide⟩
theorem c2_neg (h : ∀ k, k < n → c k ≤ 0) (x : Nat) : c2 n c x ≤ 0 := by
  unfold c2
  split
  · exact h x ‹_›
  · grind
theorem c2_ib (h : ∀ k, k < n → IB 1 (c k)) (x : Nat) : IB 1 (c2 n c x) := by
  unfold c2
  split
  · exact h x ‹_›
  · exact ⟨0, rfl, by decide⟩
/-- no column goes up -/
def Top (n m : Nat) (c : Nat → Rat) (s : Tb) : Prop := ∀ k, k < n → ¬ mult m s c k < c k
/-- behind the first climb: the helping columns that are left stand at 0 -/
theorem top1 {T0 : Nat → Nat → Rat} (g : Good n m T0 s) (f : Feas n m s) (t : Top n m (ch n m) s) {x : Nat → Rat} (hx : ∀ k, k < n → 0 ≤ x k)
    (hs : ∀ i, i < m → S n (fun k => T0 i k * x k) = T0 i (n + m)) : 0 ≤ mult m s (ch n m) (n + m) ∧ ∀ j, j < m → n ≤ s.B j → s.T j (n + m) = 0 := by
  -- the point as a vector
  have key : ∀ g : Nat → Rat, S (n + m + 1) (fun k => g k * (if k < n then x k else if k < n + m then 0 else -1)) = S n (fun k => g k * x k) - g (n + m) := fun g => by
    show S (n + m) _ + g (n + m) * (if n + m < n then x (n + m) else if n + m < n + m then 0 else -1) = _
    rw [S_split, if_neg (by omega), if_neg (by omega)]
    have e1 : S n (fun k => g k * (if k < n then x k else if k < n + m then 0 else -1)) = S n (fun k => g k * x k) := S_congr fun k hk => by rw [if_pos hk]
    have e2 : S m (fun k => g (n + k) * (if n + k < n then x (n + k) else if n + k < n + m then 0 else -1)) = 0 := S_zero fun k hk => by
      rw [if_neg (by omega), if_pos (by omega)]
      grind
    rw [e1, e2]
    grind
  have hk : Ker m (n + m + 1) s.T (fun k => if k < n then x k else if k < n + m then 0 else -1) := (g.ker _).mp fun i hi => by
    rw [key (T0 i), hs i hi]
    grind
  have h1 := mult_ker (c := ch n m) hk
  rw [key] at h1
  have h2 : 0 ≤ S n (fun k => mult m s (ch n m) k * x k) := S_nonneg fun k hk => by
    refine Rat.mul_nonneg ?_ (hx k hk)
    have h3 := t k hk
    have h4 : ch n m k = 0 := if_pos hk
    rw [h4] at h3
    grind
  have h3 : 0 ≤ mult m s (ch n m) (n + m) := by grind
  refine ⟨h3, fun j hj hB => ?_⟩
  have h4 := S_all_zero (n := m) (f := fun j => - (ch n m (s.B j) * s.T j (n + m))) (fun j hj => by
    have h5 := Rat.mul_nonneg (a := - ch n m (s.B j)) (b := s.T j (n + m)) (by have := ch_neg (n := n) (m := m) (s.B j); grind) (f j hj)
    grind) (by
    have h5 : S m (fun j => - (ch n m (s.B j) * s.T j (n + m))) = (-1) * mult m s (ch n m) (n + m) := by
      unfold mult
      rw [← S_mul]
      exact S_congr fun j _ => by grind
    rw [h5]
    grind) j hj
  have h5 : ch n m (s.B j) = -1 := by
    unfold ch
    rw [if_neg (by omega), if_pos (g.bas j hj)]
  rw [h5] at h4
  grind
/-- a helping column is never alone: its row has a place to go to -/
theorem way_out (g : Good n m (T0 n m A b) s) (h1 : ∀ i, i < m → ∃ k, k < n ∧ ∀ i', i' < m → A i' k = if i' = i then 1 else 0) {j : Nat} (hj : j < m) (hB : n ≤ s.B j) : ∃ k, k < n ∧ s.T j k ≠ 0 := by
  have hb := g.bas j hj
  obtain ⟨k, hk, he⟩ := h1 (s.B j - n) (by omega)
  refine ⟨k, hk, ?_⟩
  have hv := (g.ker _).mp (dir_ker good0 (k := k) (show k < n + m + 1 by omega)) j hj
  rw [pair (s.T j) (by omega) fun j hj => show n + j < _ by omega] at hv
  rw [S_one (j := s.B j - n) (by omega) fun i hi hne => by
    show T0 n m A b i k * s.T j (n + i) = 0
    rw [T0_low hk, he i hi, if_neg hne]
    grind] at hv
  have e1 : (s0 n m A b).T (s.B j - n) k = 1 := by
    show T0 n m A b _ k = 1
    rw [T0_low hk, he _ (by omega), if_pos rfl]
  have e2 : (s0 n m A b).B (s.B j - n) = s.B j := show n + (s.B j - n) = _ by omega
  rw [e1, e2, g.unit j j hj hj, if_pos rfl] at hv
  grind
/-- a turn at a row that stands at 0 -/
theorem feas_zero {j k : Nat} (f : Feas n m s) (hp : s.T j k ≠ 0) (h0 : s.T j (n + m) = 0) : (∀ i, (piv s j k).T i (n + m) = s.T i (n + m)) ∧ Feas n m (piv s j k) := by
  have e : ∀ i, (piv s j k).T i (n + m) = s.T i (n + m) := fun i => by
    show (if i = j then _ else _) = _
    rw [h0]
    by_cases z : i = j
    · rw [if_pos z, z, h0]
      grind
    · rw [if_neg z]
      grind
  exact ⟨e, fun i hi => by rw [e]; exact f i hi⟩
/-! ### what stands at the end -/
theorem amt_nonneg (f : Feas n m s) (x : Nat) : 0 ≤ amt n m s x := S_nonneg fun j hj => by
  split
  · exact f j hj
  · grind
theorem amt_sum (hB : ∀ j, j < m → s.B j < n) (g : Nat → Rat) : S n (fun k => g k * amt n m s k) = S m (fun j => s.T j (n + m) * g (s.B j)) := by
  have e : S n (fun k => g k * amt n m s k) = S n (fun k => S m (fun j => g k * (if s.B j = k then s.T j (n + m) else 0))) := S_congr fun k _ => by
    unfold amt
    rw [S_mul]
  rw [e, S_swap]
  refine S_congr fun j hj => ?_
  rw [S_one (hB j hj) fun k _ hk => by rw [if_neg (Ne.symm hk)]; grind]
  rw [if_pos rfl]
  grind
/-- the amounts solve the equations -/
theorem end_eq (g : Good n m (T0 n m A b) s) (hB : ∀ j, j < m → s.B j < n) {i : Nat} (hi : i < m) : S n (fun k => A i k * amt n m s k) = b i := by
  have h := (g.ker _).mpr (dir_ker g (k := n + m) (by omega)) i hi
  rw [pair _ (by omega) fun j hj => Nat.lt_succ_of_lt (g.bas j hj), T0_goal] at h
  rw [amt_sum hB]
  have e : S m (fun j => s.T j (n + m) * T0 n m A b i (s.B j)) = S m (fun j => s.T j (n + m) * A i (s.B j)) := S_congr fun j hj => by rw [T0_low (hB j hj)]
  rw [e] at h
  grind
/-- the multipliers of the equations -/
def pri (n m : Nat) (c : Nat → Rat) (s : Tb) (j : Nat) : Rat := mult m s c (n + j)
theorem mult_pri (g : Good n m (T0 n m A b) s) {k : Nat} (hk : k < n + m + 1) : mult m s c k = S m (fun i => T0 n m A b i k * pri n m c s i) := by
  have h := mult_ker (c := c) ((g.ker _).mp (dir_ker good0 hk))
  rw [pair _ hk fun j hj => show n + j < _ by omega] at h
  have e : S m (fun j => (s0 n m A b).T j k * mult m s c ((s0 n m A b).B j)) = S m (fun i => T0 n m A b i k * pri n m c s i) := S_congr fun j hj => rfl
  rw [e] at h
  grind
theorem end_dual (g : Good n m (T0 n m A b) s) (t : Top n m (c2 n c) s) {k : Nat} (hk : k < n) : c k ≤ S m (fun i => A i k * pri n m (c2 n c) s i) := by
  have h := t k hk
  rw [mult_pri g (by omega)] at h
  have e : S m (fun i => T0 n m A b i k * pri n m (c2 n c) s i) = S m (fun i => A i k * pri n m (c2 n c) s i) := S_congr fun i _ => by rw [T0_low hk]
  rw [e] at h
  have h2 : c2 n c k = c k := if_pos hk
  rw [h2] at h
  grind
theorem end_same (g : Good n m (T0 n m A b) s) (hB : ∀ j, j < m → s.B j < n) : S n (fun k => c k * amt n m s k) = S m (fun i => b i * pri n m (c2 n c) s i) := by
  have h := mult_pri (c := c2 n c) g (k := n + m) (by omega)
  have e : S m (fun i => T0 n m A b i (n + m) * pri n m (c2 n c) s i) = S m (fun i => b i * pri n m (c2 n c) s i) := S_congr fun i _ => by rw [T0_goal]
  rw [e] at h
  rw [← h, amt_sum hB]
  unfold mult
  refine S_congr fun j hj => ?_
  have h2 : c2 n c (s.B j) = c (s.B j) := if_pos (hB j hj)
  rw [h2]
  exact Rat.mul_comm _ _
end
end Wt
namespace Wt
/-! ### water -/
/-- p sources (flow, dirt), w sinks (flow, dirt) -/
structure Wa where
  p : Nat
  w : Nat
  fl : Nat → Int
  di : Nat → Int
  fk : Nat → Int
  dk : Nat → Int
namespace Wa
variable (a : Wa)
def F : Nat := a.p * a.w
def n : Nat := a.F + a.w + a.w + a.p
def m : Nat := a.w + a.w + a.p
/-- the entry of row r at column k -/
def ent (r k : Nat) : Int :=
  if r < a.w then (if k = a.F + r then 1 else if k < a.F ∧ k % a.w = r then 1 else 0)
  else if r < a.w + a.w then (if k = a.F + a.w + (r - a.w) then 1 else if k < a.F ∧ k % a.w = r - a.w then a.di (k / a.w) else 0)
  else (if k = a.F + a.w + a.w + (r - (a.w + a.w)) then 1 else if k < a.F ∧ k / a.w = r - (a.w + a.w) then 1 else 0)
def goal (r : Nat) : Int := if r < a.w then a.fk r else if r < a.w + a.w then a.fk (r - a.w) * a.dk (r - a.w) else a.fl (r - (a.w + a.w))
def cost (k : Nat) : Int := if a.F ≤ k ∧ k < a.F + a.w then -1 else 0
def A : Nat → Nat → Rat := fun r k => (a.ent r k : Rat)
def b : Nat → Rat := fun r => (a.goal r : Rat)
def c : Nat → Rat := fun k => (a.cost k : Rat)
/-- what is drawn -/
structure Ok : Prop where
  p0 : 1 ≤ a.p
  p3 : a.p ≤ 3
  w0 : 1 ≤ a.w
  w3 : a.w ≤ 3
  fl0 : ∀ i, i < a.p → 1 ≤ a.fl i ∧ a.fl i ≤ 100
  di0 : ∀ i, i < a.p → 0 ≤ a.di i ∧ a.di i ≤ 299
  fk0 : ∀ j, j < a.w → 1 ≤ a.fk j ∧ a.fk j ≤ 100
  dk0 : ∀ j, j < a.w → 0 ≤ a.dk j ∧ a.dk j ≤ 299
end Wa
theorem S_grid (f : Nat → Rat) (w : Nat) : ∀ p : Nat, S (p * w) f = S p (fun i => S w (fun j => f (i * w + j)))
  | 0 => by
    rw [Nat.zero_mul]
    rfl
  | p + 1 => by
    rw [Nat.succ_mul, S_split, S_grid f w p]
    rfl
section
variable {a : Wa}
theorem Wa.lt {i j : Nat} (hi : i < a.p) (hj : j < a.w) : i * a.w + j < a.F := by
  have h : (i + 1) * a.w ≤ a.p * a.w := Nat.mul_le_mul_right _ hi
  rw [Nat.succ_mul] at h
  unfold Wa.F
  omega
theorem Wa.dv {i j : Nat} (hj : j < a.w) : (i * a.w + j) / a.w = i := by
  rw [Nat.mul_comm, Nat.mul_add_div (by omega), Nat.div_eq_of_lt hj, Nat.add_zero]
theorem Wa.md {i j : Nat} (hj : j < a.w) : (i * a.w + j) % a.w = j := by
  rw [Nat.mul_comm, Nat.mul_add_mod, Nat.mod_eq_of_lt hj]
theorem Wa.div_lt {k : Nat} (hk : k < a.F) : k / a.w < a.p := by
  unfold Wa.F at hk
  exact Nat.div_lt_of_lt_mul (by rw [Nat.mul_comm]; exact hk)
theorem Wa.mod_lt (o : a.Ok) (k : Nat) : k % a.w < a.w := Nat.mod_lt _ o.w0
/-- entries by places -/
theorem ent1 {j i k : Nat} (hj : j < a.w) (hi : i < a.p) (hk : k < a.w) : a.ent j (i * a.w + k) = if k = j then 1 else 0 := by
  have h := Wa.lt hi hk
  unfold Wa.ent
  rw [if_pos hj, if_neg (by omega), Wa.md hk]
  by_cases e : k = j
  · rw [if_pos ⟨h, e⟩, if_pos e]
  · rw [if_neg (fun z => e z.2), if_neg e]
theorem ent2 {j i k : Nat} (hj : j < a.w) (hi : i < a.p) (hk : k < a.w) : a.ent (a.w + j) (i * a.w + k) = if k = j then a.di i else 0 := by
  have h := Wa.lt hi hk
  unfold Wa.ent
  rw [if_neg (by omega), if_pos (by omega), if_neg (by omega), Wa.md hk, Wa.dv hk]
  by_cases e : k = j
  · rw [if_pos ⟨h, by omega⟩, if_pos e]
  · rw [if_neg (fun z => e (by have := z.2; omega)), if_neg e]
theorem ent3 {l i k : Nat} (hl : l < a.p) (hi : i < a.p) (hk : k < a.w) : a.ent (a.w + a.w + l) (i * a.w + k) = if i = l then 1 else 0 := by
  have h := Wa.lt hi hk
  unfold Wa.ent
  rw [if_neg (by omega), if_neg (by omega), if_neg (by omega), Wa.dv hk]
  by_cases e : i = l
  · rw [if_pos ⟨h, by omega⟩, if_pos e]
  · rw [if_neg (fun z => e (by have := z.2; omega)), if_neg e]
/-- behind the flows: each row has its own column -/
theorem ent_own {r q : Nat} (hr : r < a.m) (hq : q < a.m) : a.ent r (a.F + q) = if r = q then 1 else 0 := by
  unfold Wa.m at hr hq
  unfold Wa.ent
  have nf : ∀ P : Prop, ¬ (a.F + q < a.F ∧ P) := fun P z => by have := z.1; omega
  rw [if_neg (nf _), if_neg (nf _), if_neg (nf _)]
  by_cases e : r = q
  · subst e
    rw [if_pos rfl]
    by_cases h1 : r < a.w
    · rw [if_pos h1, if_pos rfl]
    · rw [if_neg h1]
      by_cases h2 : r < a.w + a.w
      · rw [if_pos h2, if_pos (by omega), if_pos rfl]
      · rw [if_neg h2, if_pos (by omega), if_pos rfl]
  · rw [if_neg e]
    by_cases h1 : r < a.w
    · rw [if_pos h1, if_neg (by omega)]
    · rw [if_neg h1]
      by_cases h2 : r < a.w + a.w
      · rw [if_pos h2, if_neg (by omega)]
      · rw [if_neg h2, if_neg (by omega)]
theorem n_eq : a.n = a.F + a.m := by
  unfold Wa.n Wa.m
  omega
theorem ent_ib (o : a.Ok) (r k : Nat) : IB 29900 (a.A r k) := by
  refine ⟨a.ent r k, rfl, ?_⟩
  unfold Wa.ent
  split
  · split
    · decide
    · split <;> decide
  · split
    · split
      · decide
      · split
        · rename_i h
          have := o.di0 _ (Wa.div_lt h.1)
          omega
        · decide
    · split
      · decide
      · split <;> decide
theorem mul_100 {x y : Int} (hx : 0 ≤ x) (hx2 : x ≤ 100) (hy : 0 ≤ y) (hy2 : y ≤ 299) : 0 ≤ x * y ∧ x * y ≤ 29900 := by
  have h1 := Int.mul_nonneg hx hy
  have h2 : x * y ≤ 100 * 299 := Int.mul_le_mul hx2 hy2 hy (by decide)
  omega
theorem goal_in (o : a.Ok) {r : Nat} (hr : r < a.m) : 0 ≤ a.goal r ∧ a.goal r ≤ 29900 := by
  unfold Wa.m at hr
  unfold Wa.goal
  split
  · have := o.fk0 r ‹_›
    omega
  · split
    · have h1 := o.fk0 (r - a.w) (by omega)
      have h2 := o.dk0 (r - a.w) (by omega)
      exact mul_100 (by omega) h1.2 h2.1 h2.2
    · have := o.fl0 (r - (a.w + a.w)) (by omega)
      omega
theorem goal_ib (o : a.Ok) {r : Nat} (hr : r < a.m) : IB 29900 (a.b r) := by
  have := goal_in o hr
  exact ⟨a.goal r, rfl, by omega⟩
theorem goal_nn (o : a.Ok) {r : Nat} (hr : r < a.m) : 0 ≤ a.b r := by
  have h := (goal_in o hr).1
  unfold Wa.b
  exact Rat.intCast_nonneg.mpr h
theorem cost_neg (k : Nat) : a.c k ≤ 0 := by
  unfold Wa.c Wa.cost
  split
  · decide
  · decide
theorem cost_ib (k : Nat) : IB 1 (a.c k) := by
  refine ⟨a.cost k, rfl, ?_⟩
  unfold Wa.cost
  split <;> decide
theorem own_col (r : Nat) (hr : r < a.m) : ∃ k, k < a.n ∧ ∀ i', i' < a.m → a.A i' k = if i' = r then 1 else 0 := by
  refine ⟨a.F + r, by rw [n_eq]; omega, fun i' hi' => ?_⟩
  unfold Wa.A
  rw [ent_own hi' hr]
  split <;> rfl
/-- the point to begin with: no flows -/
theorem start_eq (r : Nat) (hr : r < a.m) : S a.n (fun k => T0 a.n a.m a.A a.b r k * (if k < a.F then 0 else a.b (k - a.F))) = T0 a.n a.m a.A a.b r (a.n + a.m) := by
  rw [T0_goal]
  have e : S a.n (fun k => T0 a.n a.m a.A a.b r k * (if k < a.F then 0 else a.b (k - a.F))) = S a.n (fun k => a.A r k * (if k < a.F then 0 else a.b (k - a.F))) := S_congr fun k hk => by rw [T0_low hk]
  rw [e, n_eq, S_split]
  rw [S_zero fun k hk => by rw [if_pos hk]; grind]
  rw [S_one (j := r) hr fun k hk hne => by
    unfold Wa.A
    rw [ent_own hr hk, if_neg (Ne.symm hne)]
    have : ((0 : Int) : Rat) = 0 := rfl
    rw [this]
    grind]
  unfold Wa.A
  rw [ent_own hr hr, if_pos rfl, if_neg (by omega), show a.F + r - a.F = r by omega]
  have : ((1 : Int) : Rat) = 1 := rfl
  rw [this]
  grind
theorem start_nn (o : a.Ok) (k : Nat) (hk : k < a.n) : 0 ≤ (if k < a.F then 0 else a.b (k - a.F)) := by
  rw [n_eq] at hk
  split
  · exact Rat.le_refl
  · exact goal_nn o (by omega)
theorem big (o : a.Ok) : a.m * (1 * db 29900 a.m) < 2 ^ 160 ∧ db 29900 a.m < 2 ^ 160 := by
  have h : ∀ k : Fin 10, k.val * (1 * db 29900 k.val) < 2 ^ 160 ∧ db 29900 k.val < 2 ^ 160 := by decide +kernel
  have hm : a.m < 10 := by
    have h1 := o.p3
    have h2 := o.w3
    unfold Wa.m
    omega
  exact h ⟨a.m, hm⟩

/-! ### the law's own sums -/
variable {x y : Nat → Rat}
/-- a row over the columns -/
theorem row_sum (r : Nat) (hr : r < a.m) : S a.n (fun k => a.A r k * x k) = S a.p (fun i => S a.w (fun j => a.A r (i * a.w + j) * x (i * a.w + j))) + x (a.F + r) := by
  rw [n_eq, S_split]
  congr 1
  · exact S_grid _ _ _
  · rw [S_one (j := r) hr fun k hk hne => by
      unfold Wa.A
      rw [ent_own hr hk, if_neg (Ne.symm hne)]
      have : ((0 : Int) : Rat) = 0 := rfl
      rw [this]
      grind]
    unfold Wa.A
    rw [ent_own hr hr, if_pos rfl]
    have : ((1 : Int) : Rat) = 1 := rfl
    rw [this]
    grind
theorem ic (z : Prop) [Decidable z] (u : Int) : (((if z then u else 0) : Int) : Rat) = if z then (u : Rat) else 0 := by
  split <;> rfl
theorem row1 {j : Nat} (hj : j < a.w) : S a.n (fun k => a.A j k * x k) = S a.p (fun i => x (i * a.w + j)) + x (a.F + j) := by
  rw [row_sum j (by unfold Wa.m; omega)]
  congr 1
  refine S_congr fun i hi => ?_
  rw [S_one hj fun k hk hne => by
    unfold Wa.A
    rw [ent1 hj hi hk, if_neg hne]
    have : ((0 : Int) : Rat) = 0 := rfl
    rw [this]
    grind]
  unfold Wa.A
  rw [ent1 hj hi hj, if_pos rfl]
  have : ((1 : Int) : Rat) = 1 := rfl
  rw [this]
  grind
theorem row2 {j : Nat} (hj : j < a.w) : S a.n (fun k => a.A (a.w + j) k * x k) = S a.p (fun i => (a.di i : Rat) * x (i * a.w + j)) + x (a.F + (a.w + j)) := by
  rw [row_sum (a.w + j) (by unfold Wa.m; omega)]
  congr 1
  refine S_congr fun i hi => ?_
  rw [S_one hj fun k hk hne => by
    unfold Wa.A
    rw [ent2 hj hi hk, if_neg hne]
    have : ((0 : Int) : Rat) = 0 := rfl
    rw [this]
    grind]
  unfold Wa.A
  rw [ent2 hj hi hj, if_pos rfl]
theorem row3 {l : Nat} (hl : l < a.p) : S a.n (fun k => a.A (a.w + a.w + l) k * x k) = S a.w (fun j => x (l * a.w + j)) + x (a.F + (a.w + a.w + l)) := by
  rw [row_sum (a.w + a.w + l) (by unfold Wa.m; omega)]
  congr 1
  rw [S_one hl fun i hi hne => S_zero fun k hk => by
    unfold Wa.A
    rw [ent3 hl hi hk, if_neg hne]
    have : ((0 : Int) : Rat) = 0 := rfl
    rw [this]
    grind]
  refine S_congr fun k hk => ?_
  unfold Wa.A
  rw [ent3 hl hl hk, if_pos rfl]
  have : ((1 : Int) : Rat) = 1 := rfl
  rw [this]
  grind
/-- a column over the rows -/
theorem col_own {q : Nat} (hq : q < a.m) : S a.m (fun r => a.A r (a.F + q) * y r) = y q := by
  rw [S_one hq fun r hr hne => by
    unfold Wa.A
    rw [ent_own hr hq, if_neg hne]
    have : ((0 : Int) : Rat) = 0 := rfl
    rw [this]
    grind]
  unfold Wa.A
  rw [ent_own hq hq, if_pos rfl]
  have : ((1 : Int) : Rat) = 1 := rfl
  rw [this]
  grind
theorem col_flow {i j : Nat} (hi : i < a.p) (hj : j < a.w) : S a.m (fun r => a.A r (i * a.w + j) * y r) = y j + (a.di i : Rat) * y (a.w + j) + y (a.w + a.w + i) := by
  unfold Wa.m
  rw [S_split, S_split]
  have z : ((0 : Int) : Rat) = 0 := rfl
  have z1 : ((1 : Int) : Rat) = 1 := rfl
  congr 1
  · congr 1
    · rw [S_one hj fun r hr hne => by
        unfold Wa.A
        rw [ent1 hr hi hj, if_neg (Ne.symm hne), z]
        grind]
      unfold Wa.A
      rw [ent1 hj hi hj, if_pos rfl, z1]
      grind
    · rw [S_one hj fun r hr hne => by
        unfold Wa.A
        rw [ent2 hr hi hj, if_neg (Ne.symm hne), z]
        grind]
      unfold Wa.A
      rw [ent2 hj hi hj, if_pos rfl]
  · rw [S_one hi fun r hr hne => by
      unfold Wa.A
      rw [ent3 hr hi hj, if_neg (Ne.symm hne), z]
      grind]
    unfold Wa.A
    rw [ent3 hi hi hj, if_pos rfl, z1]
    grind
theorem goal_sum : S a.m (fun r => a.b r * y r) = S a.w (fun j => (a.fk j : Rat) * y j) + S a.w (fun j => ((a.fk j * a.dk j : Int) : Rat) * y (a.w + j)) + S a.p (fun i => (a.fl i : Rat) * y (a.w + a.w + i)) := by
  unfold Wa.m
  rw [S_split, S_split]
  congr 1
  · congr 1
    · refine S_congr fun j hj => ?_
      unfold Wa.b Wa.goal
      rw [if_pos hj]
    · refine S_congr fun j hj => ?_
      unfold Wa.b Wa.goal
      rw [if_neg (by omega), if_pos (by omega), show a.w + j - a.w = j by omega]
  · refine S_congr fun j hj => ?_
    unfold Wa.b Wa.goal
    rw [if_neg (by omega), if_neg (by omega), show a.w + a.w + j - (a.w + a.w) = j by omega]
theorem cost_sum : S a.n (fun k => a.c k * x k) = - S a.w (fun j => x (a.F + j)) := by
  have z : ((0 : Int) : Rat) = 0 := rfl
  have z1 : ((-1 : Int) : Rat) = -1 := rfl
  have e : a.n = a.F + (a.w + (a.w + a.p)) := by
    unfold Wa.n
    omega
  rw [e, S_split, S_split]
  rw [S_zero (n := a.F) fun k hk => by
    unfold Wa.c Wa.cost
    rw [if_neg (by omega), z]
    grind]
  rw [S_zero (n := a.w + a.p) fun k hk => by
    unfold Wa.c Wa.cost
    rw [if_neg (by omega), z]
    grind]
  have e2 : S a.w (fun k => a.c (a.F + k) * x (a.F + k)) = (-1) * S a.w (fun j => x (a.F + j)) := by
    rw [← S_mul]
    refine S_congr fun k hk => ?_
    unfold Wa.c Wa.cost
    rw [if_pos (by omega), z1]
  rw [e2]
  grind

/-- what the law asks of a plan and a paper, over x (the amounts) and y (the multipliers) -/
structure Fin (a : Wa) (x y : Nat → Rat) : Prop where
  nn : ∀ k, 0 ≤ x k
  sink : ∀ j, j < a.w → S a.p (fun i => x (i * a.w + j)) + x (a.F + j) = (a.fk j : Rat)
  dirt : ∀ j, j < a.w → S a.p (fun i => (a.di i : Rat) * x (i * a.w + j)) ≤ ((a.fk j * a.dk j : Int) : Rat)
  src : ∀ i, i < a.p → S a.w (fun j => x (i * a.w + j)) ≤ (a.fl i : Rat)
  one : ∀ j, j < a.w → - y j ≤ 1
  bnn : ∀ j, j < a.w → 0 ≤ y (a.w + j)
  cnn : ∀ i, i < a.p → 0 ≤ y (a.w + a.w + i)
  dual : ∀ i j, i < a.p → j < a.w → - y j ≤ (a.di i : Rat) * y (a.w + j) + y (a.w + a.w + i)
  same : S a.w (fun j => (a.fk j : Rat) * (- y j) + ((0 - a.fk j * a.dk j : Int) : Rat) * y (a.w + j)) + S a.p (fun i => ((0 - a.fl i : Int) : Rat) * y (a.w + a.w + i)) = S a.w (fun j => x (a.F + j))
theorem fin_of {s : Tb} (g : Good a.n a.m (T0 a.n a.m a.A a.b) s) (f : Feas a.n a.m s) (hB : ∀ j, j < a.m → s.B j < a.n) (t : Top a.n a.m (c2 a.n a.c) s) :
    Fin a (amt a.n a.m s) (pri a.n a.m (c2 a.n a.c) s) := by
  have en : ∀ {i}, i < a.m → S a.n (fun k => a.A i k * amt a.n a.m s k) = a.b i := fun hi => end_eq g hB hi
  have du : ∀ {q}, q < a.m → a.c (a.F + q) ≤ pri a.n a.m (c2 a.n a.c) s q := fun {q} hq => by
    have h := end_dual g t (k := a.F + q) (by rw [n_eq]; omega)
    rw [col_own hq] at h
    exact h
  have c0 : ∀ {q}, a.w ≤ q → a.c (a.F + q) = 0 := fun {q} hq => by
    unfold Wa.c Wa.cost
    rw [if_neg (by omega)]
    rfl
  have cf : ∀ {k}, k < a.F → a.c k = 0 := fun {k} hk => by
    unfold Wa.c Wa.cost
    rw [if_neg (by omega)]
    rfl
  refine ⟨amt_nonneg f, fun j hj => ?_, fun j hj => ?_, fun i hi => ?_, fun j hj => ?_, fun j hj => ?_, fun i hi => ?_, fun i j hi hj => ?_, ?_⟩
  · have h := en (i := j) (by unfold Wa.m; omega)
    rw [row1 hj] at h
    rw [h]
    unfold Wa.b Wa.goal
    rw [if_pos hj]
  · have h := en (i := a.w + j) (by unfold Wa.m; omega)
    rw [row2 hj] at h
    have hb : a.b (a.w + j) = ((a.fk j * a.dk j : Int) : Rat) := by
      unfold Wa.b Wa.goal
      rw [if_neg (by omega), if_pos (by omega), show a.w + j - a.w = j by omega]
    rw [hb] at h
    have := amt_nonneg (s := s) f (a.F + (a.w + j))
    grind
  · have h := en (i := a.w + a.w + i) (by unfold Wa.m; omega)
    rw [row3 hi] at h
    have hb : a.b (a.w + a.w + i) = (a.fl i : Rat) := by
      unfold Wa.b Wa.goal
      rw [if_neg (by omega), if_neg (by omega), show a.w + a.w + i - (a.w + a.w) = i by omega]
    rw [hb] at h
    have := amt_nonneg (s := s) f (a.F + (a.w + a.w + i))
    grind
  · have h := du (q := j) (by unfold Wa.m; omega)
    have hc : a.c (a.F + j) = -1 := by
      unfold Wa.c Wa.cost
      rw [if_pos (by omega)]
      rfl
    rw [hc] at h
    grind
  · have h := du (q := a.w + j) (by unfold Wa.m; omega)
    rw [c0 (by omega)] at h
    exact h
  · have h := du (q := a.w + a.w + i) (by unfold Wa.m; omega)
    rw [c0 (by omega)] at h
    exact h
  · have hlt := Wa.lt hi hj
    have h := end_dual g t (k := i * a.w + j) (by rw [n_eq]; omega)
    rw [col_flow hi hj, cf hlt] at h
    grind
  · have h := end_same (c := a.c) g hB
    rw [cost_sum, goal_sum] at h
    have e1 : S a.w (fun j => (a.fk j : Rat) * (- pri a.n a.m (c2 a.n a.c) s j) + ((0 - a.fk j * a.dk j : Int) : Rat) * pri a.n a.m (c2 a.n a.c) s (a.w + j)) =
        (-1) * (S a.w (fun j => (a.fk j : Rat) * pri a.n a.m (c2 a.n a.c) s j) + S a.w (fun j => ((a.fk j * a.dk j : Int) : Rat) * pri a.n a.m (c2 a.n a.c) s (a.w + j))) := by
      rw [← S_add, ← S_mul]
      refine S_congr fun j _ => ?_
      have : ((0 - a.fk j * a.dk j : Int) : Rat) = - ((a.fk j * a.dk j : Int) : Rat) := by
        rw [Int.zero_sub, Rat.intCast_neg]
      rw [this]
      grind
    have e2 : S a.p (fun i => ((0 - a.fl i : Int) : Rat) * pri a.n a.m (c2 a.n a.c) s (a.w + a.w + i)) = (-1) * S a.p (fun i => (a.fl i : Rat) * pri a.n a.m (c2 a.n a.c) s (a.w + a.w + i)) := by
      rw [← S_mul]
      refine S_congr fun j _ => ?_
      have : ((0 - a.fl j : Int) : Rat) = - ((a.fl j : Int) : Rat) := by
        rw [Int.zero_sub, Rat.intCast_neg]
      rw [this]
      grind
    rw [e1, e2]
    grind
end
end Wt

/-! ## WBase -/
set_option Elab.async false
set_option linter.all false
set_option maxRecDepth 100000
set_option maxHeartbeats 4000000
namespace Wk
open PySem L2 Wt
/-! ### the text by places -/
def top (i : Nat) : Stmt := PySem.Challenge.pw_pinchworks_k31_whole_least_fresh_water.main.body.getD i (.Pass ⟨0, 0, 0, 0⟩)

/-! ### heaps -/
/-- all but the things at M is as it was -/
def Kp (M : List Addr) (H H' : Hp) : Prop := ∀ b o, H b = some o → b ∉ M → H' b = some o
theorem Kp.refl {M : List Addr} {H : Hp} : Kp M H H := fun _ _ e _ => e
theorem Kp.trans {M : List Addr} {H H1 H2 : Hp} (a : Kp M H H1) (b : Kp M H1 H2) : Kp M H H2 := fun c o e n => b c o (a c o e n) n
theorem Kp.mono {M N : List Addr} {H H' : Hp} (a : Kp M H H') (h : ∀ x ∈ M, x ∈ N) : Kp N H H' := fun c o e n => a c o e fun z => n (h c z)
theorem Kp.nil {M : List Addr} {H H' : Hp} (a : Kp [] H H') : Kp M H H' := a.mono fun _ z => absurd z (by simp)
theorem Kp.new {M : List Addr} {H : Hp} {p : Addr} {o : HO} (h : H p = none) : Kp M H (upd H p o) := fun b u e _ => by rw [upd_ne (ne_of_none e h)]; exact e
theorem Kp.wr {M : List Addr} {H : Hp} {p : Addr} {o : HO} (h : p ∈ M) : Kp M H (upd H p o) := fun b u e n => by rw [upd_ne fun z => n (by rw [z]; exact h)]; exact e
/-- a new thing is written again: for what stood before nothing changes -/
theorem Kp.wr0 {M : List Addr} {H H' : Hp} {p : Addr} {o : HO} (k : Kp M H H') (h : H p = none) : Kp M H (upd H' p o) := fun b u e n => by rw [upd_ne (ne_of_none e h)]; exact k b u e n
theorem Kp.none {M : List Addr} {H H' : Hp} (k : Kp M H H') {p : Addr} (h : H' p = Option.none) (n : p ∉ M) : H p = Option.none := by
  cases q : H p with
  | none => rfl
  | some o =>
    rw [k p o q n] at h
    cases h
theorem Kp.same {H H' : Hp} (k : Kp [] H H') : Same H H' := fun b o e => k b o e (by simp)
/-- what may change: lists, tables, instances -/
def isMu : HO → Prop
  | .lst _ => True
  | .tbl _ => True
  | .ins _ _ _ => True
  | _ => False
def Mu (M : List Addr) (H : Hp) : Prop := ∀ a ∈ M, ∃ o, H a = some o ∧ isMu o
theorem Mu.nil {H : Hp} : Mu [] H := fun _ h => absurd h (by simp)
theorem Mu.one {H : Hp} {a : Addr} {o : HO} (h : H a = some o) (i : isMu o) : Mu [a] H := fun b hb => by
  rw [List.mem_singleton.mp hb]
  exact ⟨o, h, i⟩
theorem Mu.two {H : Hp} {a b : Addr} {o u : HO} (h : H a = some o) (i : isMu o) (h' : H b = some u) (i' : isMu u) : Mu [a, b] H := fun c hc => by
  rcases List.mem_cons.mp hc with e | e
  · rw [e]; exact ⟨o, h, i⟩
  · rw [List.mem_singleton.mp e]; exact ⟨u, h', i'⟩
section
variable {M : List Addr} {H H' : Hp} {a : Addr} {xs : List V}
theorem tup_kp (h : H a = some (.tup xs)) (k : Kp M H H') (m : Mu M H) : H' a = some (.tup xs) := k _ _ h fun z => by
  obtain ⟨o, e, i⟩ := m a z
  rw [h] at e
  cases e
  exact i
/-! ### ratios -/
def qt (q : Rat) : List V := [.int q.num, .int ((q.den : Nat) : Int)]
def RatAt (H : Hp) (v : V) (q : Rat) : Prop := ∃ a, v = .ref a ∧ H a = some (.tup (qt q))
theorem RatAt.kp {v : V} {q : Rat} (h : RatAt H v q) (k : Kp M H H') (m : Mu M H) : RatAt H' v q := let ⟨a, e, s⟩ := h; ⟨a, e, tup_kp s k m⟩
theorem RatAt.kp0 {v : V} {q : Rat} (h : RatAt H v q) (k : Kp [] H H') : RatAt H' v q := h.kp k .nil
theorem RatAt.new {q : Rat} (h : H' a = some (.tup (qt q))) : RatAt H' (.ref a) q := ⟨a, rfl, h⟩
/-- at a stands a list (a tuple) of the n ratios f -/
def RL (H : Hp) (a : Addr) (n : Nat) (f : Nat → Rat) : Prop := ∃ vs, H a = some (.lst vs) ∧ vs.length = n ∧ ∀ (i : Nat) x, vs[i]? = some x → RatAt H x (f i)
def RT (H : Hp) (a : Addr) (n : Nat) (f : Nat → Rat) : Prop := ∃ vs, H a = some (.tup vs) ∧ vs.length = n ∧ ∀ (i : Nat) x, vs[i]? = some x → RatAt H x (f i)
theorem RL.kp {n : Nat} {f : Nat → Rat} (h : RL H a n f) (k : Kp M H H') (m : Mu M H) (na : a ∉ M) : RL H' a n f := let ⟨vs, s, l, r⟩ := h; ⟨vs, k _ _ s na, l, fun i x e => (r i x e).kp k m⟩
theorem RL.kp0 {n : Nat} {f : Nat → Rat} (h : RL H a n f) (k : Kp [] H H') : RL H' a n f := h.kp k .nil (by simp)
theorem RL.congr {n : Nat} {f g : Nat → Rat} (h : RL H a n f) (e : ∀ i, i < n → f i = g i) : RL H a n g := let ⟨vs, s, l, r⟩ := h; ⟨vs, s, l, fun i x q => by
  rw [← e i (by have := (List.getElem?_eq_some_iff.mp q).1; omega)]
  exact r i x q⟩
theorem RT.kp {n : Nat} {f : Nat → Rat} (h : RT H a n f) (k : Kp M H H') (m : Mu M H) : RT H' a n f := let ⟨vs, s, l, r⟩ := h; ⟨vs, tup_kp s k m, l, fun i x e => (r i x e).kp k m⟩
theorem RT.kp0 {n : Nat} {f : Nat → Rat} (h : RT H a n f) (k : Kp [] H H') : RT H' a n f := h.kp k .nil
theorem RL.at {n i : Nat} {f : Nat → Rat} (h : RL H a n f) (hi : i < n) : ∃ vs x, H a = some (.lst vs) ∧ atI vs (i : Int) = some x ∧ RatAt H x (f i) := by
  obtain ⟨vs, s, l, r⟩ := h
  have e : vs[i]? = some vs[i] := List.getElem?_eq_getElem (by omega)
  exact ⟨vs, _, s, atI_nat e, r i _ e⟩
theorem RT.at {n i : Nat} {f : Nat → Rat} (h : RT H a n f) (hi : i < n) : ∃ vs x, H a = some (.tup vs) ∧ atI vs (i : Int) = some x ∧ RatAt H x (f i) := by
  obtain ⟨vs, s, l, r⟩ := h
  have e : vs[i]? = some vs[i] := List.getElem?_eq_getElem (by omega)
  exact ⟨vs, _, s, atI_nat e, r i _ e⟩
/-- one ratio more at the end of a new list -/
theorem RL.snoc {n : Nat} {f : Nat → Rat} {vs : List V} {v : V} (h : H a = some (.lst vs)) (l : vs.length = n) (r : ∀ (i : Nat) x, vs[i]? = some x → RatAt H x (f i)) (rv : RatAt H v (f n)) : RL (upd H a (.lst (vs ++ [v]))) a (n + 1) f := by
  have k : Kp [a] H (upd H a (.lst (vs ++ [v]))) := .wr (by simp)
  have m : Mu [a] H := .one h trivial
  refine ⟨_, upd_same, by rw [List.length_append, l]; rfl, fun i x e => ?_⟩
  rcases Nat.lt_or_ge i n with hi | hi
  · rw [List.getElem?_append_left (by omega)] at e
    exact (r i x e).kp k m
  · rw [List.getElem?_append_right (by omega)] at e
    have hz : i - vs.length = 0 := by
      have := (List.getElem?_eq_some_iff.mp e).1
      rw [List.length_singleton] at this
      omega
    have hi2 : i = n := by omega
    rw [hz] at e
    cases e
    rw [hi2]
    exact rv.kp k m
end
/-! ### sizes of sums and products -/
theorem natAbs_add {a b : Int} {x y : Nat} (ha : a.natAbs < 2 ^ x) (hb : b.natAbs < 2 ^ x) : (a + b).natAbs < 2 ^ (x + 1) := by
  have := Int.natAbs_add_le a b
  rw [Nat.pow_succ]
  omega
theorem natAbs_sub {a b : Int} {x : Nat} (ha : a.natAbs < 2 ^ x) (hb : b.natAbs < 2 ^ x) : (a - b).natAbs < 2 ^ (x + 1) := by
  have := Int.natAbs_sub_le a b
  rw [Nat.pow_succ]
  omega
theorem natAbs_mul {a b : Int} {x y : Nat} (ha : a.natAbs < 2 ^ x) (hb : b.natAbs < 2 ^ y) : (a * b).natAbs < 2 ^ (x + y) := wide_lt ha hb
/-- the parts of a quotient of whole numbers -/
theorem sz_divInt {t b : Int} {n : Nat} (hb : b ≠ 0) (h1 : t.natAbs < 2 ^ n) (h2 : b.natAbs < 2 ^ n) : Sz n (Rat.divInt t b) := by
  refine sz_of (d := (b : Rat)) (a := b.natAbs) (b := t.natAbs) ⟨b, rfl, Nat.le_refl _⟩ (fun z => hb (Rat.intCast_inj.mp z)) ⟨t, ?_, Nat.le_refl _⟩ h2 h1
  rw [Rat.divInt_eq_div]
  have : (b : Rat) ≠ 0 := fun z => hb (Rat.intCast_inj.mp z)
  grind
theorem q_eq (q : Rat) : Rat.divInt q.num q.den = q := Rat.num_divInt_den q
theorem den_ne (q : Rat) : ((q.den : Nat) : Int) ≠ 0 := by
  have := q.den_nz
  omega
theorem den_pos' (q : Rat) : (0 : Int) < ((q.den : Nat) : Int) := by
  have := q.den_nz
  omega
theorem rat_add (p q : Rat) : Rat.divInt (p.num * q.den + q.num * p.den) (p.den * q.den) = p + q := by
  have h1 := q_eq p
  have h2 := q_eq q
  have e1 := den_ne p
  have e2 := den_ne q
  rw [Rat.divInt_eq_div] at h1 h2 ⊢
  have c1 : (((p.den : Nat) : Int) : Rat) ≠ 0 := fun z => e1 (Rat.intCast_inj.mp z)
  have c2 : (((q.den : Nat) : Int) : Rat) ≠ 0 := fun z => e2 (Rat.intCast_inj.mp z)
  rw [Rat.intCast_add, Rat.intCast_mul, Rat.intCast_mul, Rat.intCast_mul]
  grind
theorem rat_sub (p q : Rat) : Rat.divInt (p.num * q.den - q.num * p.den) (p.den * q.den) = p - q := by
  have h1 := q_eq p
  have h2 := q_eq q
  have e1 := den_ne p
  have e2 := den_ne q
  rw [Rat.divInt_eq_div] at h1 h2 ⊢
  have c1 : (((p.den : Nat) : Int) : Rat) ≠ 0 := fun z => e1 (Rat.intCast_inj.mp z)
  have c2 : (((q.den : Nat) : Int) : Rat) ≠ 0 := fun z => e2 (Rat.intCast_inj.mp z)
  rw [Rat.intCast_sub, Rat.intCast_mul, Rat.intCast_mul, Rat.intCast_mul]
  grind
theorem rat_mul (p q : Rat) : Rat.divInt (p.num * q.num) (p.den * q.den) = p * q := by
  have h1 := q_eq p
  have h2 := q_eq q
  have e1 := den_ne p
  have e2 := den_ne q
  rw [Rat.divInt_eq_div] at h1 h2 ⊢
  have c1 : (((p.den : Nat) : Int) : Rat) ≠ 0 := fun z => e1 (Rat.intCast_inj.mp z)
  have c2 : (((q.den : Nat) : Int) : Rat) ≠ 0 := fun z => e2 (Rat.intCast_inj.mp z)
  rw [Rat.intCast_mul, Rat.intCast_mul]
  grind
theorem num_ne {q : Rat} (h : q ≠ 0) : q.num ≠ 0 := fun z => h (Rat.num_eq_zero.mp z)
theorem rat_div {p q : Rat} (h : q ≠ 0) : Rat.divInt (p.num * q.den) (p.den * q.num) = p / q := by
  have h1 := q_eq p
  have h2 := q_eq q
  have e1 := den_ne p
  have e2 := den_ne q
  have e3 := num_ne h
  rw [Rat.divInt_eq_div] at h1 h2 ⊢
  have c1 : (((p.den : Nat) : Int) : Rat) ≠ 0 := fun z => e1 (Rat.intCast_inj.mp z)
  have c2 : (((q.den : Nat) : Int) : Rat) ≠ 0 := fun z => e2 (Rat.intCast_inj.mp z)
  have c3 : ((q.num : Int) : Rat) ≠ 0 := fun z => e3 (Rat.intCast_inj.mp z)
  rw [Rat.intCast_mul, Rat.intCast_mul]
  grind
theorem sz_den {n : Nat} {q : Rat} (h : Sz n q) : ((q.den : Nat) : Int).natAbs < 2 ^ n := by
  rw [Int.natAbs_natCast]
  exact h.2
theorem mul_ne {a b : Int} (ha : a ≠ 0) (hb : b ≠ 0) : a * b ≠ 0 := Int.mul_ne_zero ha hb
theorem sz_add {a b : Nat} {p q : Rat} (hp : Sz a p) (hq : Sz b q) : Sz (a + b + 1) (p + q) := by
  rw [← rat_add]
  refine sz_divInt (mul_ne (den_ne _) (den_ne _)) (natAbs_add (x := a + b) (y := 0) (natAbs_mul hp.1 (sz_den hq)) (by rw [Nat.add_comm]; exact natAbs_mul hq.1 (sz_den hp))) ?_
  exact Nat.lt_trans (natAbs_mul (sz_den hp) (sz_den hq)) (Nat.pow_lt_pow_right (by decide) (Nat.lt_succ_self _))
theorem sz_sub {a b : Nat} {p q : Rat} (hp : Sz a p) (hq : Sz b q) : Sz (a + b + 1) (p - q) := by
  rw [← rat_sub]
  refine sz_divInt (mul_ne (den_ne _) (den_ne _)) (natAbs_sub (x := a + b) (natAbs_mul hp.1 (sz_den hq)) (by rw [Nat.add_comm]; exact natAbs_mul hq.1 (sz_den hp))) ?_
  exact Nat.lt_trans (natAbs_mul (sz_den hp) (sz_den hq)) (Nat.pow_lt_pow_right (by decide) (Nat.lt_succ_self _))
theorem sz_mul {a b : Nat} {p q : Rat} (hp : Sz a p) (hq : Sz b q) : Sz (a + b) (p * q) := by
  rw [← rat_mul]
  exact sz_divInt (mul_ne (den_ne _) (den_ne _)) (natAbs_mul hp.1 hq.1) (natAbs_mul (sz_den hp) (sz_den hq))
theorem sz_div {a b : Nat} {p q : Rat} (hp : Sz a p) (hq : Sz b q) (h : q ≠ 0) : Sz (a + b) (p / q) := by
  rw [← rat_div h]
  exact sz_divInt (mul_ne (den_ne _) (num_ne h)) (natAbs_mul hp.1 (sz_den hq)) (natAbs_mul (sz_den hp) hq.1)
/-- the sum of n ratios -/
theorem sz_S {z : Nat} {f : Nat → Rat} (h : ∀ i, Sz z (f i)) : ∀ n, Sz (n * (z + 1) + 1) (S n f)
  | 0 => ⟨by show (0 : Int).natAbs < _; exact Nat.pow_pos (by decide), by show 1 < _; exact Nat.one_lt_two_pow (by omega)⟩
  | n + 1 => by
    have := sz_add (sz_S h n) (h n)
    exact this.mono (by rw [Nat.add_mul]; omega)
/-! ### operators -/
section
variable {X : Cx}
/-- // by a divisor of either sign, below 2 ^ 9000 -/
def CDivX (_ j : Int) : Prop := j ≠ 0 ∧ j.natAbs.log2 < 9000
theorem op_fdivX : OpR X (binaryOp .FloorDiv) (rI CDivX fun i j => .int (i.fdiv j)) := opI fun _ _ _ _ _ _ _ hc q => PyProof.Rows.floordiv_int hc.1 q (.inl (PyProof.noPylong_of_log2 hc.2))
theorem cdivX {i j : Int} {b : Nat} (h : j ≠ 0) (hb : j.natAbs < 2 ^ b) (h0 : 0 < b) (h9 : b ≤ 9000) : CDivX i j := ⟨h, Nat.lt_of_lt_of_le (PySem.Flt.log2_lt_of h0 hb) h9⟩
end
/-! ### defs by name -/
structure Has (P : Program) (w : World) (K : PySem.W.Frag) (mg : Str → Option Value) (base : Heap) (k : Nat) (x : Str) (ps : List Str) (sp : Sp) : Prop where
  ex : ∃ (f : Addr) (fd : FuncData), FnOk P w K mg base CX0 k f fd ps sp ∧ mg x = some (.ref f) ∧ PySem.W.keepIn K (.ref f) = true ∧ Binds K fd ps []
theorem Has.mono {P : Program} {w : World} {K : PySem.W.Frag} {mg : Str → Option Value} {base : Heap} {j k : Nat} {x : Str} {ps : List Str} {sp : Sp} (h : Has P w K mg base j x ps sp) (l : j ≤ k) : Has P w K mg base k x ps sp :=
  let ⟨f, fd, F, r⟩ := h.ex
  ⟨f, fd, F.mono l, r⟩
structure HasM (P : Program) (w : World) (K : PySem.W.Frag) (mg : Str → Option Value) (base : Heap) (C : Addr) (k : Nat) (m : Str) (ps : List Str) (sp : Sp) : Prop where
  ex : ∃ (f : Addr) (fd : FuncData), FnOk P w K mg base CX0 k f fd ps sp ∧ Meth K C m f ∧ Binds K fd ps []
section
variable {X : Cx} {k : Nat} {x m : Str} {ps : List Str} {sp : Sp} {e o : Expr} {es : List Expr} {t : TA} {ta : TE} {p apos pos : Pos} {C : Addr}
variable {P : Program} {w : World} {K : PySem.W.Frag} {mg : Str → Option Value} {base : Heap} {A : Around}
theorem pe_callH (h : Has P w K mg base k x ps sp) (hr : Room k A) (hg : Gl X x) (ha : PA X (e :: es) t) (hX : X.prog = P ∧ X.w = w ∧ X.K = K ∧ X.mg = mg ∧ X.base = base ∧ X.A = A := by exact ⟨rfl, rfl, rfl, rfl, rfl, rfl⟩) (hdb : (x == ("__debug__" : Str)) = false := by decide)
    (he : starEach (e :: es) X.env = (false, eval e X.env) :: starEach es X.env := by rfl) (hpl : (backTo pos (starEach es X.env)).any (·.1) = false := by rfl) : PE X (.Call (.Name x p) (e :: es) [] pos) (tCall sp [] E0 t) := by
  obtain ⟨rfl, rfl, rfl, rfl, rfl, rfl⟩ := hX
  obtain ⟨f, fd, F, hm, hk, hb⟩ := h.ex
  exact pe_call F hr hg hm hk hb .nil pass0 ha hdb he hpl
theorem pe_methH {pl : Sem Bool} (ho : PE X o ta) (c : Cls K C) (h : HasM P w K mg base C k m ps sp) (hr : Room k A) (ha : PA X (e :: es) t) (hX : X.prog = P ∧ X.w = w ∧ X.K = K ∧ X.mg = mg ∧ X.base = base ∧ X.A = A := by exact ⟨rfl, rfl, rfl, rfl, rfl, rfl⟩)
    (hst : starEach (e :: es) X.env = (false, eval e X.env) :: starEach es X.env := by rfl) (hpl : (backTo pos (starEach es X.env)).any (·.1) = false := by rfl)
    (ht : eval (.Call (.Attribute o m apos) (e :: es) [] pos) X.env = (do
      let ov ← eval o X.env
      standAt apos.atName
      let (f, first) ← holding [ov] (getMethod ov m pl)
      callWith pos f first (backTo pos (starEach (e :: es) X.env)) (backToKw pos (keywordEach [] X.env))) := by rfl) :
    PE X (.Call (.Attribute o m apos) (e :: es) [] pos) (tMeth C m sp [] E0 ta t) := by
  obtain ⟨rfl, rfl, rfl, rfl, rfl, rfl⟩ := hX
  obtain ⟨f, fd, F, hm, hb⟩ := h.ex
  exact pe_meth ho c hm F hr hb .nil pass0 ha hst hpl ht
theorem pe_methH0 {pl : Sem Bool} (ho : PE X o ta) (c : Cls K C) (h : HasM P w K mg base C k m ps sp) (hr : Room k A) (hX : X.prog = P ∧ X.w = w ∧ X.K = K ∧ X.mg = mg ∧ X.base = base ∧ X.A = A := by exact ⟨rfl, rfl, rfl, rfl, rfl, rfl⟩)
    (ht : eval (.Call (.Attribute o m apos) [] [] pos) X.env = (do
      let ov ← eval o X.env
      standAt apos.atName
      let (f, first) ← holding [ov] (getMethod ov m pl)
      callWith pos f first (backTo pos (starEach [] X.env)) (backToKw pos (keywordEach [] X.env))) := by rfl) :
    PE X (.Call (.Attribute o m apos) [] [] pos) (tMeth C m sp [] E0 ta tNil) := by
  obtain ⟨rfl, rfl, rfl, rfl, rfl, rfl⟩ := hX
  obtain ⟨f, fd, F, hm, hb⟩ := h.ex
  exact pe_meth0 ho c hm F hr hb .nil pass0 ht
end
end Wk

/-! ## WRules -/
set_option Elab.async false
set_option linter.all false
set_option maxRecDepth 100000
set_option maxHeartbeats 4000000
namespace Wk
open PySem L2 Wt
/-! ### rules over tracked things alone -/
def rIxLs : R2 := fun x y H Q => ∃ p xs i v, x = .ref p ∧ y = .int i ∧ H p = some (.lst xs) ∧ atI xs i = some v ∧ Q v H
def rIxTs : R2 := fun x y H Q => ∃ p xs i v, x = .ref p ∧ y = .int i ∧ H p = some (.tup xs) ∧ atI xs i = some v ∧ Q v H
def rSlLs : V → Option Int → Option Int → Hp → VK → Prop := fun x lo hi H Q => ∃ a xs, x = .ref a ∧ H a = some (.lst xs) ∧ ∀ p, H p = none → Q (.ref p) (upd H p (.lst (cutV xs lo hi)))
def rEqQ : R2 := fun x y H Q => ∃ p q, RatAt H x p ∧ RatAt H y q ∧ Q (.bl (decide (p = q))) H
def rNeQ : R2 := fun x y H Q => ∃ p q, RatAt H x p ∧ RatAt H y q ∧ Q (.bl (!decide (p = q))) H
def tFldS (C : Addr) (ta : TE) (f : Str) : TE := fun σ H Q => ta σ H fun x H1 => ∃ a dx fs v, x = .ref a ∧ H1 a = some (.ins C dx fs) ∧ fs.lookup f = some v ∧ Q v H1
def sFldS (C : Addr) (ta tv : TE) (f : Str) : TS := fun D σ H => tv σ H fun y H1 => ta σ H1 fun x H2 => ∃ a dx fs, x = .ref a ∧ H2 a = some (.ins C dx fs) ∧ fs.length < 1000 ∧ D.nx σ (upd H2 a (.ins C dx (putF f y fs)))
def gTupS (n : Nat) (t : TGs) : TG := fun v σ H Q => ∃ a xs, v = .ref a ∧ H a = some (.tup xs) ∧ xs.length = n ∧ t xs σ H Q
def iListS (K : PySem.W.Frag) (tl : TE) : TI := fun σ H R => tl σ H fun x H1 => ∃ a, x = .ref a ∧ (∃ xs, H1 a = some (.lst xs)) ∧ R (Itl K a) H1
def iTupS (K : PySem.W.Frag) (tl : TE) : TI := fun σ H R => tl σ H fun x H1 => ∃ a, x = .ref a ∧ (∃ xs, H1 a = some (.tup xs)) ∧ R (Itt K a) H1
def iEnumS (K : PySem.W.Frag) (ta : TA) : TI := fun σ H R => ta σ H fun vs H1 => ∃ a xs, vs = [.ref a] ∧ H1 a = some (.lst xs) ∧ R (Ite K a) H1
def iZipS (K : PySem.W.Frag) (ta : TA) : TI := fun σ H R => ta σ H fun vs H1 => ∃ a b xs ys, vs = [.ref a, .ref b] ∧ H1 a = some (.lst xs) ∧ H1 b = some (.lst ys) ∧ R (Itz K a b) H1
section
variable {X : Cx} {e l : Expr} {te tl ta : TE} {tA : TA} {tg : Expr} {pos p tpos : Pos} {K : PySem.W.Frag} {C : Addr} {f : Str}
theorem ix_listS : IxR X rIxLs := by
  intro vl sl pins s σ H x y v u Q I rx ry h
  obtain ⟨p, xs, i, v', e1, e2, h, r⟩ := h
  exact ix_list vl sl pins s σ H x y v u Q I rx ry ⟨p, xs, i, v', e1, e2, SqL.of h, r⟩
theorem ix_tupS : IxR X rIxTs := by
  intro vl sl pins s σ H x y v u Q I rx ry h
  obtain ⟨p, xs, i, v', e1, e2, h, r⟩ := h
  exact ix_tup vl sl pins s σ H x y v u Q I rx ry ⟨p, xs, i, v', e1, e2, SqT.of h, r⟩
theorem sl_listS : SlR X rSlLs := by
  intro pins s σ H x v vl vu lo hi sl Q I rx hs pl pu h
  obtain ⟨a, xs, e1, h, q⟩ := h
  exact sl_list pins s σ H x v vl vu lo hi sl Q I rx hs pl pu ⟨a, xs, e1, SqL.of h, q⟩
theorem call_lenL : CallR X (.builtin "len") (fun xs H Q => ∃ p ys, xs = [.ref p] ∧ H p = some (.lst ys) ∧ Q (.int ys.length) H) := by
  intro pins s σ H xs us Q I r h
  obtain ⟨p, ys, e1, h, q⟩ := h
  exact call_len_seq pins s σ H xs us Q I r ⟨p, ys, e1, .inl (SqL.of h), q⟩
theorem call_lenT : CallR X (.builtin "len") (fun xs H Q => ∃ p ys, xs = [.ref p] ∧ H p = some (.tup ys) ∧ Q (.int ys.length) H) := by
  intro pins s σ H xs us Q I r h
  obtain ⟨p, ys, e1, h, q⟩ := h
  exact call_len_seq pins s σ H xs us Q I r ⟨p, ys, e1, .inr (SqT.of h), q⟩
theorem call_listL : CallR X (.type "list") (fun xs H Q => ∃ p ys, xs = [.ref p] ∧ H p = some (.lst ys) ∧ ∀ l, H l = none → Q (.ref l) (upd H l (.lst ys))) := by
  intro pins s σ H xs us Q I r h
  obtain ⟨p, ys, e1, h, q⟩ := h
  exact call_list_of pins s σ H xs us Q I r ⟨p, ys, e1, .inl (SqL.of h), q⟩
theorem call_listT : CallR X (.type "list") (fun xs H Q => ∃ p ys, xs = [.ref p] ∧ H p = some (.tup ys) ∧ ∀ l, H l = none → Q (.ref l) (upd H l (.lst ys))) := by
  intro pins s σ H xs us Q I r h
  obtain ⟨p, ys, e1, h, q⟩ := h
  exact call_list_of pins s σ H xs us Q I r ⟨p, ys, e1, .inr (SqT.of h), q⟩
theorem call_tupleL : CallR X (.type "tuple") (fun xs H Q => ∃ p ys, xs = [.ref p] ∧ H p = some (.lst ys) ∧ ∀ l, H l = none → Q (.ref l) (upd H l (.tup ys))) := by
  intro pins s σ H xs us Q I r h
  obtain ⟨p, ys, e1, h, q⟩ := h
  exact call_tuple_of pins s σ H xs us Q I r ⟨p, ys, e1, .inl ⟨SqL.of h, q⟩⟩
theorem qt_inj {p q : Rat} : ([PyData.int p.num, PyData.int ((p.den : Nat) : Int)] : List PyData) = [PyData.int q.num, PyData.int ((q.den : Nat) : Int)] ↔ p = q := by
  refine ⟨fun h => ?_, fun h => by rw [h]⟩
  injection h with h1 h2
  injection h2 with h2 _
  injection h1 with h1
  injection h2 with h2
  exact Rat.ext h1 (by omega)
theorem dp_rat {H : Hp} {v : V} {q : Rat} (h : RatAt H v q) : Dp K H v (.tuple [.int q.num, .int ((q.den : Nat) : Int)]) := by
  obtain ⟨a, rfl, e⟩ := h
  exact .tup (SqT.of e) (.cons (.int _) (.cons (.int _) .nil))
theorem eqv_rat (p q : Rat) : PyData.eqv (.tuple [.int p.num, .int ((p.den : Nat) : Int)]) (.tuple [.int q.num, .int ((q.den : Nat) : Int)]) = decide (p = q) := by
  show ((p.num == q.num) && ((((p.den : Nat) : Int) == ((q.den : Nat) : Int)) && true)) = decide (p = q)
  by_cases h : p = q
  · rw [h, decide_eq_true rfl]
    simp
  · rw [decide_eq_false h]
    by_cases h1 : p.num = q.num
    · have h2 : ¬ ((p.den : Nat) : Int) = ((q.den : Nat) : Int) := fun z => h (Rat.ext h1 (by omega))
      have h3 : (((p.den : Nat) : Int) == ((q.den : Nat) : Int)) = false := beq_eq_false_iff_ne.mpr h2
      rw [h3]
      simp
    · have h3 : (p.num == q.num) = false := beq_eq_false_iff_ne.mpr h1
      rw [h3]
      rfl
theorem op_eqQ {A : Around} (hu : A.units + 64 < cLine) (hA : X.A = A := by rfl) : OpR X (compareOp .Eq) rEqQ := by
  subst hA
  intro pins s σ H x y v u Q I rx ry h
  obtain ⟨p, q, hp, hq, h⟩ := h
  exact op_eqD hu pins s σ H x y v u Q I rx ry ⟨_, _, dp_rat hp, dp_rat hq, rfl, rfl, by rw [eqv_rat]; exact h⟩
theorem op_neQ {A : Around} (hu : A.units + 64 < cLine) (hA : X.A = A := by rfl) : OpR X (compareOp .NotEq) rNeQ := by
  subst hA
  intro pins s σ H x y v u Q I rx ry h
  obtain ⟨p, q, hp, hq, h⟩ := h
  exact op_neD hu pins s σ H x y v u Q I rx ry ⟨_, _, dp_rat hp, dp_rat hq, rfl, rfl, by rw [eqv_rat]; exact h⟩
theorem pe_fldS (c : Cls K C) (n : NoAttr K C f) (he : PE X e te) (hK : X.K = K := by rfl) (hb : attributeBase e f X.env (eval e X.env) = eval e X.env := by rfl) : PE X (.Attribute e f pos) (tFldS C te f) := by
  subst hK
  refine ⟨fun pins s σ H Q I h => ?_⟩
  refine attr_of hb (thn (he.run pins s σ H _ I h) fun u s1 ⟨x, H1, I1, rx, a, dx, fs, v, ex, ea, l, q⟩ => ?_)
  subst ex
  obtain rfl : u = Value.ref a := rx
  exact getattr_ok I1 ea c n l fun u' s2 I2 ru => ⟨v, H1, I2, ru, q⟩
theorem ps_fldS {o value : Expr} {tv : TE} {pos' : Pos} (c : Cls K C) (n : NoAttr K C f) (ha : PE X o ta) (hv : PE X value tv) (hK : X.K = K := by rfl) (hs : swapsWith value (some (.Attribute o f pos')) pos.line X.env = pure false := by rfl) : PS X (.Assign [.Attribute o f pos'] value pos) (sFldS C ta tv f) := by
  subst hK
  refine ⟨fun pins s σ H D I h => ?_⟩
  refine plainObj_wpAny_Assign_Attribute (thn (hv.run pins s σ H _ I h) fun u s1 ⟨y, H1, I1, ry, q⟩ => thn (ha.run pins s1 σ H1 _ I1 q) fun ov s2 ⟨x, H2, I2, rx, a, dx, fs, ex, ea, l, q2⟩ => ?_) hs
  subst ex
  obtain rfl : ov = Value.ref a := rx
  exact setattr_ok I2 ea c n l ry fun s3 I3 => ⟨σ, _, I3, q2⟩
/-- a reading that says more of the thing walked -/
theorem pi_imp {wi wi' : TI} (h : PI X tg e wi) (hw : ∀ σ H R, wi' σ H R → wi σ H R) : PI X tg e wi' := ⟨fun pins s σ H R I q => h.run pins s σ H R I (hw σ H R q)⟩
theorem pi_listS (hl : PE X l tl) (hK : X.K = K := by rfl) : PI X tg l (iListS K tl) := by
  subst hK
  refine ⟨fun pins s σ H R I h => ?_⟩
  refine thn (hl.run pins s σ H _ I h) fun v s1 ⟨x, H1, I1, r1, q1⟩ => ?_
  obtain ⟨a, e, ⟨xs, hq⟩, q⟩ := q1
  subst e
  cases r1
  obtain ⟨its, rv, p, hz⟩ := I1.list (SqL.of hq)
  refine wpAny_pyIter_list p.isList ?_
  refine ⟨s1.heap.objs.size, [s1.heap.objs.size], _, _, H1, rfl, I1.kept (t' := s1.toks) fun b o e => Heap.get?_push_of_some _ e, turn_list a _, ⟨_, Heap.get?_push_size _ rfl, rfl, rfl⟩, fun b hb => ?_, q⟩
  have e : b = s1.heap.objs.size := by simpa using hb
  subst e
  exact I1.fpOk (Nat.le_refl _) (I1.hok.fresh (Nat.le_refl _))
theorem pi_tupS (hl : PE X l tl) (hK : X.K = K := by rfl) : PI X tg l (iTupS K tl) := by
  subst hK
  refine ⟨fun pins s σ H R I h => ?_⟩
  refine thn (hl.run pins s σ H _ I h) fun v s1 ⟨x, H1, I1, r1, q1⟩ => ?_
  obtain ⟨a, e, ⟨xs, hq⟩, q⟩ := q1
  subst e
  cases r1
  obtain ⟨its, rv, p, hz⟩ := I1.tuple (SqT.of hq)
  refine wpAny_pyIter_tuple (show s1.heap.IsTuple a its.toArray from p) ?_
  refine ⟨s1.heap.objs.size, [s1.heap.objs.size], _, _, H1, rfl, I1.kept (t' := s1.toks) fun b o e => Heap.get?_push_of_some _ e, turn_tuple a _, ⟨_, Heap.get?_push_size _ rfl, rfl, rfl⟩, fun b hb => ?_, q⟩
  have e : b = s1.heap.objs.size := by simpa using hb
  subst e
  exact I1.fpOk (Nat.le_refl _) (I1.hok.fresh (Nat.le_refl _))
/-- arguments that say more -/
theorem pa_imp {es : List Expr} {t t' : TA} (h : PA X es t) (hw : ∀ σ H R, t' σ H R → t σ H R) : PA X es t' := ⟨fun pos pins s σ H R I q => h.run pos pins s σ H R I (hw σ H R q)⟩
open PySem.Spec PyProof.Rows in
theorem pi_enumS {elts : List Expr} {kk : Nat} (hg : Gl X "enumerate") (hm : X.mg "enumerate" = none) (ha : PA X [e] tA) (hK : X.K = K := by rfl) (hs : starEach [e] X.env = [(false, eval e X.env)] := by rfl) :
    PI X (.Tuple elts kk tpos) (.Call (.Name "enumerate" p) [e] [] pos) (iEnumS K tA) := by
  subst hK
  refine ⟨fun pins s σ H R I h => ?_⟩
  refine Call_ (ld_blt I hg hm PyProof.Rows.boot_enumerate (PyProof.Rows.callWith_type1 (thn (ha.run pos pins s σ H _ I h) fun us s1 ⟨vs, H1, I1, r1, q1⟩ => ?_) hs rfl))
  obtain ⟨a, xs, ex, hq, q⟩ := q1
  subst ex
  cases r1 with
  | cons r rr =>
    cases rr
    cases r
    obtain ⟨its, rv, p', hz⟩ := I1.list (SqL.of hq)
    refine call_enumerate_list p'.isList fun h' he hit hsz hk => wpAny_pyIter_enum he ?_
    have I2 : Inv X pins σ H1 { s1 with heap := h' } := I1.kept (t' := s1.toks) hk
    refine ⟨s1.heap.objs.size + 1, [s1.heap.objs.size + 1, s1.heap.objs.size], _, _, H1, rfl, I2, turn_enum a (s1.heap.objs.size + 1) s1.heap.objs.size, ⟨⟨.none, he⟩, hit, Nat.succ_ne_self _⟩, fun b hb => ?_, q⟩
    have e' : b = s1.heap.objs.size + 1 ∨ b = s1.heap.objs.size := by simpa using hb
    have hle : s1.heap.objs.size ≤ b := by
      rcases e' with z | z
      · rw [z]; exact Nat.le_add_right _ _
      · rw [z]; exact Nat.le_refl _
    exact I1.fpOk hle (I1.hok.fresh hle)
open PySem.Spec PyProof.Rows in
theorem pi_zipS {e2 : Expr} {elts : List Expr} {kk : Nat} (hg : Gl X "zip") (hm : X.mg "zip" = none) (ha : PA X [e, e2] tA) (hK : X.K = K := by rfl)
    (hs : starEach [e, e2] X.env = (false, eval e X.env) :: starEach [e2] X.env := by rfl) (hpl : (backTo pos (starEach [e2] X.env)).any (·.1) = false := by rfl) :
    PI X (.Tuple elts kk tpos) (.Call (.Name "zip" p) [e, e2] [] pos) (iZipS K tA) := by
  subst hK
  refine ⟨fun pins s σ H R I h => ?_⟩
  refine Call_ (ld_blt I hg hm PyProof.Rows.boot_zip (PyProof.Rows.callWith_type1 (thn (ha.run pos pins s σ H _ I h) fun us s1 ⟨vs, H1, I1, r1, q1⟩ => ?_) hs hpl))
  obtain ⟨a, b, xs, ys, ex, hqx, hqy, q⟩ := q1
  subst ex
  cases r1 with
  | cons r rr =>
    cases rr with
    | cons r' rr =>
      cases rr
      cases r
      cases r'
      obtain ⟨its, rv, p1, _⟩ := I1.list (SqL.of hqx)
      obtain ⟨its2, rv2, p2, _⟩ := I1.list (SqL.of hqy)
      have la : a < s1.heap.objs.size := p1.lt
      have lb : b < s1.heap.objs.size := p2.lt
      refine call_zip_2 p1.isList p2.isList fun h' hz hTI hTO h1 h2 hsz hk => wpAny_pyIter_zip hz ?_
      have I2 : Inv X pins σ H1 { s1 with heap := h' } := I1.kept (t' := s1.toks) hk
      refine ⟨s1.heap.objs.size + 4, [s1.heap.objs.size + 4, s1.heap.objs.size + 2, s1.heap.objs.size + 3, s1.heap.objs.size, s1.heap.objs.size + 1], _, _, H1, rfl, I2, turn_zip (PySem.W.ktu_apart s1.heap.objs.size a b la lb), ⟨hz, hTI, ⟨_, _, hTO⟩, h1, h2⟩, fun c hcm => ?_, q⟩
      have e' : c = s1.heap.objs.size + 4 ∨ c = s1.heap.objs.size + 2 ∨ c = s1.heap.objs.size + 3 ∨ c = s1.heap.objs.size ∨ c = s1.heap.objs.size + 1 := by simpa using hcm
      have hle : s1.heap.objs.size ≤ c := by
        rcases e' with z | z | z | z | z
        · rw [z]; exact Nat.le_add_right _ _
        · rw [z]; exact Nat.le_add_right _ _
        · rw [z]; exact Nat.le_add_right _ _
        · rw [z]; exact Nat.le_refl _
        · rw [z]; exact Nat.le_add_right _ _
      exact I1.fpOk hle (I1.hok.fresh hle)
theorem pg_tupS {es : List Expr} {k : Nat} {t : TGs} {n : Nat} (h : PGs X es t) (hc : X.calm = true := by rfl)
    (hn : (assignEach es X.env).length = n := by rfl) (hst : (assignEach es X.env).findIdx? (·.1) = none := by rfl) : PG X (.Tuple es k pos) (gTupS n t) := by
  refine ⟨fun pins s σ H v u Q I r hw => ?_⟩
  obtain ⟨a, xs, e1, hq, hl, hw⟩ := hw
  exact (pg_tup hc h hn hst).run pins s σ H v u Q I r ⟨a, xs, e1, SqT.of hq, hl, hw⟩
/-- the truth of a list -/
def tTruL (te : TE) : TT := fun σ H Q => te σ H fun x H' => ∃ p xs, x = .ref p ∧ H' p = some (.lst xs) ∧ Q (!xs.isEmpty) H'
open PySem.Spec PyProof.Rows in
theorem pt_truL (ha : PE X e te) (he : ∀ whole, isTrue e X.env whole = (do let v ← whole; standAt e.pos; holding [v] (truthy v)) := by intro _; rfl) : PT X e (tTruL te) := by
  refine ⟨fun pins s σ H Q I h => ?_⟩
  exact isTrue_plain (thn (ha.run pins s σ H _ I h) fun v s1 ⟨x, H1, I1, r1, p, xs, ex, hp, q⟩ => tru_ok pins s1 σ H1 x v Q I1 r1 ⟨!xs.isEmpty, by subst ex; exact .inl ⟨xs, SqL.of hp, rfl⟩, q⟩) (he _)
end
end Wk

/-! ## WRatio -/
set_option Elab.async false
set_option linter.all false
set_option maxRecDepth 100000
set_option maxHeartbeats 4000000
namespace Wk
open PySem L2 Wt
abbrev dIsIn : Stmt := top 5
abbrev dRatio : Stmt := top 7
abbrev dPlus : Stmt := top 8
abbrev dMinus : Stmt := top 9
abbrev dBy : Stmt := top 10
abbrev dOver : Stmt := top 11
abbrev dLess : Stmt := top 12
abbrev dTotal : Stmt := top 13
/-- the module's names, as the top leaves them -/
structure Tx (K : PySem.W.Frag) (mg : Str → Option Value) : Prop where
  gcd : mg "gcd" = some (.builtin "math.gcd")
  range : mg "range" = none
  len : mg "len" = none
  enumerate : mg "enumerate" = none
  zip : mg "zip" = none
  tuple : mg "tuple" = none
  list : mg "list" = none
  dict : mg "dict" = none
  isinstance : mg "isinstance" = none
  abs : mg "abs" = none
  int : mg "int" = none
  bool : mg "bool" = none
  str : mg "str" = none
  all : mg "all" = none
theorem divInt_num (t b : Int) : (Rat.divInt t b).num = b.sign * t / ((Nat.gcd t.natAbs b.natAbs : Nat) : Int) := by
  rw [Rat.num_divInt, Int.gcd, Nat.gcd_comm]
theorem divInt_den {t b : Int} (hb : b ≠ 0) : (((Rat.divInt t b).den : Nat) : Int) = (b.natAbs : Int) / ((Nat.gcd t.natAbs b.natAbs : Nat) : Int) := by
  rw [Rat.den_divInt, if_neg hb, Int.gcd, Nat.gcd_comm, Int.natCast_ediv]
theorem ratio_pos {t b : Int} (hb : 0 < b) : ([.int (t.fdiv ((Nat.gcd t.natAbs b.natAbs : Nat) : Int)), .int (b.fdiv ((Nat.gcd t.natAbs b.natAbs : Nat) : Int))] : List V) = qt (Rat.divInt t b) := by
  have g0 : (0 : Int) ≤ ((Nat.gcd t.natAbs b.natAbs : Nat) : Int) := Int.natCast_nonneg _
  unfold qt
  rw [divInt_num, divInt_den (by omega), Int.fdiv_eq_ediv_of_nonneg _ g0, Int.fdiv_eq_ediv_of_nonneg _ g0, Int.sign_eq_one_of_pos hb, Int.one_mul]
  have e : (b.natAbs : Int) = b := by omega
  rw [e]
theorem ratio_neg {t b : Int} (hb : b < 0) : ([.int (t.fdiv (0 - ((Nat.gcd t.natAbs b.natAbs : Nat) : Int))), .int (b.fdiv (0 - ((Nat.gcd t.natAbs b.natAbs : Nat) : Int)))] : List V) = qt (Rat.divInt t b) := by
  have g0 : (0 : Int) ≤ ((Nat.gcd t.natAbs b.natAbs : Nat) : Int) := Int.natCast_nonneg _
  have e : ∀ x : Int, x.fdiv (0 - ((Nat.gcd t.natAbs b.natAbs : Nat) : Int)) = (-x) / ((Nat.gcd t.natAbs b.natAbs : Nat) : Int) := fun x => by
    have h := Int.neg_fdiv_neg (-x) ((Nat.gcd t.natAbs b.natAbs : Nat) : Int)
    rw [Int.neg_neg] at h
    rw [Int.zero_sub, h, Int.fdiv_eq_ediv_of_nonneg _ g0]
  unfold qt
  rw [divInt_num, divInt_den (by omega), e, e, Int.sign_eq_neg_one_of_neg hb, Int.neg_one_mul]
  have e2 : (b.natAbs : Int) = -b := by omega
  rw [e2]
/-! ### promises -/
/-- ratio(t, b) -/
def spRatio : Sp := fun vs H Q _ => ∃ t b : Int, vs = [.int t, .int b] ∧ b ≠ 0 ∧ b.natAbs < 2 ^ 9000 ∧ ∀ H' v, Kp [] H H' → RatAt H' v (Rat.divInt t b) → Q v H'
/-- an operation of two ratios of a and b bits -/
def spTwo (ok : Rat → Rat → Prop) (f : Rat → Rat → Rat) : Sp := fun vs H Q _ => ∃ (x y : V) (p q : Rat) (a b : Nat), vs = [x, y] ∧ RatAt H x p ∧ RatAt H y q ∧ Sz a p ∧ Sz b q ∧ 0 < a ∧ 0 < b ∧ a + b ≤ 8999 ∧ ok p q ∧ ∀ H' v, Kp [] H H' → RatAt H' v (f p q) → Q v H'
def spLess : Sp := fun vs H Q _ => ∃ (x y : V) (p q : Rat) (a b : Nat), vs = [x, y] ∧ RatAt H x p ∧ RatAt H y q ∧ Sz a p ∧ Sz b q ∧ 0 < a ∧ 0 < b ∧ a + b ≤ 8999 ∧ ∀ H', Kp [] H H' → Q (.bl (decide (p < q))) H'
/-- the sum of a list of n ratios of z bits -/
def spTotal : Sp := fun vs H Q _ => ∃ (a : Addr) (n z : Nat) (f : Nat → Rat), vs = [.ref a] ∧ RL H a n f ∧ (∀ i, i < n → Sz z (f i)) ∧ 0 < z ∧ n * (z + 1) + 1 + z ≤ 8999 ∧ ∀ H' v, Kp [] H H' → RatAt H' v (S n f) → Q v H'
section
variable {P : Program} {w : World} {K : PySem.W.Frag} {mg : Str → Option Value} {base : Heap} {f : Addr} {fd : FuncData}
theorem scRatio : FnScope ["top", "bottom", "common"] ["top", "bottom"] (defScope dRatio) := ⟨rfl, rfl, rfl, by decide +kernel, rfl, by decide +kernel, by decide +kernel⟩
theorem ok_ratio (F : Fun K "ratio" "ratio" dRatio f fd) (T : Tx K mg) : FnOk P w K mg base CX0 1 f fd ["top", "bottom"] spRatio := by
  refine F.ok scRatio (fun vs H Q E h => ?_) (fun cdv A outer s H vs Q E hr h => ?_)
  · obtain ⟨t, b, rfl, _⟩ := h
    rfl
  · obtain ⟨t, b, rfl, hb, hz, k⟩ := h
    refine ⟨_, pss_cons (ps_set (i := 2) scRatio.nd rfl (Or.inl rfl) (pe_ifExp (pt_cmpR op_gt (pv 1) pe_int (nomark _)) (pe_callBfun cr_gcd (by rfl) T.gcd (pa_cons (pv 0) (pa_cons (pv 1) pa_nil)))
        (pe_op op_sub pe_int (pe_callBfun cr_gcd (by rfl) T.gcd (pa_cons (pv 0) (pa_cons (pv 1) pa_nil))))))
      (pss_one (ps_ret (pe_tup (pa_cons (pe_op op_fdivX (pv 0) (pv 2)) (pa_cons (pe_op op_fdivX (pv 1) (pv 2)) pa_nil))))), ?_⟩
    have g0 : Nat.gcd t.natAbs b.natAbs ≤ b.natAbs := Nat.gcd_le_right _ (by omega)
    have g1 : 0 < Nat.gcd t.natAbs b.natAbs := Nat.gcd_pos_of_pos_right _ (by omega)
    refine ⟨_, rfl, _, _, rfl, rfl, _, rfl, ?_⟩
    by_cases h0 : 0 < b
    · rw [decide_eq_true h0]
      refine iteT ?_
      have c : ∀ i, CDivX i ((Nat.gcd t.natAbs b.natAbs : Nat) : Int) := fun i => cdivX (b := 9000) (by omega) (by omega) (by decide) (by decide)
      refine ⟨_, rfl, _, rfl, _, _, rfl, ?_⟩
      refine ⟨_, rfl, _, rfl, _, _, rfl, rfl, c _, _, rfl, _, rfl, _, _, rfl, rfl, c _, by show 2 ≤ sizeLine; decide, fun p hp => ?_⟩
      rw [ratio_pos h0]
      exact k _ _ (.new hp) (.new upd_same)
    · rw [decide_eq_false h0]
      refine iteF ?_
      have c : ∀ i, CDivX i (0 - ((Nat.gcd t.natAbs b.natAbs : Nat) : Int)) := fun i => cdivX (b := 9000) (by omega) (by omega) (by decide) (by decide)
      refine ⟨_, rfl, _, rfl, _, _, rfl, _, _, rfl, rfl, ?_⟩
      refine ⟨_, rfl, _, rfl, _, _, rfl, rfl, c _, _, rfl, _, rfl, _, _, rfl, rfl, c _, by show 2 ≤ sizeLine; decide, fun p hp => ?_⟩
      rw [ratio_neg (by omega)]
      exact k _ _ (.new hp) (.new upd_same)
end
end Wk

/-! ## WRat2 -/
set_option Elab.async false
set_option linter.all false
set_option maxRecDepth 100000
set_option maxHeartbeats 4000000
set_option exponentiation.threshold 20000
namespace Wk
open PySem L2 Wt
theorem prod_lt {x y : Int} {a b : Nat} (hx : x.natAbs < 2 ^ a) (hy : y.natAbs < 2 ^ b) (h : a + b ≤ 8999) : (x * y).natAbs < 2 ^ 9000 :=
  Nat.lt_of_lt_of_le (natAbs_mul hx hy) (Nat.pow_le_pow_right (by decide) (by omega))
section
variable {P : Program} {w : World} {K : PySem.W.Frag} {mg : Str → Option Value} {base : Heap} {f : Addr} {fd : FuncData}
abbrev N2 : List Str := ["one", "other"]
theorem scPlus : FnScope N2 N2 (defScope dPlus) := ⟨rfl, rfl, rfl, by decide +kernel, rfl, by decide +kernel, by decide +kernel⟩
theorem ok_plus (F : Fun K "plus" "plus" dPlus f fd) (hR : Has P w K mg base 1 "ratio" ["top", "bottom"] spRatio) : FnOk P w K mg base CX0 2 f fd N2 (spTwo (fun _ _ => True) (· + ·)) := by
  refine F.ok scPlus (fun vs H Q E h => ?_) (fun cdv A outer s H vs Q E hr h => ?_)
  · obtain ⟨x, y, p, q, a, b, rfl, _⟩ := h
    rfl
  · obtain ⟨x, y, p, q, a, b, rfl, ⟨ax, rfl, sx⟩, ⟨ay, rfl, sy⟩, zx, zy, a0, b0, hab, _, k⟩ := h
    refine ⟨_, pss_one (ps_ret (pe_callH hR hr (by rfl) (pa_cons (pe_op op_add (pe_op op_mulW (pe_ix ix_tup (pv 0) pe_int (fun _ _ => rfl)) (pe_ix ix_tup (pv 1) pe_int (fun _ _ => rfl)))
      (pe_op op_mulW (pe_ix ix_tup (pv 1) pe_int (fun _ _ => rfl)) (pe_ix ix_tup (pv 0) pe_int (fun _ _ => rfl))))
      (pa_cons (pe_op op_mulW (pe_ix ix_tup (pv 0) pe_int (fun _ _ => rfl)) (pe_ix ix_tup (pv 1) pe_int (fun _ _ => rfl))) pa_nil)))), ?_⟩
    refine ⟨_, rfl, _, _, _, _, rfl, rfl, SqT.of sx, rfl, _, rfl, _, _, _, _, rfl, rfl, SqT.of sy, rfl, _, _, rfl, rfl, wide_mul zx.1 (sz_den zy) a0 b0 (by omega), ?_⟩
    refine ⟨_, rfl, _, _, _, _, rfl, rfl, SqT.of sy, rfl, _, rfl, _, _, _, _, rfl, rfl, SqT.of sx, rfl, _, _, rfl, rfl, wide_mul zy.1 (sz_den zx) b0 a0 (by omega), _, _, rfl, rfl, ?_⟩
    refine ⟨_, rfl, _, _, _, _, rfl, rfl, SqT.of sx, rfl, _, rfl, _, _, _, _, rfl, rfl, SqT.of sy, rfl, _, _, rfl, rfl, wide_mul (sz_den zx) (sz_den zy) a0 b0 (by omega), ?_⟩
    refine ⟨_, _, rfl, mul_ne (den_ne _) (den_ne _), prod_lt (sz_den zx) (sz_den zy) hab, fun H' v k1 r => k H' v k1 ?_⟩
    rw [rat_add] at r
    exact r
theorem scMinus : FnScope N2 N2 (defScope dMinus) := ⟨rfl, rfl, rfl, by decide +kernel, rfl, by decide +kernel, by decide +kernel⟩
theorem ok_minus (F : Fun K "minus" "minus" dMinus f fd) (hR : Has P w K mg base 1 "ratio" ["top", "bottom"] spRatio) : FnOk P w K mg base CX0 2 f fd N2 (spTwo (fun _ _ => True) (· - ·)) := by
  refine F.ok scMinus (fun vs H Q E h => ?_) (fun cdv A outer s H vs Q E hr h => ?_)
  · obtain ⟨x, y, p, q, a, b, rfl, _⟩ := h
    rfl
  · obtain ⟨x, y, p, q, a, b, rfl, ⟨ax, rfl, sx⟩, ⟨ay, rfl, sy⟩, zx, zy, a0, b0, hab, _, k⟩ := h
    refine ⟨_, pss_one (ps_ret (pe_callH hR hr (by rfl) (pa_cons (pe_op op_sub (pe_op op_mulW (pe_ix ix_tup (pv 0) pe_int (fun _ _ => rfl)) (pe_ix ix_tup (pv 1) pe_int (fun _ _ => rfl)))
      (pe_op op_mulW (pe_ix ix_tup (pv 1) pe_int (fun _ _ => rfl)) (pe_ix ix_tup (pv 0) pe_int (fun _ _ => rfl))))
      (pa_cons (pe_op op_mulW (pe_ix ix_tup (pv 0) pe_int (fun _ _ => rfl)) (pe_ix ix_tup (pv 1) pe_int (fun _ _ => rfl))) pa_nil)))), ?_⟩
    refine ⟨_, rfl, _, _, _, _, rfl, rfl, SqT.of sx, rfl, _, rfl, _, _, _, _, rfl, rfl, SqT.of sy, rfl, _, _, rfl, rfl, wide_mul zx.1 (sz_den zy) a0 b0 (by omega), ?_⟩
    refine ⟨_, rfl, _, _, _, _, rfl, rfl, SqT.of sy, rfl, _, rfl, _, _, _, _, rfl, rfl, SqT.of sx, rfl, _, _, rfl, rfl, wide_mul zy.1 (sz_den zx) b0 a0 (by omega), _, _, rfl, rfl, ?_⟩
    refine ⟨_, rfl, _, _, _, _, rfl, rfl, SqT.of sx, rfl, _, rfl, _, _, _, _, rfl, rfl, SqT.of sy, rfl, _, _, rfl, rfl, wide_mul (sz_den zx) (sz_den zy) a0 b0 (by omega), ?_⟩
    refine ⟨_, _, rfl, mul_ne (den_ne _) (den_ne _), prod_lt (sz_den zx) (sz_den zy) hab, fun H' v k1 r => k H' v k1 ?_⟩
    rw [rat_sub] at r
    exact r
theorem scBy : FnScope N2 N2 (defScope dBy) := ⟨rfl, rfl, rfl, by decide +kernel, rfl, by decide +kernel, by decide +kernel⟩
theorem ok_by (F : Fun K "by" "by" dBy f fd) (hR : Has P w K mg base 1 "ratio" ["top", "bottom"] spRatio) : FnOk P w K mg base CX0 2 f fd N2 (spTwo (fun _ _ => True) (· * ·)) := by
  refine F.ok scBy (fun vs H Q E h => ?_) (fun cdv A outer s H vs Q E hr h => ?_)
  · obtain ⟨x, y, p, q, a, b, rfl, _⟩ := h
    rfl
  · obtain ⟨x, y, p, q, a, b, rfl, ⟨ax, rfl, sx⟩, ⟨ay, rfl, sy⟩, zx, zy, a0, b0, hab, _, k⟩ := h
    refine ⟨_, pss_one (ps_ret (pe_callH hR hr (by rfl) (pa_cons (pe_op op_mulW (pe_ix ix_tup (pv 0) pe_int (fun _ _ => rfl)) (pe_ix ix_tup (pv 1) pe_int (fun _ _ => rfl)))
      (pa_cons (pe_op op_mulW (pe_ix ix_tup (pv 0) pe_int (fun _ _ => rfl)) (pe_ix ix_tup (pv 1) pe_int (fun _ _ => rfl))) pa_nil)))), ?_⟩
    refine ⟨_, rfl, _, _, _, _, rfl, rfl, SqT.of sx, rfl, _, rfl, _, _, _, _, rfl, rfl, SqT.of sy, rfl, _, _, rfl, rfl, wide_mul zx.1 zy.1 a0 b0 (by omega), ?_⟩
    refine ⟨_, rfl, _, _, _, _, rfl, rfl, SqT.of sx, rfl, _, rfl, _, _, _, _, rfl, rfl, SqT.of sy, rfl, _, _, rfl, rfl, wide_mul (sz_den zx) (sz_den zy) a0 b0 (by omega), ?_⟩
    refine ⟨_, _, rfl, mul_ne (den_ne _) (den_ne _), prod_lt (sz_den zx) (sz_den zy) hab, fun H' v k1 r => k H' v k1 ?_⟩
    rw [rat_mul] at r
    exact r
theorem scOver : FnScope N2 N2 (defScope dOver) := ⟨rfl, rfl, rfl, by decide +kernel, rfl, by decide +kernel, by decide +kernel⟩
theorem ok_over (F : Fun K "over" "over" dOver f fd) (hR : Has P w K mg base 1 "ratio" ["top", "bottom"] spRatio) : FnOk P w K mg base CX0 2 f fd N2 (spTwo (fun _ q => q ≠ 0) (· / ·)) := by
  refine F.ok scOver (fun vs H Q E h => ?_) (fun cdv A outer s H vs Q E hr h => ?_)
  · obtain ⟨x, y, p, q, a, b, rfl, _⟩ := h
    rfl
  · obtain ⟨x, y, p, q, a, b, rfl, ⟨ax, rfl, sx⟩, ⟨ay, rfl, sy⟩, zx, zy, a0, b0, hab, hq, k⟩ := h
    refine ⟨_, pss_one (ps_ret (pe_callH hR hr (by rfl) (pa_cons (pe_op op_mulW (pe_ix ix_tup (pv 0) pe_int (fun _ _ => rfl)) (pe_ix ix_tup (pv 1) pe_int (fun _ _ => rfl)))
      (pa_cons (pe_op op_mulW (pe_ix ix_tup (pv 0) pe_int (fun _ _ => rfl)) (pe_ix ix_tup (pv 1) pe_int (fun _ _ => rfl))) pa_nil)))), ?_⟩
    refine ⟨_, rfl, _, _, _, _, rfl, rfl, SqT.of sx, rfl, _, rfl, _, _, _, _, rfl, rfl, SqT.of sy, rfl, _, _, rfl, rfl, wide_mul zx.1 (sz_den zy) a0 b0 (by omega), ?_⟩
    refine ⟨_, rfl, _, _, _, _, rfl, rfl, SqT.of sx, rfl, _, rfl, _, _, _, _, rfl, rfl, SqT.of sy, rfl, _, _, rfl, rfl, wide_mul (sz_den zx) zy.1 a0 b0 (by omega), ?_⟩
    refine ⟨_, _, rfl, mul_ne (den_ne _) (num_ne hq), prod_lt (sz_den zx) zy.1 hab, fun H' v k1 r => k H' v k1 ?_⟩
    rw [rat_div hq] at r
    exact r
theorem scLess : FnScope N2 N2 (defScope dLess) := ⟨rfl, rfl, rfl, by decide +kernel, rfl, by decide +kernel, by decide +kernel⟩
theorem ok_less (F : Fun K "less" "less" dLess f fd) : FnOk P w K mg base CX0 1 f fd N2 spLess := by
  refine F.ok scLess (fun vs H Q E h => ?_) (fun cdv A outer s H vs Q E hr h => ?_)
  · obtain ⟨x, y, p, q, a, b, rfl, _⟩ := h
    rfl
  · obtain ⟨x, y, p, q, a, b, rfl, ⟨ax, rfl, sx⟩, ⟨ay, rfl, sy⟩, zx, zy, a0, b0, hab, k⟩ := h
    refine ⟨_, pss_one (ps_ret (pe_cmpR op_lt (pe_op op_mulW (pe_ix ix_tup (pv 0) pe_int (fun _ _ => rfl)) (pe_ix ix_tup (pv 1) pe_int (fun _ _ => rfl)))
      (pe_op op_mulW (pe_ix ix_tup (pv 1) pe_int (fun _ _ => rfl)) (pe_ix ix_tup (pv 0) pe_int (fun _ _ => rfl))) (nomark _))), ?_⟩
    refine ⟨_, rfl, _, _, _, _, rfl, rfl, SqT.of sx, rfl, _, rfl, _, _, _, _, rfl, rfl, SqT.of sy, rfl, _, _, rfl, rfl, wide_mul zx.1 (sz_den zy) a0 b0 (by omega), ?_⟩
    refine ⟨_, rfl, _, _, _, _, rfl, rfl, SqT.of sy, rfl, _, rfl, _, _, _, _, rfl, rfl, SqT.of sx, rfl, _, _, rfl, rfl, wide_mul zy.1 (sz_den zx) b0 a0 (by omega), _, _, rfl, rfl, ?_⟩
    have e : decide (p < q) = decide (p.num * ((q.den : Nat) : Int) < q.num * ((p.den : Nat) : Int)) := by
      rw [decide_eq_decide]
      exact Rat.lt_iff p q
    show Q (V.bl (decide (p.num * ((q.den : Nat) : Int) < q.num * ((p.den : Nat) : Int)))) H
    rw [← e]
    exact k _ .refl
theorem scTotal : FnScope ["some", "found", "one"] ["some"] (defScope dTotal) := ⟨rfl, rfl, rfl, by decide +kernel, rfl, by decide +kernel, by decide +kernel⟩
theorem sz_S' {z : Nat} {f : Nat → Rat} : ∀ n, (∀ i, i < n → Sz z (f i)) → Sz (n * (z + 1) + 1) (S n f)
  | 0, _ => ⟨by show (0 : Int).natAbs < _; exact Nat.pow_pos (by decide), by show 1 < _; exact Nat.one_lt_two_pow (by omega)⟩
  | n + 1, h => by
    have := sz_add (sz_S' n fun i hi => h i (Nat.lt_succ_of_lt hi)) (h n (Nat.lt_succ_self n))
    exact this.mono (by rw [Nat.add_mul]; omega)
theorem qt0 : qt 0 = [.int 0, .int 1] := rfl
theorem mul_mono_l {i n z : Nat} (h : i ≤ n) : i * z ≤ n * z := Nat.mul_le_mul_right _ h
theorem ok_total (F : Fun K "total" "total" dTotal f fd) (hP : Has P w K mg base 2 "plus" N2 (spTwo (fun _ _ => True) (· + ·))) : FnOk P w K mg base CX0 3 f fd ["some"] spTotal := by
  refine F.ok scTotal (fun vs H Q E h => ?_) (fun cdv A outer s H vs Q E hr h => ?_)
  · obtain ⟨a, n, z, g, rfl, _⟩ := h
    rfl
  · obtain ⟨a, n, z, g, rfl, ⟨xs, hL, hn, hx⟩, hz, z0, hb, k⟩ := h
    refine ⟨_, pss_cons (ps_set (i := 1) scTotal.nd rfl (Or.inl rfl) (pe_tup (pa_cons pe_int (pa_cons pe_int pa_nil)))) (pss_cons (ps_for PassesOwn.never rfl (pi_list (pv 0)) (pg_name (i := 2) scTotal.nd rfl (Or.inl rfl))
      (pss_one (ps_set (i := 1) scTotal.nd rfl (Or.inl rfl) (pe_callH hP hr (by rfl) (pa_cons (pv 1) (pa_cons (pv 2) pa_nil))))))
      (pss_one (ps_ret (pv 1)))), ?_⟩
    refine ⟨by show 2 ≤ sizeLine; decide, fun p hp => ?_⟩
    have k0 : Kp [] H (upd H p (.tup [.int 0, .int 1])) := .new hp
    refine ⟨_, rfl, a, rfl, ⟨_, SqL.of (k0 _ _ hL (by simp))⟩, for_list (K := K) (a := a) (xs := xs) (fun i σ H' => ∃ (x : V) (o : Option V), σ = [some (.ref a), some x, o] ∧ Kp [] H H' ∧ RatAt H' x (S i g))
      ⟨_, _, rfl, k0, .new upd_same⟩ (fun i σ H' _ ⟨_, _, _, kk, _⟩ => SqL.of (kk _ _ hL (by simp))) ?_ ?_⟩
    · rintro i y σ H' hi ⟨x, o, rfl, kk, rx⟩
      have hin : i < n := by
        have := (List.getElem?_eq_some_iff.mp hi).1
        omega
      have ry : RatAt H' y (g i) := (hx i y hi).kp0 kk
      have hm := mul_mono_l (z := z + 1) (Nat.le_of_lt hin)
      refine ⟨_, rfl, _, rfl, _, _, _, _, i * (z + 1) + 1, z, rfl, rx, ry, sz_S' i fun j hj => hz j (by omega), hz i hin, by omega, z0, by omega, trivial, fun H2 v k2 r2 => ?_⟩
      exact ⟨v, some y, rfl, kk.trans k2, r2⟩
    · rintro σ H' ⟨x, o, rfl, kk, rx⟩
      rw [hn] at rx
      exact ⟨_, rfl, k _ _ kk rx⟩
end
end Wk

/-! ## WComp -/
set_option Elab.async false
set_option linter.all false
set_option maxRecDepth 100000
set_option maxHeartbeats 4000000
namespace Wk
open PySem L2 Wt
/-- a comprehension without tests over J: the i-th thing made is as E i says -/
theorem lc_made {J : It} {n : Nat} {G : Hp → Prop} {Y : Nat → Hp → V → Hp → Prop} (w : Walk J n G Y) {g : TG} {te : TE} {vs : List Nat} {σ : St} {H1 : Hp} {D : Addr} {Qd : Hp → Prop} (E : Nat → Hp → V → Prop)
    (hE : ∀ (M : List Addr) i H H' v, Kp M H H' → Mu M H → E i H v → E i H' v) (hD : H1 D = none) (hn : n < sizeLine) (hG : ∀ H, Kp [] H1 H → G H)
    (hs : ∀ i x H H' (R : VK), i < n → Kp [] H1 H → Y i H x H' → (∀ y H4, Kp [] H H4 → E i H4 y → R y H4) → g x (wipe σ vs) H' fun σ2 H2 => wipe σ2 vs = wipe σ vs ∧ te σ2 H2 R)
    (hg : ∀ x H (R R' : St → Hp → Prop), (∀ σ2 H2, R σ2 H2 → R' σ2 H2) → g x (wipe σ vs) H R → g x (wipe σ vs) H R')
    (hd : ∀ H acc, Kp [] H1 H → H D = some (.lst acc) → acc.length = n → (∀ (i : Nat) x, acc[i]? = some x → E i H x) → Qd H) :
    ∃ W : Nat → Nat → Hp → Prop, (∃ m, W 0 m (upd H1 D (.lst []))) ∧ ∀ i m H, W i m H →
      (J.stop i H ∧ Qd H) ∨ (J.go i H ∧ ∃ Nx : Hp → Prop, (∀ H', Nx H' → ∃ m', m' < m ∧ W (i + 1) m' H') ∧ ∀ x H', J.yld i H x H' → g x (wipe σ vs) H' fun σ2 H2 => wipe σ2 vs = wipe σ vs ∧ tYes σ2 H2 fun b H3 =>
        if b = true then te σ2 H3 fun y H4 => ∃ acc, H4 D = some (.lst acc) ∧ acc.length < sizeLine ∧ Nx (upd H4 D (.lst (acc ++ [y]))) else Nx H3) := by
  refine lc_it w (fun i H => Kp [] H1 H ∧ ∃ acc, H D = some (.lst acc) ∧ acc.length = i ∧ ∀ (j : Nat) x, acc[j]? = some x → E j H x) ⟨.new hD, [], upd_same, rfl, fun j x e => by simp at e⟩ (fun i H _ p => hG H p.1) ?_ ?_
  · rintro i x H H' hi ⟨k, acc, hA, hl, hx⟩ hy
    have q := hs i x H H' (fun y H4 => ∃ acc, H4 D = some (.lst acc) ∧ acc.length < sizeLine ∧ (Kp [] H1 (upd H4 D (.lst (acc ++ [y]))) ∧ ∃ acc2, upd H4 D (.lst (acc ++ [y])) D = some (.lst acc2) ∧ acc2.length = i + 1 ∧
      ∀ (j : Nat) x, acc2[j]? = some x → E j (upd H4 D (.lst (acc ++ [y]))) x)) hi k hy ?_
    · exact hg x H' _ _ (fun σ2 H2 h => ⟨h.1, h.2⟩) q
    · intro y H4 k4 ey
      refine ⟨acc, k4 _ _ hA (by simp), by omega, (k.trans k4).wr0 hD, acc ++ [y], upd_same, by rw [List.length_append, hl]; rfl, fun j z e => ?_⟩
      have hD4 : H4 D = some (.lst acc) := k4 _ _ hA (by simp)
      have kw : Kp [D] H4 (upd H4 D (.lst (acc ++ [y]))) := .wr (by simp)
      have mw : Mu [D] H4 := .one hD4 trivial
      rcases Nat.lt_or_ge j i with hj | hj
      · rw [List.getElem?_append_left (by omega)] at e
        exact hE _ _ _ _ _ kw mw (hE _ _ _ _ _ k4 .nil (hx j z e))
      · rw [List.getElem?_append_right (by omega)] at e
        have hz : j - acc.length = 0 := by
          have := (List.getElem?_eq_some_iff.mp e).1
          rw [List.length_singleton] at this
          omega
        have hj2 : j = i := by omega
        rw [hz] at e
        cases e
        rw [hj2]
        exact hE _ _ _ _ _ kw mw ey
  · rintro H ⟨k, acc, hA, hl, hx⟩
    exact hd H acc k hA hl hx
theorem gName_mono {i : Nat} {x : V} {σ : St} {H : Hp} {R R' : St → Hp → Prop} (h : ∀ σ2 H2, R σ2 H2 → R' σ2 H2) : gName i x σ H R → gName i x σ H R' := h _ _
theorem ratAt_E (f : Nat → Rat) : ∀ (M : List Addr) i H H' v, Kp M H H' → Mu M H → RatAt H v (f i) → RatAt H' v (f i) := fun _ _ _ _ _ k m h => h.kp k m
end Wk

/-! ## WInit -/
set_option Elab.async false
set_option linter.all false
set_option maxRecDepth 100000
set_option maxHeartbeats 4000000
namespace Wk
open PySem L2 Wt
abbrev cProg : Stmt := top 15
abbrev mInit : Stmt := inClass cProg 0
abbrev mTurn : Stmt := inClass cProg 1
abbrev mMult : Stmt := inClass cProg 2
abbrev mClimb : Stmt := inClass cProg 3
abbrev mLeave : Stmt := inClass cProg 4
abbrev mAmounts : Stmt := inClass cProg 5
abbrev mPrices : Stmt := inClass cProg 6
/-- the class's facts -/
structure Cf (K : PySem.W.Frag) (C : Addr) : Prop where
  cl : Cls K C
  nM : NoAttr K C "many"
  nS : NoAttr K C "signs"
  nR : NoAttr K C "rows"
  nB : NoAttr K C "basis"
/-! ### the fields -/
def pf (n : Nat) (sg ra ba : Addr) : List (Str × V) := putF "basis" (.ref ba) (putF "rows" (.ref ra) (putF "signs" (.ref sg) (putF "many" (.int ((n : Nat) : Int)) [])))
theorem pf_many (n : Nat) (sg ra ba : Addr) : (pf n sg ra ba).lookup ("many" : Str) = some (.int ((n : Nat) : Int)) := by
  unfold pf
  rw [lookup_putF, if_neg (by decide +kernel), lookup_putF, if_neg (by decide +kernel), lookup_putF, if_neg (by decide +kernel), lookup_putF, if_pos rfl]
theorem pf_signs (n : Nat) (sg ra ba : Addr) : (pf n sg ra ba).lookup ("signs" : Str) = some (.ref sg) := by
  unfold pf
  rw [lookup_putF, if_neg (by decide +kernel), lookup_putF, if_neg (by decide +kernel), lookup_putF, if_pos rfl]
theorem pf_rows (n : Nat) (sg ra ba : Addr) : (pf n sg ra ba).lookup ("rows" : Str) = some (.ref ra) := by
  unfold pf
  rw [lookup_putF, if_neg (by decide +kernel), lookup_putF, if_pos rfl]
theorem pf_basis (n : Nat) (sg ra ba : Addr) : (pf n sg ra ba).lookup ("basis" : Str) = some (.ref ba) := by
  unfold pf
  rw [lookup_putF, if_pos rfl]
theorem pf_no (n : Nat) (sg ra ba : Addr) {m : Str} (h1 : ¬ m = "basis") (h2 : ¬ m = "rows") (h3 : ¬ m = "signs") (h4 : ¬ m = "many") : (pf n sg ra ba).lookup m = none := by
  unfold pf
  rw [lookup_putF, if_neg h1, lookup_putF, if_neg h2, lookup_putF, if_neg h3, lookup_putF, if_neg h4]
  rfl
theorem small1000b {n : Nat} (h : n ≤ 3000) : n < sizeLine := Nat.lt_of_le_of_lt h (by decide)
theorem pl1 {f : Str} {v : V} : (putF f v []).length < 1000 := Nat.lt_of_le_of_lt (length_putF _ _ _) (by show 0 + 1 < 1000; decide)
theorem pl2 {f g : Str} {v u : V} : (putF g u (putF f v [])).length < 1000 := by
  have h1 := length_putF f v []
  have h2 := length_putF g u (putF f v [])
  have h3 : ([] : List (Str × V)).length = 0 := rfl
  omega
theorem pl3 {f g h : Str} {v u x : V} : (putF h x (putF g u (putF f v []))).length < 1000 := by
  have h1 := length_putF f v []
  have h2 := length_putF g u (putF f v [])
  have h4 := length_putF h x (putF g u (putF f v []))
  have h3 : ([] : List (Str × V)).length = 0 := rfl
  omega
/-! ### the table as an object -/
def RLs (H : Hp) (vs : List V) (n : Nat) (f : Nat → Rat) : Prop := vs.length = n ∧ ∀ (i : Nat) x, vs[i]? = some x → RatAt H x (f i)
theorem RLs.kp {M : List Addr} {H H' : Hp} {vs : List V} {n : Nat} {f : Nat → Rat} (h : RLs H vs n f) (k : Kp M H H') (m : Mu M H) : RLs H' vs n f := ⟨h.1, fun i x e => (h.2 i x e).kp k m⟩
theorem RLs.app {H : Hp} {vs ws : List V} {n m : Nat} {f g : Nat → Rat} (h : RLs H vs n f) (h' : RLs H ws m g) : RLs H (vs ++ ws) (n + m) (fun i => if i < n then f i else g (i - n)) := by
  refine ⟨by rw [List.length_append, h.1, h'.1], fun i x e => ?_⟩
  by_cases hi : i < n
  · rw [List.getElem?_append_left (by rw [h.1]; exact hi)] at e
    simp only [if_pos hi]
    exact h.2 i x e
  · rw [List.getElem?_append_right (by rw [h.1]; omega), h.1] at e
    simp only [if_neg hi]
    exact h'.2 _ x e
theorem RLs.one {H : Hp} {v : V} {q : Rat} (h : RatAt H v q) : RLs H [v] 1 (fun _ => q) := ⟨rfl, fun i x e => by
  cases i with
  | zero => cases e; exact h
  | succ i => simp at e⟩
structure PrAt (C : Addr) (H : Hp) (p sg ra ba : Addr) (n m W cr cb : Nat) (s : Tb) : Prop where
  obj : ∃ dx, H p = some (.ins C dx (pf n sg ra ba))
  sgn : RL H sg m (fun _ => 1)
  rws : ∃ rs, H ra = some (.lst rs) ∧ rs.length = cr ∧ ∀ (i : Nat) x, rs[i]? = some x → ∃ a, x = .ref a ∧ a ≠ ra ∧ a ≠ ba ∧ RL H a W (s.T i)
  bas : ∃ bs, H ba = some (.lst bs) ∧ bs.length = cb ∧ ∀ (i : Nat) x, bs[i]? = some x → x = .int ((s.B i : Nat) : Int)
  d1 : ra ≠ ba
  d2 : sg ≠ ra
  d3 : sg ≠ ba
section
variable {C : Addr} {H H' : Hp} {p sg ra ba : Addr} {n m W cr cb : Nat} {s : Tb}
theorem PrAt.kp0 (h : PrAt C H p sg ra ba n m W cr cb s) (k : Kp [] H H') : PrAt C H' p sg ra ba n m W cr cb s := by
  obtain ⟨dx, e1⟩ := h.obj
  obtain ⟨rs, e2, l2, r2⟩ := h.rws
  obtain ⟨bs, e3, l3, r3⟩ := h.bas
  exact ⟨⟨dx, k _ _ e1 (by simp)⟩, h.sgn.kp0 k, ⟨rs, k _ _ e2 (by simp), l2, fun i x e => let ⟨a, ea, n1, n2, r⟩ := r2 i x e; ⟨a, ea, n1, n2, r.kp0 k⟩⟩, ⟨bs, k _ _ e3 (by simp), l3, r3⟩, h.d1, h.d2, h.d3⟩
theorem PrAt.addRow (h : PrAt C H p sg ra ba n m W cr cb s) {rs : List V} {l : Addr} (e : H ra = some (.lst rs)) (hl : RL H l W (s.T cr)) (n1 : l ≠ ra) (n2 : l ≠ ba) : PrAt C (upd H ra (.lst (rs ++ [.ref l]))) p sg ra ba n m W (cr + 1) cb s := by
  obtain ⟨dx, e1⟩ := h.obj
  obtain ⟨rs', e2, l2, r2⟩ := h.rws
  obtain ⟨bs, e3, l3, r3⟩ := h.bas
  rw [e] at e2
  cases e2
  have k : Kp [ra] H (upd H ra (.lst (rs ++ [.ref l]))) := .wr (by simp)
  have mu : Mu [ra] H := .one e trivial
  refine ⟨⟨dx, k _ _ e1 (by simp; exact ne_of e1 e (by simp))⟩, h.sgn.kp k mu (by simp; exact h.d2), ⟨_, upd_same, by rw [List.length_append, l2]; rfl, fun i x q => ?_⟩, ⟨bs, k _ _ e3 (by simp; exact h.d1.symm), l3, r3⟩, h.d1, h.d2, h.d3⟩
  rcases Nat.lt_or_ge i cr with hi | hi
  · rw [List.getElem?_append_left (by omega)] at q
    obtain ⟨a, ea, m1, m2, r⟩ := r2 i x q
    exact ⟨a, ea, m1, m2, r.kp k mu (by simp; exact m1)⟩
  · rw [List.getElem?_append_right (by omega)] at q
    have hz : i - rs.length = 0 := by
      have := (List.getElem?_eq_some_iff.mp q).1
      rw [List.length_singleton] at this
      omega
    have hi2 : i = cr := by omega
    rw [hz] at q
    cases q
    rw [hi2]
    exact ⟨l, rfl, n1, n2, hl.kp k mu (by simp; exact n1)⟩
theorem PrAt.addBas (h : PrAt C H p sg ra ba n m W cr cb s) {bs : List V} (e : H ba = some (.lst bs)) : PrAt C (upd H ba (.lst (bs ++ [.int ((s.B cb : Nat) : Int)]))) p sg ra ba n m W cr (cb + 1) s := by
  obtain ⟨dx, e1⟩ := h.obj
  obtain ⟨rs, e2, l2, r2⟩ := h.rws
  obtain ⟨bs', e3, l3, r3⟩ := h.bas
  rw [e] at e3
  cases e3
  have k : Kp [ba] H (upd H ba (.lst (bs ++ [.int ((s.B cb : Nat) : Int)]))) := .wr (by simp)
  have mu : Mu [ba] H := .one e trivial
  refine ⟨⟨dx, k _ _ e1 (by simp; exact ne_of e1 e (by simp))⟩, h.sgn.kp k mu (by simp; exact h.d3), ⟨rs, k _ _ e2 (by simp; exact h.d1), l2, fun i x q => ?_⟩, ⟨_, upd_same, by rw [List.length_append, l3]; rfl, fun i x q => ?_⟩, h.d1, h.d2, h.d3⟩
  · obtain ⟨a, ea, m1, m2, r⟩ := r2 i x q
    exact ⟨a, ea, m1, m2, r.kp k mu (by simp; exact m2)⟩
  · rcases Nat.lt_or_ge i cb with hi | hi
    · rw [List.getElem?_append_left (by omega)] at q
      exact r3 i x q
    · rw [List.getElem?_append_right (by omega)] at q
      have hz : i - bs.length = 0 := by
        have := (List.getElem?_eq_some_iff.mp q).1
        rw [List.length_singleton] at this
        omega
      have hi2 : i = cb := by omega
      rw [hz] at q
      cases q
      rw [hi2]
end
theorem sz_one {z : Nat} (h : 1 ≤ z) : Sz z 1 := ⟨by show (1 : Int).natAbs < _; exact Nat.one_lt_two_pow (by omega), by show 1 < _; exact Nat.one_lt_two_pow (by omega)⟩
theorem sz_zero {z : Nat} (h : 1 ≤ z) : Sz z 0 := ⟨by show (0 : Int).natAbs < _; exact Nat.pow_pos (by decide), by show 1 < _; exact Nat.one_lt_two_pow (by omega)⟩
theorem qt1 : qt 1 = [.int 1, .int 1] := rfl
/-- rows of a list of lists -/
def RR (H : Hp) (a : Addr) (m n : Nat) (A : Nat → Nat → Rat) : Prop := ∃ rs, H a = some (.lst rs) ∧ rs.length = m ∧ ∀ (i : Nat) x, rs[i]? = some x → ∃ r, x = .ref r ∧ RL H r n (A i)
theorem RR.kp0 {H H' : Hp} {a : Addr} {m n : Nat} {A : Nat → Nat → Rat} (h : RR H a m n A) (k : Kp [] H H') : RR H' a m n A := let ⟨rs, e, l, r⟩ := h; ⟨rs, k _ _ e (by simp), l, fun i x q => let ⟨c, ec, rc⟩ := r i x q; ⟨c, ec, rc.kp0 k⟩⟩
def spInit (C : Addr) : Sp := fun vs H Q _ => ∃ (p dx ro go : Addr) (n m : Nat) (A : Nat → Nat → Rat) (b : Nat → Rat), vs = [.ref p, .ref ro, .ref go] ∧ H p = some (.ins C dx []) ∧ RR H ro m n A ∧ RL H go m b ∧ 1 ≤ m ∧ m ≤ 1000 ∧ n ≤ 1000 ∧
  (∀ i k, i < m → k < n → Sz 16 (A i k)) ∧ (∀ i, i < m → Sz 16 (b i) ∧ 0 ≤ b i) ∧
  ∀ (H' : Hp) (sg ra ba : Addr), Kp [p] H H' → H sg = none → H ra = none → H ba = none → PrAt C H' p sg ra ba n m (n + m + 1) m m (s0 n m A b) → Q .non H'
section
variable {P : Program} {w : World} {K : PySem.W.Frag} {mg : Str → Option Value} {base : Heap} {f C : Addr} {fd : FuncData}
abbrev NInit : List Str := ["self", "rows", "goals", "j", "row", "helping", "goal", "k", "one"]
theorem scInit : FnScope NInit ["self", "rows", "goals"] (defScope mInit) := ⟨rfl, rfl, rfl, by decide +kernel, rfl, by decide +kernel, by decide +kernel⟩
theorem ok_init (F : Fun K "__init__" "Program.__init__" mInit f fd) (T : Tx K mg) (c : Cf K C) (h_by : Has P w K mg base 2 "by" N2 (spTwo (fun _ _ => True) (· * ·))) : FnOk P w K mg base CX0 3 f fd ["self", "rows", "goals"] (spInit C) := by
  refine F.ok scInit (fun vs H Q E h => ?_) (fun cdv A' outer s H vs Q E hr h => ?_)
  · obtain ⟨p, dx, ro, go, n, m, A, b, rfl, _⟩ := h
    rfl
  · obtain ⟨p, dx, ro, go, n, m, A, b, rfl, hp, hR, hG, hm1, hm, hn, zA, zb, k⟩ := h
    obtain ⟨rs, hro, lrs, hrs⟩ := hR
    obtain ⟨gs, hgo, lgs, hgs⟩ := hG
    obtain ⟨r0, er0, vs0, hr0, lv0, _⟩ := hrs 0 rs[0] (List.getElem?_eq_getElem (by omega))
    have e0 : rs[0]? = some (.ref r0) := by rw [← er0]; exact List.getElem?_eq_getElem (by omega)
    refine ⟨_, (pss_cons (ps_fldS c.cl c.nM (pv 0) (pe_callB call_lenL (by rfl) T.len PySem.boot_len (pa_cons (pe_ix ix_listS (pv 1) pe_int (by intro _ _; rfl)) pa_nil)))
      (pss_cons (ps_fldS c.cl c.nS (pv 0) (pe_lc (own := [("goal", 6)]) (g := gName 6) (tt := tYes) rfl scInit.nd (pi_listS (pv 2)) (blkOk_by (own := [("goal", 6)]) (N := NInit) (sc := defScope mInit) (by decide +kernel)) (fun _ _ _ _ _ => (pg_name (i := 6) scInit.nd rfl (Or.inl rfl))) (fun _ _ _ _ _ => pts_nil) (fun _ _ _ _ _ => by exact (pe_ifExp (pt_cmpR op_lt (pe_ix ix_tupS (pv 6) pe_int (by intro _ _; rfl)) pe_int (nomark _)) (pe_tup (pa_cons (pe_un un_neg pe_int) (pa_cons pe_int pa_nil))) (pe_tup (pa_cons pe_int (pa_cons pe_int pa_nil)))))))
      (pss_cons (ps_fldS c.cl c.nR (pv 0) (pe_lst pa_nil))
      (pss_cons (ps_fldS c.cl c.nB (pv 0) (pe_lst pa_nil))
      (pss_one (ps_for PassesOwn.never rfl (pi_enumS (by rfl) T.enumerate (pa_cons (pv 1) pa_nil)) (pg_tupS (pgs_cons (pg_name (i := 3) scInit.nd rfl (Or.inr rfl)) (pgs_cons (pg_name (i := 4) scInit.nd rfl (Or.inl rfl)) pgs_nil)))
        (pss_cons (ps_setLc (i := 5) (own := [("k", 7)]) (g := gName 7) (tt := tYes) rfl scInit.nd rfl rfl (sw_true rfl rfl rfl (by decide +kernel)) (pi_range1 (by rfl) T.range (pa_cons (pe_callB call_lenL (by rfl) T.len PySem.boot_len (pa_cons (pv 1) pa_nil)) pa_nil)) (blkOk_by (own := [("k", 7)]) (N := NInit) (sc := defScope mInit) (by decide +kernel)) (fun _ _ _ _ _ => (pg_name (i := 7) scInit.nd rfl (Or.inl rfl))) (fun _ _ _ _ _ => pts_nil) (fun _ _ _ _ _ => by exact (pe_ifExp (pt_cmpR op_eq (pv 7) (pv 3) (nomark _)) (pe_tup (pa_cons pe_int (pa_cons pe_int pa_nil))) (pe_tup (pa_cons pe_int (pa_cons pe_int pa_nil))))))
        (pss_cons (ps_expr (pe_bm PySem.F.plainAttrs_list PySem.F.slot_list_append PySem.F.type_list_append mt_append (pe_fldS c.cl c.nR (pv 0)) (pa_cons (pe_op op_cat (pe_op op_cat (pe_lc (own := [("one", 8)]) (g := gName 8) (tt := tYes) rfl scInit.nd (pi_listS (pv 4)) (blkOk_by (own := [("one", 8)]) (N := NInit) (sc := defScope mInit) (by decide +kernel)) (fun _ _ _ _ _ => (pg_name (i := 8) scInit.nd rfl (Or.inl rfl))) (fun _ _ _ _ _ => pts_nil) (fun _ _ _ _ _ => by exact (pe_callH h_by hr (by rfl) (pa_cons (pv 8) (pa_cons (pe_ix ix_listS (pe_fldS c.cl c.nS (pv 0)) (pv 3) (by intro _ _; rfl)) pa_nil))))) (pv 5)) (pe_lst (pa_cons (pe_callH h_by hr (by rfl) (pa_cons (pe_ix ix_listS (pv 2) (pv 3) (by intro _ _; rfl)) (pa_cons (pe_ix ix_listS (pe_fldS c.cl c.nS (pv 0)) (pv 3) (by intro _ _; rfl)) pa_nil))) pa_nil))) pa_nil)))
        (pss_one (ps_expr (pe_bm PySem.F.plainAttrs_list PySem.F.slot_list_append PySem.F.type_list_append mt_append (pe_fldS c.cl c.nB (pv 0)) (pa_cons (pe_op op_add (pe_fldS c.cl c.nM (pv 0)) (pv 3)) pa_nil)))))))))))), ?_⟩
    -- self.many = len(rows[0])
    refine ⟨_, rfl, ro, rs, 0, .ref r0, rfl, rfl, hro, atI_nat e0, r0, vs0, rfl, hr0, _, rfl, p, dx, [], rfl, hp, by decide, ?_⟩
    rw [lv0]
    generalize h1 : upd H p (.ins C dx (putF "many" (.int ((n : Nat) : Int)) [])) = H1
    have k1 : Kp [p] H H1 := by rw [← h1]; exact .wr (by simp)
    have p1 : H1 p = some (.ins C dx (putF "many" (.int ((n : Nat) : Int)) [])) := by rw [← h1]; exact upd_same
    have mp : Mu [p] H := .one hp trivial
    have nro : ro ∉ [p] := by simp; exact ne_of hro hp (by simp)
    have ngo : go ∉ [p] := by simp; exact ne_of hgo hp (by simp)
    -- self.signs = [..]
    have hgo1 := k1 _ _ hgo ngo
    refine ⟨_, rfl, go, rfl, ⟨_, hgo1⟩, fun sg hsg => lc_made (walk_list (K := K) (a := go) (xs := gs)) (fun _ H v => RatAt H v 1) (ratAt_E fun _ => 1) hsg (by rw [lgs]; exact small1000 hm) (fun H k => SqL.of (k _ _ hgo1 (by simp))) ?_ (fun _ _ _ _ => gName_mono) ?_⟩
    · rintro i x H2 H3 R hi k2 ⟨rfl, hx⟩ hR
      have hi2 : i < m := by omega
      obtain ⟨a, rfl, ha⟩ := (hgs i x hx).kp (k1.trans k2.nil) mp
      refine ⟨rfl, _, rfl, a, qt (b i), 0, .int (b i).num, rfl, rfl, ha, rfl, _, _, rfl, rfl, _, rfl, ?_⟩
      have hb0 : ¬ (b i).num < 0 := by
        have := Rat.num_nonneg.mpr (zb i hi2).2
        omega
      rw [decide_eq_false hb0]
      refine iteF ?_
      exact ⟨by show 2 ≤ sizeLine; decide, fun q hq => hR _ _ (.new hq) (.new upd_same)⟩
    · intro H2 acc k2 hA hl hx
      have nsp : sg ≠ p := ne_of_none p1 hsg |>.symm
      have sg0 : H sg = none := k1.none hsg (by simp; exact nsp)
      have p2 := k2 _ _ p1 (by simp)
      refine ⟨_, rfl, p, dx, _, rfl, p2, pl1, ?_⟩
      generalize h3 : upd H2 p (.ins C dx (putF "signs" (.ref sg) (putF "many" (.int ((n : Nat) : Int)) []))) = H3
      have k3 : Kp [p] H H3 := by rw [← h3]; exact (k1.trans k2.nil).trans (.wr (by simp))
      have p3 : H3 p = some (.ins C dx (putF "signs" (.ref sg) (putF "many" (.int ((n : Nat) : Int)) []))) := by rw [← h3]; exact upd_same
      have m2 : Mu [p] H2 := .one p2 trivial
      have s3 : RL H3 sg m (fun _ => 1) := by
        rw [← h3]
        exact RL.kp ⟨acc, hA, by omega, fun i x e => hx i x e⟩ (.wr (by simp)) m2 (by simp; exact nsp)
      -- self.rows = []
      refine ⟨Nat.zero_le _, fun ra hra => ?_⟩
      have npr : p ≠ ra := ne_of_none p3 hra
      have nsr : sg ≠ ra := ne_of_none s3.choose_spec.1 hra
      have ra0 : H ra = none := k3.none hra (by simp; exact npr.symm)
      refine ⟨_, rfl, p, dx, _, rfl, (upd_ne npr).trans p3, pl2, ?_⟩
      generalize h4 : upd (upd H3 ra (.lst [])) p (.ins C dx (putF "rows" (.ref ra) (putF "signs" (.ref sg) (putF "many" (.int ((n : Nat) : Int)) [])))) = H4
      have k34 : Kp [p] H3 H4 := by rw [← h4]; exact (Kp.new hra).trans (.wr (by simp))
      have p4 : H4 p = some (.ins C dx (putF "rows" (.ref ra) (putF "signs" (.ref sg) (putF "many" (.int ((n : Nat) : Int)) [])))) := by rw [← h4]; exact upd_same
      have r4 : H4 ra = some (.lst []) := by rw [← h4]; exact (upd_ne npr.symm).trans upd_same
      -- self.basis = []
      refine ⟨Nat.zero_le _, fun ba hba => ?_⟩
      have npb : p ≠ ba := ne_of_none p4 hba
      have nrb : ra ≠ ba := ne_of_none r4 hba
      have s4 : RL H4 sg m (fun _ => 1) := s3.kp k34 (.one p3 trivial) (by simp; exact nsp)
      have nsb : sg ≠ ba := ne_of_none s4.choose_spec.1 hba
      have ba0 : H ba = none := (k3.trans k34).none hba (by simp; exact npb.symm)
      refine ⟨_, rfl, p, dx, _, rfl, (upd_ne npb).trans p4, pl3, ?_⟩
      generalize h5 : upd (upd H4 ba (.lst [])) p (.ins C dx (putF "basis" (.ref ba) (putF "rows" (.ref ra) (putF "signs" (.ref sg) (putF "many" (.int ((n : Nat) : Int)) []))))) = H5
      have k45 : Kp [p] H4 H5 := by rw [← h5]; exact (Kp.new hba).trans (.wr (by simp))
      have k5 : Kp [p] H H5 := k3.trans (k34.trans k45)
      have p5 : PrAt C H5 p sg ra ba n m (n + m + 1) 0 0 (s0 n m A b) := by
        refine ⟨⟨dx, by rw [← h5]; exact upd_same⟩, s4.kp k45 (.one p4 trivial) (by simp; exact nsp), ⟨[], k45 _ _ r4 (by simp; exact npr.symm), rfl, fun i x e => by simp at e⟩, ⟨[], ?_, rfl, fun i x e => by simp at e⟩, nrb, nsr, nsb⟩
        rw [← h5]
        exact (upd_ne npb.symm).trans upd_same
      clear h1 h3 h4 h5 k1 k2 k3 k34 k45 p1 p2 p3 p4 r4 s3 s4
      -- the loop
      have hro5 := k5 _ _ hro nro
      refine ⟨_, rfl, ro, rs, rfl, hro5, for_it (walk_enum (K := K) (a := ro) (xs := rs)) (fun i σ H' => ∃ o3 o4 o5 : Option V, σ = [some (.ref p), some (.ref ro), some (.ref go), o3, o4, o5, none, none, none] ∧ Kp [p] H H' ∧ PrAt C H' p sg ra ba n m (n + m + 1) i i (s0 n m A b))
        ⟨none, none, none, rfl, k5, p5⟩ (fun i σ H' _ ⟨_, _, _, _, kk, _⟩ => SqL.of (kk _ _ hro nro)) ?_ ?_⟩
      · rintro i x σ H6 H7 hi ⟨o3, o4, o5, rfl, k6, p6⟩ ⟨T', x', y', rfl, hT, rfl, ex, ey⟩
        cases ex
        have hi2 : i < m := by omega
        have kT : Kp [] H6 (upd H6 T' (.tup [.int ((i : Nat) : Int), y'])) := .new hT
        have pT : upd H6 T' (.tup [.int ((i : Nat) : Int), y']) T' = some (.tup [.int ((i : Nat) : Int), y']) := upd_same
        have k7 := k6.trans kT.nil
        have p7 := p6.kp0 kT
        generalize upd H6 T' (.tup [.int ((i : Nat) : Int), y']) = H7 at pT k7 p7 ⊢
        obtain ⟨ri, rfl, hri⟩ := hrs i y' ey
        refine ⟨T', _, rfl, pT, rfl, _, _, rfl, _, _, rfl, rfl, ?_⟩
        -- helping
        refine ⟨_, rfl, ro, rs, rfl, k7 _ _ hro nro, _, rfl, by omega, by omega, fun D hD => lc_made walk_range (fun j H v => RatAt H v (if j = i then 1 else 0)) (ratAt_E _) hD (by simp; exact small1000 (by omega)) (fun _ _ => trivial) ?_ (fun _ _ _ _ => gName_mono) ?_⟩
        · rintro j x H8 H9 R hj k8 ⟨rfl, rfl⟩ hR
          refine ⟨rfl, _, rfl, _, rfl, rfl, _, rfl, ?_⟩
          by_cases e : j = i
          · rw [decide_eq_true (show V.int (0 + ((j : Nat) : Int)) = V.int ((i : Nat) : Int) by rw [e, Int.zero_add])]
            refine iteT ⟨by show 2 ≤ sizeLine; decide, fun q hq => hR _ _ (.new hq) ?_⟩
            rw [if_pos e]
            exact .new upd_same
          · rw [decide_eq_false (show ¬ V.int (0 + ((j : Nat) : Int)) = V.int ((i : Nat) : Int) from fun z => e (by injection z with z; omega))]
            refine iteF ⟨by show 2 ≤ sizeLine; decide, fun q hq => hR _ _ (.new hq) ?_⟩
            rw [if_neg e]
            exact .new upd_same
        · intro H8 hp8 k8 hA8 hl8 hx8
          have p8 := p7.kp0 k8
          have k78 := k7.trans k8.nil
          obtain ⟨dx8, e8⟩ := p8.obj
          obtain ⟨rs8, er8, lr8, _⟩ := p8.rws
          have hl8 : hp8.length = m := by rw [hl8, ← lrs]; omega
          -- self.rows.append(..)
          refine ⟨_, rfl, p, dx8, _, _, rfl, e8, pf_rows _ _ _ _, .inl ⟨rfl, _, SqL.of er8⟩, ?_⟩
          obtain ⟨vsi, hvi, lvi, xvi⟩ := hri.kp k78 mp (by simp; exact ne_of hri.choose_spec.1 hp (by simp))
          refine ⟨_, rfl, ri, rfl, ⟨_, hvi⟩, fun D9 hD9 => lc_made (walk_list (K := K) (a := ri) (xs := vsi)) (fun q H v => RatAt H v (A i q)) (ratAt_E _) hD9 (by rw [lvi]; exact small1000 hn) (fun H k => SqL.of (k _ _ hvi (by simp))) ?_ (fun _ _ _ _ => gName_mono) ?_⟩
          · rintro q x H9 H10 R hq k9 ⟨rfl, hx⟩ hR
            have p9 := p8.kp0 k9
            obtain ⟨dx9, e9⟩ := p9.obj
            obtain ⟨sv, sx, es, as, rs1⟩ := p9.sgn.at hi2
            refine ⟨rfl, _, rfl, _, rfl, p, dx9, _, _, rfl, e9, pf_signs _ _ _ _, _, rfl, sg, sv, _, sx, rfl, rfl, es, as, ?_⟩
            refine ⟨x, sx, A i q, 1, 16, 1, rfl, (xvi q x hx).kp0 k9, rs1, zA i q hi2 (by omega), sz_one (Nat.le_refl _), by decide, by decide, by decide, trivial, fun H11 v k11 r11 => hR _ _ k11 ?_⟩
            have r12 : RatAt H11 v (A i q * 1) := r11
            rw [Rat.mul_one] at r12
            exact r12
          · intro H9 ac9 k9 hA9 hl9 hx9
            have p9 := p8.kp0 k9
            refine ⟨_, rfl, D9, D, ac9, hp8, rfl, rfl, hA9, k9 _ _ hA8 (by simp), by rw [hl9, lvi, hl8]; exact Nat.le_of_lt (small1000b (by omega)), fun q10 hq10 => ?_⟩
            have k10 : Kp [] H9 (upd H9 q10 (.lst (ac9 ++ hp8))) := .new hq10
            have e10 : upd H9 q10 (.lst (ac9 ++ hp8)) q10 = some (.lst (ac9 ++ hp8)) := upd_same
            generalize upd H9 q10 (.lst (ac9 ++ hp8)) = H10 at k10 e10 ⊢
            have p10 := p9.kp0 k10
            have k810 := (k78.trans k9.nil).trans k10.nil
            obtain ⟨dx10, e10p⟩ := p10.obj
            -- [by(goals[j], self.signs[j])]
            obtain ⟨gv, gx, eg, ag, rg⟩ := (RL.kp (n := m) (f := b) ⟨gs, hgo, lgs, hgs⟩ k810 mp ngo).at hi2
            obtain ⟨sv, sx, es, as, rs1⟩ := p10.sgn.at hi2
            refine ⟨_, rfl, _, rfl, go, gv, _, gx, rfl, rfl, eg, ag, _, rfl, p, dx10, _, _, rfl, e10p, pf_signs _ _ _ _, _, rfl, sg, sv, _, sx, rfl, rfl, es, as, ?_⟩
            refine ⟨gx, sx, b i, 1, 16, 1, rfl, rg, rs1, (zb i hi2).1, sz_one (Nat.le_refl _), by decide, by decide, by decide, trivial, fun H11 v k11 r12 => ?_⟩
            have r11 : RatAt H11 v (b i * 1) := r12
            rw [Rat.mul_one] at r11
            refine ⟨by show 1 ≤ sizeLine; decide, fun q12 hq12 => ?_⟩
            have k12 : Kp [] H11 (upd H11 q12 (.lst [v])) := .new hq12
            refine ⟨q10, q12, ac9 ++ hp8, [v], rfl, rfl, (k11.trans k12) _ _ e10 (by simp), upd_same, by rw [List.length_append, hl9, lvi, hl8]; exact Nat.le_of_lt (small1000b (by show n + m + 1 ≤ 3000; omega)), fun q13 hq13 => ?_⟩
            have p12 := p10.kp0 (k11.trans k12)
            have n1 : q13 ≠ ra := by
              obtain ⟨z1, z2, _⟩ := p12.rws
              exact (ne_of_none z2 hq13).symm
            have n2 : q13 ≠ ba := by
              obtain ⟨z1, z2, _⟩ := p12.bas
              exact (ne_of_none z2 hq13).symm
            have k13 : Kp [] (upd H11 q12 (.lst [v])) (upd (upd H11 q12 (.lst [v])) q13 (.lst (ac9 ++ hp8 ++ [v]))) := .new hq13
            have kall := ((k11.trans k12).trans k13)
            have e13 : upd (upd H11 q12 (.lst [v])) q13 (.lst (ac9 ++ hp8 ++ [v])) q13 = some (.lst (ac9 ++ hp8 ++ [v])) := upd_same
            have rv := r11.kp0 (k12.trans k13)
            generalize upd (upd H11 q12 (.lst [v])) q13 (.lst (ac9 ++ hp8 ++ [v])) = H13 at kall e13 rv ⊢
            have p13 := p10.kp0 kall
            have k13 := k810.trans kall.nil
            obtain ⟨rs13, er13, lr13, xr13⟩ := p13.rws
            have rl : RL H13 q13 (n + m + 1) ((s0 n m A b).T i) := by
              have ra1 : RLs H13 ac9 n (A i) := ⟨by omega, fun q x e => (hx9 q x e).kp0 (k10.trans kall)⟩
              have ra2 : RLs H13 hp8 m (fun j => if j = i then 1 else 0) := ⟨hl8, fun q x e => (hx8 q x e).kp0 ((k9.trans k10).trans kall)⟩
              have ra3 := (ra1.app ra2).app (RLs.one rv)
              refine RL.congr ⟨_, e13, ra3⟩ fun q hq => ?_
              show (if q < n + m then (if q < n then A i q else if q - n = i then 1 else 0) else b i) = T0 n m A b i q
              unfold T0
              by_cases h1 : q < n
              · rw [if_pos (by omega), if_pos h1, if_pos h1]
              · rw [if_neg h1, if_neg h1]
                by_cases h2 : q < n + m
                · rw [if_pos h2, if_pos h2]
                  by_cases h3 : q - n = i
                  · rw [if_pos h3, if_pos (by omega)]
                  · rw [if_neg h3, if_neg (by omega)]
                · rw [if_neg h2, if_neg h2]
            refine ⟨ra, rs13, _, rfl, rfl, er13, by rw [lr13]; exact small1000 (by omega), ?_⟩
            have p14 := p13.addRow er13 rl n1 n2
            have k14 : Kp [p] H (upd H13 ra (.lst (rs13 ++ [.ref q13]))) := k13.wr0 ra0
            generalize upd H13 ra (.lst (rs13 ++ [.ref q13])) = H14 at p14 k14 ⊢
            -- self.basis.append(self.many + j)
            obtain ⟨dx14, e14⟩ := p14.obj
            obtain ⟨bs14, eb14, lb14, _⟩ := p14.bas
            refine ⟨_, rfl, p, dx14, _, _, rfl, e14, pf_basis _ _ _ _, .inl ⟨rfl, _, SqL.of eb14⟩, _, rfl, p, dx14, _, _, rfl, e14, pf_many _ _ _ _, _, rfl, _, _, rfl, rfl, ba, bs14, _, rfl, rfl, eb14, by rw [lb14]; exact small1000 (by omega), ?_⟩
            have p15 := p14.addBas eb14
            exact ⟨_, _, _, rfl, k14.wr0 ba0, p15⟩
      · rintro σ H6 ⟨o3, o4, o5, rfl, k6, p6⟩
        rw [lrs] at p6
        exact k H6 sg ra ba k6 sg0 ra0 ba0 p6
end
end Wk

/-! ## WMult -/
set_option Elab.async false
set_option linter.all false
set_option maxRecDepth 100000
set_option maxHeartbeats 4000000
namespace Wk
open PySem L2 Wt
theorem gPair_mono {i j : Nat} {x : V} {σ : St} {H : Hp} {R R' : St → Hp → Prop} (h : ∀ σ2 H2, R σ2 H2 → R' σ2 H2) : gTupS 2 (gCons (gName i) (gCons (gName j) gNil)) x σ H R → gTupS 2 (gCons (gName i) (gCons (gName j) gNil)) x σ H R' := by
  rintro ⟨a, xs, e1, e2, e3, v, r, e4, v2, r2, e5, e6, q⟩
  exact ⟨a, xs, e1, e2, e3, v, r, e4, v2, r2, e5, e6, h _ _ q⟩
theorem ixN_nat {n i : Nat} (h : i < n) : ixN n ((i : Nat) : Int) = some i := by
  unfold ixN
  rw [if_pos (by omega), if_pos (by omega)]
  simp
theorem atI_neg1 {α : Type} {xs : List α} {k : Nat} {v : α} (l : xs.length = k + 1) (h : xs[k]? = some v) : atI xs (-1) = some v := by
  unfold atI ixN
  rw [if_neg (by decide), if_pos (by omega)]
  have : (-1 + (xs.length : Int)).toNat = k := by omega
  show xs[(-1 + (xs.length : Int)).toNat]? = some v
  rw [this]
  exact h
/-- the sizes that a table keeps -/
structure Zs (n m : Nat) (s : Tb) : Prop where
  m9 : m ≤ 9
  n9 : n ≤ 900
  sz : ∀ j k, j < m → k < n + m + 1 → Sz 160 (s.T j k)
def spMult (C : Addr) : Sp := fun vs H Q _ => ∃ (p sg ra ba ca : Addr) (n m N k : Nat) (s : Tb) (c : Nat → Rat), vs = [.ref p, .ref ca, .int ((k : Nat) : Int)] ∧ PrAt C H p sg ra ba n m (n + m + 1) m m s ∧ RL H ca N c ∧ k < n + m + 1 ∧ Zs n m s ∧
  (∀ j, j < m → s.B j < N) ∧ (∀ x, x < N → Sz 2 (c x)) ∧ ∀ H' v, Kp [] H H' → RatAt H' v (mult m s c k) → Q v H'
def spPrices (C : Addr) : Sp := fun vs H Q _ => ∃ (p sg ra ba ca : Addr) (n m N : Nat) (s : Tb) (c : Nat → Rat), vs = [.ref p, .ref ca] ∧ PrAt C H p sg ra ba n m (n + m + 1) m m s ∧ RL H ca N c ∧ Zs n m s ∧
  (∀ j, j < m → s.B j < N) ∧ (∀ x, x < N → Sz 2 (c x)) ∧ ∀ H' a, Kp [] H H' → RL H' a m (pri n m c s) → Q (.ref a) H'
def spAmounts (C : Addr) : Sp := fun vs H Q _ => ∃ (p sg ra ba : Addr) (n m : Nat) (s : Tb), vs = [.ref p] ∧ PrAt C H p sg ra ba n m (n + m + 1) m m s ∧ Zs n m s ∧
  (∀ j, j < m → s.B j < n) ∧ (∀ i j, i < m → j < m → s.B i = s.B j → i = j) ∧ ∀ H' a, Kp [] H H' → RL H' a n (amt n m s) → Q (.ref a) H'
section
variable {P : Program} {w : World} {K : PySem.W.Frag} {mg : Str → Option Value} {base : Heap} {f C : Addr} {fd : FuncData}
abbrev NMult : List Str := ["self", "costs", "k", "j", "row"]
theorem scMult : FnScope NMult ["self", "costs", "k"] (defScope mMult) := ⟨rfl, rfl, rfl, by decide +kernel, rfl, by decide +kernel, by decide +kernel⟩
theorem mult_sz9 {n m N k : Nat} {s : Tb} {c : Nat → Rat} (z : Zs n m s) (hk : k < n + m + 1) (hB : ∀ j, j < m → s.B j < N) (hc : ∀ x, x < N → Sz 2 (c x)) : Sz 1468 (mult m s c k) := by
  have h := sz_S' (z := 162) (f := fun j => c (s.B j) * s.T j k) m fun j hj => (sz_mul (hc _ (hB j hj)) (z.sz j k hj hk)).mono (by decide)
  refine h.mono ?_
  have := mul_mono_l (z := 163) z.m9
  omega
theorem ok_mult (F : Fun K "multiplier" "Program.multiplier" mMult f fd) (T : Tx K mg) (c : Cf K C) (h_by : Has P w K mg base 2 "by" N2 (spTwo (fun _ _ => True) (· * ·))) (h_total : Has P w K mg base 3 "total" ["some"] spTotal) : FnOk P w K mg base CX0 4 f fd ["self", "costs", "k"] (spMult C) := by
  refine F.ok scMult (fun vs H Q E h => ?_) (fun cdv A' outer s H vs Q E hr h => ?_)
  · obtain ⟨p, sg, ra, ba, ca, n, m, N, k, s, c, rfl, _⟩ := h
    rfl
  · obtain ⟨p, sg, ra, ba, ca, n, m, N, k, tb, cs, rfl, hp, hc, hk, z, hB, zc, q⟩ := h
    have h_by := h_by.mono (show 2 ≤ 3 by decide)
    refine ⟨_, (pss_one (ps_ret (pe_callH h_total hr (by rfl) (pa_cons (pe_lc (own := [("j", 3), ("row", 4)]) (g := gTupS 2 (gCons (gName 3) (gCons (gName 4) gNil))) (tt := tYes) rfl scMult.nd (pi_enumS (by rfl) T.enumerate (pa_cons (pe_fldS c.cl c.nR (pv 0)) pa_nil)) (blkOk_by (own := [("j", 3), ("row", 4)]) (N := NMult) (sc := defScope mMult) (by decide +kernel)) (fun _ _ _ _ _ => (pg_tupS (pgs_cons (pg_name (i := 3) scMult.nd rfl (Or.inl rfl)) (pgs_cons (pg_name (i := 4) scMult.nd rfl (Or.inl rfl)) pgs_nil)))) (fun _ _ _ _ _ => pts_nil) (fun _ _ _ _ _ => by exact (pe_callH h_by hr (by rfl) (pa_cons (pe_ix ix_listS (pv 1) (pe_ix ix_listS (pe_fldS c.cl c.nB (pv 0)) (pv 3) (by intro _ _; rfl)) (by intro _ _; rfl)) (pa_cons (pe_ix ix_listS (pv 4) (pv 2) (by intro _ _; rfl)) pa_nil))))) pa_nil)))), ?_⟩
    obtain ⟨dx, e0⟩ := hp.obj
    obtain ⟨rs, er, lr, xr⟩ := hp.rws
    refine ⟨_, rfl, p, dx, _, _, rfl, e0, pf_rows _ _ _ _, ra, rs, rfl, er, fun D hD => lc_made (walk_enum (K := K) (a := ra) (xs := rs)) (fun j H v => RatAt H v (cs (tb.B j) * tb.T j k)) (ratAt_E fun j => cs (tb.B j) * tb.T j k) hD (by rw [lr]; exact small1000 (by have := z.m9; omega)) (fun H k => SqL.of (k _ _ er (by simp))) ?_ (fun _ _ _ _ => gPair_mono) ?_⟩
    · rintro j x H1 H2 R hj k1 ⟨T', x', y', rfl, hT, rfl, ex, ey⟩ hR
      cases ex
      have hj2 : j < m := by omega
      have kT : Kp [] H1 (upd H1 T' (.tup [.int ((j : Nat) : Int), y'])) := .new hT
      have pT : upd H1 T' (.tup [.int ((j : Nat) : Int), y']) T' = some (.tup [.int ((j : Nat) : Int), y']) := upd_same
      generalize upd H1 T' (.tup [.int ((j : Nat) : Int), y']) = H2 at kT pT ⊢
      have k2 := k1.trans kT
      have p2 := hp.kp0 k2
      obtain ⟨dx2, e2⟩ := p2.obj
      obtain ⟨bs, eb, lb, xb⟩ := p2.bas
      obtain ⟨r, rfl, _, _, rr⟩ := xr j y' ey
      obtain ⟨rv, rx, erv, arx, rrx⟩ := (rr.kp0 k2).at hk
      obtain ⟨cv, cx, ecv, acx, rcx⟩ := (hc.kp0 k2).at (hB j hj2)
      have eB : bs[j]? = some (.int ((tb.B j : Nat) : Int)) := by
        have e : bs[j]? = some bs[j] := List.getElem?_eq_getElem (by omega)
        rw [e, xb j _ e]
      refine ⟨T', _, rfl, pT, rfl, _, _, rfl, _, _, rfl, rfl, rfl, ?_⟩
      refine ⟨_, rfl, _, rfl, p, dx2, _, _, rfl, e2, pf_basis _ _ _ _, _, rfl, ba, bs, _, _, rfl, rfl, eb, atI_nat eB, ca, cv, _, cx, rfl, rfl, ecv, acx, ?_⟩
      refine ⟨_, rfl, _, rfl, r, rv, _, rx, rfl, rfl, erv, arx, cx, rx, cs (tb.B j), tb.T j k, 2, 160, rfl, rcx, rrx, zc _ (hB j hj2), z.sz j k hj2 hk, by decide, by decide, by decide, trivial, fun H3 v k3 r3 => hR v H3 (kT.trans k3) r3⟩
    · intro H1 acc k1 hA hl hx
      refine ⟨D, m, 162, fun j => cs (tb.B j) * tb.T j k, rfl, ⟨acc, hA, by omega, hx⟩, fun j hj => (sz_mul (zc _ (hB j hj)) (z.sz j k hj hk)).mono (by decide), by decide, by have := mul_mono_l (z := 163) z.m9; omega, fun H2 v k2 r2 => q H2 v (k1.trans k2) r2⟩
abbrev NPrices : List Str := ["self", "costs", "j", "sign"]
theorem scPrices : FnScope NPrices ["self", "costs"] (defScope mPrices) := ⟨rfl, rfl, rfl, by decide +kernel, rfl, by decide +kernel, by decide +kernel⟩
theorem ok_prices (F : Fun K "prices" "Program.prices" mPrices f fd) (T : Tx K mg) (c : Cf K C) (h_by : Has P w K mg base 2 "by" N2 (spTwo (fun _ _ => True) (· * ·))) (h_multiplier : HasM P w K mg base C 4 "multiplier" ["self", "costs", "k"] (spMult C)) : FnOk P w K mg base CX0 5 f fd ["self", "costs"] (spPrices C) := by
  refine F.ok scPrices (fun vs H Q E h => ?_) (fun cdv A' outer s H vs Q E hr h => ?_)
  · obtain ⟨p, sg, ra, ba, ca, n, m, N, s, c, rfl, _⟩ := h
    rfl
  · obtain ⟨p, sg, ra, ba, ca, n, m, N, tb, cs, rfl, hp, hc, z, hB, zc, q⟩ := h
    have h_by := h_by.mono (show 2 ≤ 4 by decide)
    refine ⟨_, (pss_one (ps_ret (pe_lc (own := [("j", 2), ("sign", 3)]) (g := gTupS 2 (gCons (gName 2) (gCons (gName 3) gNil))) (tt := tYes) rfl scPrices.nd (pi_enumS (by rfl) T.enumerate (pa_cons (pe_fldS c.cl c.nS (pv 0)) pa_nil)) (blkOk_by (own := [("j", 2), ("sign", 3)]) (N := NPrices) (sc := defScope mPrices) (by decide +kernel)) (fun _ _ _ _ _ => (pg_tupS (pgs_cons (pg_name (i := 2) scPrices.nd rfl (Or.inl rfl)) (pgs_cons (pg_name (i := 3) scPrices.nd rfl (Or.inl rfl)) pgs_nil)))) (fun _ _ _ _ _ => pts_nil) (fun _ _ _ _ _ => by exact (pe_callH h_by hr (by rfl) (pa_cons (pv 3) (pa_cons (pe_methH (pv 0) c.cl h_multiplier hr (pa_cons (pv 1) (pa_cons (pe_op op_add (pe_fldS c.cl c.nM (pv 0)) (pv 2)) pa_nil))) pa_nil))))))), ?_⟩
    obtain ⟨dx, e0⟩ := hp.obj
    obtain ⟨gs, eg, lg, xg⟩ := hp.sgn
    refine ⟨_, rfl, p, dx, _, _, rfl, e0, pf_signs _ _ _ _, sg, gs, rfl, eg, fun D hD => lc_made (walk_enum (K := K) (a := sg) (xs := gs)) (fun j H v => RatAt H v (pri n m cs tb j)) (ratAt_E fun j => pri n m cs tb j) hD (by rw [lg]; exact small1000 (by have := z.m9; omega)) (fun H k => SqL.of (k _ _ eg (by simp))) ?_ (fun _ _ _ _ => gPair_mono) ?_⟩
    · rintro j x H1 H2 R hj k1 ⟨T', x', y', rfl, hT, rfl, ex, ey⟩ hR
      cases ex
      have hj2 : j < m := by omega
      have kT : Kp [] H1 (upd H1 T' (.tup [.int ((j : Nat) : Int), y'])) := .new hT
      have pT : upd H1 T' (.tup [.int ((j : Nat) : Int), y']) T' = some (.tup [.int ((j : Nat) : Int), y']) := upd_same
      generalize upd H1 T' (.tup [.int ((j : Nat) : Int), y']) = H2 at kT pT ⊢
      have k2 := k1.trans kT
      have p2 := hp.kp0 k2
      obtain ⟨dx2, e2⟩ := p2.obj
      have rg := (xg j y' ey).kp0 k2
      refine ⟨T', _, rfl, pT, rfl, _, _, rfl, _, _, rfl, rfl, rfl, ?_⟩
      refine ⟨_, rfl, _, rfl, p, dx2, _, rfl, e2, pf_no _ _ _ _ (by decide +kernel) (by decide +kernel) (by decide +kernel) (by decide +kernel), _, rfl, _, rfl, p, dx2, _, _, rfl, e2, pf_many _ _ _ _, _, rfl, _, _, rfl, rfl, ?_⟩
      have hk : n + j < n + m + 1 := by omega
      refine ⟨p, sg, ra, ba, ca, n, m, N, n + j, tb, cs, by rw [Int.natCast_add]; rfl, p2, hc.kp0 k2, hk, z, hB, zc, fun H3 v k3 r3 => ?_⟩
      refine ⟨y', v, 1, mult m tb cs (n + j), 1, 1468, rfl, rg.kp0 k3, r3, sz_one (Nat.le_refl _), mult_sz9 z hk hB zc, by decide, by decide, by decide, trivial, fun H4 u k4 r4 => hR u H4 (kT.trans (k3.trans k4)) ?_⟩
      have r5 : RatAt H4 u (1 * mult m tb cs (n + j)) := r4
      rw [Rat.one_mul] at r5
      exact r5
    · intro H1 acc k1 hA hl hx
      exact q H1 D k1 ⟨acc, hA, by omega, hx⟩
abbrev NAmounts : List Str := ["self", "found", "j", "row", "k"]
theorem scAmounts : FnScope NAmounts ["self"] (defScope mAmounts) := ⟨rfl, rfl, rfl, by decide +kernel, rfl, by decide +kernel, by decide +kernel⟩
theorem ok_amounts (F : Fun K "amounts" "Program.amounts" mAmounts f fd) (T : Tx K mg) (c : Cf K C) : FnOk P w K mg base CX0 1 f fd ["self"] (spAmounts C) := by
  refine F.ok scAmounts (fun vs H Q E h => ?_) (fun cdv A' outer s H vs Q E hr h => ?_)
  · obtain ⟨p, sg, ra, ba, n, m, s, rfl, _⟩ := h
    rfl
  · obtain ⟨p, sg, ra, ba, n, m, tb, rfl, hp, z, hB, inj, q⟩ := h
    refine ⟨_, (pss_cons (ps_setLc (i := 1) (own := [("k", 4)]) (g := gName 4) (tt := tYes) rfl scAmounts.nd rfl rfl (sw_true rfl rfl rfl (by decide +kernel)) (pi_range1 (by rfl) T.range (pa_cons (pe_fldS c.cl c.nM (pv 0)) pa_nil)) (blkOk_by (own := [("k", 4)]) (N := NAmounts) (sc := defScope mAmounts) (by decide +kernel)) (fun _ _ _ _ _ => (pg_name (i := 4) scAmounts.nd rfl (Or.inl rfl))) (fun _ _ _ _ _ => pts_nil) (fun _ _ _ _ _ => by exact (pe_tup (pa_cons pe_int (pa_cons pe_int pa_nil)))))
      (pss_cons (ps_for PassesOwn.never rfl (pi_enumS (by rfl) T.enumerate (pa_cons (pe_fldS c.cl c.nR (pv 0)) pa_nil)) (pg_tupS (pgs_cons (pg_name (i := 2) scAmounts.nd rfl (Or.inl rfl)) (pgs_cons (pg_name (i := 3) scAmounts.nd rfl (Or.inl rfl)) pgs_nil)))
        (pss_one (ps_if (pt_cmpR op_lt (pe_ix ix_listS (pe_fldS c.cl c.nB (pv 0)) (pv 2) (by intro _ _; rfl)) (pe_fldS c.cl c.nM (pv 0)) (nomark _))
          (pss_one (ps_asg (pe_ix ix_listS (pv 3) (pe_un un_neg pe_int) (by intro _ _; rfl)) (pg_sub (pv 1) (pe_ix ix_listS (pe_fldS c.cl c.nB (pv 0)) (pv 2) (by intro _ _; rfl)) set_list)))
          pss_nil)))
      (pss_one (ps_ret (pv 1))))), ?_⟩
    obtain ⟨dx, e0⟩ := hp.obj
    obtain ⟨rs, er, lr, xr⟩ := hp.rws
    refine ⟨_, rfl, p, dx, _, _, rfl, e0, pf_many _ _ _ _, _, rfl, by have := z.n9; omega, by have := z.n9; omega, fun D hD => lc_made walk_range (fun j H v => RatAt H v 0) (ratAt_E fun _ => 0) hD (by simp; exact small1000 (by have := z.n9; omega)) (fun _ _ => trivial) ?_ (fun _ _ _ _ => gName_mono) ?_⟩
    · rintro j x H1 H2 R hj k1 ⟨rfl, rfl⟩ hR
      exact ⟨rfl, by show 2 ≤ sizeLine; decide, fun a ha => hR _ _ (.new ha) (.new upd_same)⟩
    · intro H1 acc k1 hA hl hx
      have p1 := hp.kp0 k1
      have hl2 : acc.length = n := by rw [hl]; simp
      refine ⟨_, rfl, p, dx, _, _, rfl, k1 _ _ e0 (by simp), pf_rows _ _ _ _, ra, rs, rfl, k1 _ _ er (by simp), for_it (walk_enum (K := K) (a := ra) (xs := rs)) (fun i σ H' => ∃ o2 o3 : Option V, σ = [some (.ref p), some (.ref D), o2, o3, none] ∧ Kp [] H H' ∧
          ∃ vs, H' D = some (.lst vs) ∧ RLs H' vs n (fun x => S i (fun j => if tb.B j = x then tb.T j (n + m) else 0)))
        ⟨none, none, rfl, k1, acc, hA, hl2, hx⟩ (fun i σ H' _ ⟨_, _, _, kk, _⟩ => SqL.of (kk _ _ er (by simp))) ?_ ?_⟩
      · rintro i x σ H2 H3 hi ⟨o2, o3, rfl, k2, vs, hv, rv⟩ ⟨T', x', y', rfl, hT, rfl, ex, ey⟩
        cases ex
        have hi2 : i < m := by omega
        have kT : Kp [] H2 (upd H2 T' (.tup [.int ((i : Nat) : Int), y'])) := .new hT
        have pT : upd H2 T' (.tup [.int ((i : Nat) : Int), y']) T' = some (.tup [.int ((i : Nat) : Int), y']) := upd_same
        generalize upd H2 T' (.tup [.int ((i : Nat) : Int), y']) = H3 at kT pT ⊢
        have k3 := k2.trans kT
        have p3 := hp.kp0 k3
        obtain ⟨dx3, e3⟩ := p3.obj
        obtain ⟨bs, eb, lb, xb⟩ := p3.bas
        obtain ⟨r, rfl, _, _, rr⟩ := xr i y' ey
        obtain ⟨rvs, erv, lrv, xrv⟩ := rr.kp0 k3
        have eL : rvs[n + m]? = some rvs[n + m] := List.getElem?_eq_getElem (by omega)
        have rL := xrv _ _ eL
        have eB : bs[i]? = some (.int ((tb.B i : Nat) : Int)) := by
          have e : bs[i]? = some bs[i] := List.getElem?_eq_getElem (by omega)
          rw [e, xb i _ e]
        have hBi := hB i hi2
        have hv3 := kT _ _ hv (by simp)
        refine ⟨T', _, rfl, pT, rfl, _, _, rfl, _, _, rfl, rfl, ?_⟩
        refine ⟨_, rfl, p, dx3, _, _, rfl, e3, pf_basis _ _ _ _, _, rfl, ba, bs, _, _, rfl, rfl, eb, atI_nat eB, _, rfl, p, dx3, _, _, rfl, e3, pf_many _ _ _ _, _, _, rfl, rfl, _, rfl, ?_⟩
        rw [decide_eq_true (show ((tb.B i : Nat) : Int) < ((n : Nat) : Int) by omega)]
        refine iteT ?_
        refine ⟨_, rfl, _, rfl, r, rvs, _, rvs[n + m], rfl, rfl, erv, atI_neg1 lrv eL, _, rfl, _, rfl, p, dx3, _, _, rfl, e3, pf_basis _ _ _ _, _, rfl, ba, bs, _, _, rfl, rfl, eb, atI_nat eB, D, vs, _, tb.B i, rfl, rfl, hv3, ixN_nat (by rw [rv.1]; exact hBi), ?_⟩
        have kw : Kp [D] H3 (upd H3 D (.lst (vs.set (tb.B i) rvs[n + m]))) := .wr (by simp)
        have mw : Mu [D] H3 := .one hv3 trivial
        refine ⟨_, _, rfl, k3.wr0 hD, _, upd_same, by rw [List.length_set]; exact rv.1, fun x v ev => ?_⟩
        by_cases hx2 : x = tb.B i
        · rw [hx2, List.getElem?_set_self (by rw [rv.1]; exact hBi)] at ev
          cases ev
          have es : S (i + 1) (fun j => if tb.B j = x then tb.T j (n + m) else 0) = tb.T i (n + m) := by
            refine (S_one (j := i) (Nat.lt_succ_self i) fun j hj hji => if_neg fun e => hji (inj j i (by omega) hi2 (by rw [e, hx2]))).trans ?_
            exact if_pos hx2.symm
          show RatAt _ _ (S (i + 1) (fun j => if tb.B j = x then tb.T j (n + m) else 0))
          rw [es]
          exact rL.kp kw mw
        · rw [List.getElem?_set_ne (Ne.symm hx2)] at ev
          have es : S (i + 1) (fun j => if tb.B j = x then tb.T j (n + m) else 0) = S i (fun j => if tb.B j = x then tb.T j (n + m) else 0) := by
            show S i _ + (if tb.B i = x then _ else 0) = _
            rw [if_neg (Ne.symm hx2)]
            exact Rat.add_zero _
          show RatAt _ _ (S (i + 1) (fun j => if tb.B j = x then tb.T j (n + m) else 0))
          rw [es]
          exact ((rv.2 x v ev).kp0 kT).kp kw mw
      · rintro σ H2 ⟨o2, o3, rfl, k2, vs, hv, rv⟩
        rw [lr] at rv
        exact ⟨_, rfl, q H2 D k2 ⟨vs, hv, rv⟩⟩
end
end Wk

/-! ## WTurn -/
set_option Elab.async false
set_option linter.all false
set_option maxRecDepth 100000
set_option maxHeartbeats 4000000
namespace Wk
open PySem L2 Wt
theorem walk_range0 {n : Nat} : Walk (Itr 0 n) n (fun _ => True) (YFn fun i => .int ((i : Nat) : Int)) := walk_range.mono (fun _ h => h) fun i H x H' _ _ h => ⟨h.1, by
  rw [h.2]
  show V.int (0 + ((i : Nat) : Int)) = V.int ((i : Nat) : Int)
  rw [Int.zero_add]⟩
def putR (s : Tb) (j : Nat) (g : Nat → Rat) : Tb := ⟨fun i => if i = j then g else s.T i, s.B⟩
theorem putR_same {s : Tb} {j : Nat} {g : Nat → Rat} : (putR s j g).T j = g := if_pos rfl
theorem putR_ne {s : Tb} {j r : Nat} {g : Nat → Rat} (h : r ≠ j) : (putR s j g).T r = s.T r := if_neg h
/-- the table in the midst of a turn: row j is done, and the rows below i -/
def mid (s : Tb) (j k i : Nat) : Tb := ⟨fun r => if r = j then (fun c => s.T j c / s.T j k) else if r < i then (fun c => s.T r c - s.T r k * (s.T j c / s.T j k)) else s.T r, s.B⟩
theorem mid_j {s : Tb} {j k i : Nat} : (mid s j k i).T j = fun c => s.T j c / s.T j k := if_pos rfl
theorem mid_lt {s : Tb} {j k i r : Nat} (h : r ≠ j) (h2 : r < i) : (mid s j k i).T r = fun c => s.T r c - s.T r k * (s.T j c / s.T j k) := (if_neg h).trans (if_pos h2)
theorem mid_ge {s : Tb} {j k i r : Nat} (h : r ≠ j) (h2 : ¬ r < i) : (mid s j k i).T r = s.T r := (if_neg h).trans (if_neg h2)
theorem piv_j {s : Tb} {j k c : Nat} : (piv s j k).T j c = s.T j c / s.T j k := if_pos rfl
theorem piv_ne {s : Tb} {j k c r : Nat} (h : r ≠ j) : (piv s j k).T r c = s.T r c - s.T r k * (s.T j c / s.T j k) := if_neg h
section
variable {C : Addr} {H H' : Hp} {p sg ra ba : Addr} {n m W cr cb : Nat} {s : Tb}
theorem PrAt.congr {s' : Tb} (h : PrAt C H p sg ra ba n m W cr cb s) (hT : ∀ i k, i < cr → k < W → s.T i k = s'.T i k) (hB : ∀ i, i < cb → s.B i = s'.B i) : PrAt C H p sg ra ba n m W cr cb s' := by
  obtain ⟨rs, e2, l2, r2⟩ := h.rws
  obtain ⟨bs, e3, l3, r3⟩ := h.bas
  refine ⟨h.obj, h.sgn, ⟨rs, e2, l2, fun i x e => ?_⟩, ⟨bs, e3, l3, fun i x e => ?_⟩, h.d1, h.d2, h.d3⟩
  · obtain ⟨a, ea, n1, n2, r⟩ := r2 i x e
    have hi : i < cr := by
      have := (List.getElem?_eq_some_iff.mp e).1
      omega
    exact ⟨a, ea, n1, n2, r.congr fun k hk => hT i k hi hk⟩
  · have hi : i < cb := by
      have := (List.getElem?_eq_some_iff.mp e).1
      omega
    rw [← hB i hi]
    exact r3 i x e
theorem PrAt.setRow (h : PrAt C H p sg ra ba n m W cr cb s) {rs : List V} {l : Addr} {g : Nat → Rat} {j : Nat} (e : H ra = some (.lst rs)) (hl : RL H l W g) (n1 : l ≠ ra) (n2 : l ≠ ba) :
    PrAt C (upd H ra (.lst (rs.set j (.ref l)))) p sg ra ba n m W cr cb (putR s j g) := by
  obtain ⟨dx, e1⟩ := h.obj
  obtain ⟨rs', e2, l2, r2⟩ := h.rws
  obtain ⟨bs, e3, l3, r3⟩ := h.bas
  rw [e] at e2
  cases e2
  have k : Kp [ra] H (upd H ra (.lst (rs.set j (.ref l)))) := .wr (by simp)
  have mu : Mu [ra] H := .one e trivial
  refine ⟨⟨dx, k _ _ e1 (by simp; exact ne_of e1 e (by simp))⟩, h.sgn.kp k mu (by simp; exact h.d2), ⟨_, upd_same, by rw [List.length_set, l2], fun i x q => ?_⟩, ⟨bs, k _ _ e3 (by simp; exact h.d1.symm), l3, r3⟩, h.d1, h.d2, h.d3⟩
  have hi : i < rs.length := by
    have := (List.getElem?_eq_some_iff.mp q).1
    rw [List.length_set] at this
    exact this
  by_cases hj : i = j
  · subst hj
    rw [List.getElem?_set_self hi] at q
    cases q
    refine ⟨l, rfl, n1, n2, ?_⟩
    rw [putR_same]
    exact hl.kp k mu (by simp; exact n1)
  · rw [List.getElem?_set_ne (Ne.symm hj)] at q
    obtain ⟨a, ea, m1, m2, r⟩ := r2 i x q
    refine ⟨a, ea, m1, m2, ?_⟩
    rw [putR_ne hj]
    exact r.kp k mu (by simp; exact m1)
theorem PrAt.setBas (h : PrAt C H p sg ra ba n m W cr cb s) {bs : List V} {j k : Nat} (e : H ba = some (.lst bs)) :
    PrAt C (upd H ba (.lst (bs.set j (.int ((k : Nat) : Int))))) p sg ra ba n m W cr cb ⟨s.T, fun i => if i = j then k else s.B i⟩ := by
  obtain ⟨dx, e1⟩ := h.obj
  obtain ⟨rs, e2, l2, r2⟩ := h.rws
  obtain ⟨bs', e3, l3, r3⟩ := h.bas
  rw [e] at e3
  cases e3
  have k : Kp [ba] H (upd H ba (.lst (bs.set j (.int ((k : Nat) : Int))))) := .wr (by simp)
  have mu : Mu [ba] H := .one e trivial
  refine ⟨⟨dx, k _ _ e1 (by simp; exact ne_of e1 e (by simp))⟩, h.sgn.kp k mu (by simp; exact h.d3), ⟨rs, k _ _ e2 (by simp; exact h.d1), l2, fun i x q => ?_⟩, ⟨_, upd_same, by rw [List.length_set, l3], fun i x q => ?_⟩, h.d1, h.d2, h.d3⟩
  · obtain ⟨a, ea, m1, m2, r⟩ := r2 i x q
    exact ⟨a, ea, m1, m2, r.kp k mu (by simp; exact m2)⟩
  · have hi : i < bs.length := by
      have := (List.getElem?_eq_some_iff.mp q).1
      rw [List.length_set] at this
      exact this
    by_cases hj : i = j
    · subst hj
      rw [List.getElem?_set_self hi] at q
      cases q
      show _ = V.int (((if i = i then _ else s.B i) : Nat) : Int)
      rw [if_pos rfl]
    · rw [List.getElem?_set_ne (Ne.symm hj)] at q
      show _ = V.int (((if i = j then _ else s.B i) : Nat) : Int)
      rw [if_neg hj]
      exact r3 i x q
/-- row i, as one finds it -/
theorem PrAt.row (h : PrAt C H p sg ra ba n m W cr cb s) {i : Nat} (hi : i < cr) : ∃ rs a, H ra = some (.lst rs) ∧ rs.length = cr ∧ rs[i]? = some (.ref a) ∧ a ≠ ra ∧ a ≠ ba ∧ RL H a W (s.T i) := by
  obtain ⟨rs, e2, l2, r2⟩ := h.rws
  have e : rs[i]? = some rs[i] := List.getElem?_eq_getElem (by omega)
  obtain ⟨a, ea, n1, n2, r⟩ := r2 i _ e
  exact ⟨rs, a, e2, l2, by rw [e, ea], n1, n2, r⟩
theorem PrAt.base (h : PrAt C H p sg ra ba n m W cr cb s) {i : Nat} (hi : i < cb) : ∃ bs, H ba = some (.lst bs) ∧ bs.length = cb ∧ bs[i]? = some (.int ((s.B i : Nat) : Int)) := by
  obtain ⟨bs, e3, l3, r3⟩ := h.bas
  have e : bs[i]? = some bs[i] := List.getElem?_eq_getElem (by omega)
  exact ⟨bs, e3, l3, by rw [e, r3 i _ e]⟩
end
def spTurn (C : Addr) : Sp := fun vs H Q _ => ∃ (p sg ra ba : Addr) (n m j k : Nat) (s : Tb), vs = [.ref p, .int ((j : Nat) : Int), .int ((k : Nat) : Int)] ∧ PrAt C H p sg ra ba n m (n + m + 1) m m s ∧ Zs n m s ∧ j < m ∧ k < n + m + 1 ∧ s.T j k ≠ 0 ∧
  ∀ H', Kp [ra, ba] H H' → PrAt C H' p sg ra ba n m (n + m + 1) m m (piv s j k) → Q .non H'
section
variable {P : Program} {w : World} {K : PySem.W.Frag} {mg : Str → Option Value} {base : Heap} {f C : Addr} {fd : FuncData}
abbrev NTurn : List Str := ["self", "j", "k", "pivot", "i", "factor", "one", "a", "b"]
theorem scTurn : FnScope NTurn ["self", "j", "k"] (defScope mTurn) := ⟨rfl, rfl, rfl, by decide +kernel, rfl, by decide +kernel, by decide +kernel⟩
theorem ok_turn (F : Fun K "turn" "Program.turn" mTurn f fd) (T : Tx K mg) (c : Cf K C) (h_by : Has P w K mg base 2 "by" N2 (spTwo (fun _ _ => True) (· * ·))) (h_minus : Has P w K mg base 2 "minus" N2 (spTwo (fun _ _ => True) (· - ·)))
    (h_over : Has P w K mg base 2 "over" N2 (spTwo (fun _ q => q ≠ 0) (· / ·))) : FnOk P w K mg base CX0 3 f fd ["self", "j", "k"] (spTurn C) := by
  refine F.ok scTurn (fun vs H Q E h => ?_) (fun cdv A' outer s H vs Q E hr h => ?_)
  · obtain ⟨p, sg, ra, ba, n, m, j, k, s, rfl, _⟩ := h
    rfl
  · obtain ⟨p, sg, ra, ba, n, m, j, k, tb, rfl, hp, z, hj, hk, h0, q⟩ := h
    refine ⟨_, (pss_cons (ps_set (i := 3) scTurn.nd rfl (Or.inr rfl) (pe_ix ix_listS (pe_ix ix_listS (pe_fldS c.cl c.nR (pv 0)) (pv 1) (by intro _ _; rfl)) (pv 2) (by intro _ _; rfl)))
      (pss_cons (ps_asg (pe_lc (own := [("one", 6)]) (g := gName 6) (tt := tYes) rfl scTurn.nd (pi_listS (pe_ix ix_listS (pe_fldS c.cl c.nR (pv 0)) (pv 1) (by intro _ _; rfl))) (blkOk_by (own := [("one", 6)]) (N := NTurn) (sc := defScope mTurn) (by decide +kernel)) (fun _ _ _ _ _ => (pg_name (i := 6) scTurn.nd rfl (Or.inl rfl))) (fun _ _ _ _ _ => pts_nil) (fun _ _ _ _ _ => by exact (pe_callH h_over hr (by rfl) (pa_cons (pv 6) (pa_cons (pv 3) pa_nil))))) (pg_sub (pe_fldS c.cl c.nR (pv 0)) (pv 1) set_list))
      (pss_cons (ps_for PassesOwn.never rfl (pi_range1 (by rfl) T.range (pa_cons (pe_callB call_lenL (by rfl) T.len PySem.boot_len (pa_cons (pe_fldS c.cl c.nR (pv 0)) pa_nil)) pa_nil)) (pg_name (i := 4) scTurn.nd rfl (Or.inl rfl))
        (pss_cons (ps_set (i := 5) scTurn.nd rfl (Or.inr rfl) (pe_ix ix_listS (pe_ix ix_listS (pe_fldS c.cl c.nR (pv 0)) (pv 4) (by intro _ _; rfl)) (pv 2) (by intro _ _; rfl)))
        (pss_one (ps_if (PW.pt (pw_and (pt_cmpR op_ne (pv 4) (pv 1) (nomark _)) (pw_and1 (pt_cmpR op_ne (pe_ix ix_tupS (pv 5) pe_int (by intro _ _; rfl)) pe_int (nomark _)))))
          (pss_one (ps_asg (pe_lc (own := [("a", 7), ("b", 8)]) (g := gTupS 2 (gCons (gName 7) (gCons (gName 8) gNil))) (tt := tYes) rfl scTurn.nd (pi_zipS (by rfl) T.zip (pa_cons (pe_ix ix_listS (pe_fldS c.cl c.nR (pv 0)) (pv 4) (by intro _ _; rfl)) (pa_cons (pe_ix ix_listS (pe_fldS c.cl c.nR (pv 0)) (pv 1) (by intro _ _; rfl)) pa_nil))) (blkOk_by (own := [("a", 7), ("b", 8)]) (N := NTurn) (sc := defScope mTurn) (by decide +kernel)) (fun _ _ _ _ _ => (pg_tupS (pgs_cons (pg_name (i := 7) scTurn.nd rfl (Or.inl rfl)) (pgs_cons (pg_name (i := 8) scTurn.nd rfl (Or.inl rfl)) pgs_nil)))) (fun _ _ _ _ _ => pts_nil) (fun _ _ _ _ _ => by exact (pe_callH h_minus hr (by rfl) (pa_cons (pv 7) (pa_cons (pe_callH h_by hr (by rfl) (pa_cons (pv 5) (pa_cons (pv 8) pa_nil))) pa_nil))))) (pg_sub (pe_fldS c.cl c.nR (pv 0)) (pv 4) set_list)))
          pss_nil))))
      (pss_one (ps_asg (pv 2) (pg_sub (pe_fldS c.cl c.nB (pv 0)) (pv 1) set_list)))))), ?_⟩
    have hW : n + m + 1 < sizeLine := small1000 (by have := z.m9; have := z.n9; omega)
    obtain ⟨dx, e0⟩ := hp.obj
    obtain ⟨rs, aj, er, lr, ej, j1, j2, rj⟩ := hp.row hj
    obtain ⟨jv, jx, ejv, ajx, rjx⟩ := rj.at hk
    -- pivot = self.rows[j][k]
    refine ⟨_, rfl, p, dx, _, _, rfl, e0, pf_rows _ _ _ _, _, rfl, ra, rs, _, .ref aj, rfl, rfl, er, atI_nat ej, _, rfl, aj, jv, _, jx, rfl, rfl, ejv, ajx, ?_⟩
    -- self.rows[j] = [over(one, pivot) ..]
    obtain ⟨jvs, ejs, ljs, xjs⟩ := id rj
    refine ⟨_, rfl, p, dx, _, _, rfl, e0, pf_rows _ _ _ _, _, rfl, ra, rs, _, .ref aj, rfl, rfl, er, atI_nat ej, aj, rfl, ⟨_, ejs⟩, fun D hD => lc_made (walk_list (K := K) (a := aj) (xs := jvs)) (fun i H v => RatAt H v (tb.T j i / tb.T j k)) (ratAt_E fun i => tb.T j i / tb.T j k) hD (by rw [ljs]; exact hW) (fun H k => SqL.of (k _ _ ejs (by simp))) ?_ (fun _ _ _ _ => gName_mono) ?_⟩
    · rintro i x H1 H2 R hi k1 ⟨rfl, hx⟩ hR
      exact ⟨rfl, _, rfl, _, rfl, x, jx, tb.T j i, tb.T j k, 160, 160, rfl, (xjs i x hx).kp0 k1, rjx.kp0 k1, z.sz j i hj (by omega), z.sz j k hj hk, by decide, by decide, by decide, h0, fun H3 v k3 r3 => hR v H3 k3 r3⟩
    · intro H1 acc k1 hA hl hx
      have p1 := hp.kp0 k1
      have e1 := k1 _ _ e0 (by simp)
      have er1 := k1 _ _ er (by simp)
      have rD : RL H1 D (n + m + 1) (fun c => tb.T j c / tb.T j k) := ⟨acc, hA, by omega, hx⟩
      have nD1 : D ≠ ra := (ne_of_none er hD).symm
      have nD2 : D ≠ ba := by
        obtain ⟨bs, eb, _⟩ := hp.bas
        exact (ne_of_none eb hD).symm
      refine ⟨_, rfl, p, dx, _, _, rfl, e1, pf_rows _ _ _ _, _, rfl, ra, rs, _, j, rfl, rfl, er1, ixN_nat (by omega), ?_⟩
      have p2 := (p1.setRow (j := j) er1 rD nD1 nD2).congr (s' := mid tb j k 0) (fun r q hr' hq => by
        by_cases e : r = j
        · rw [e, putR_same, mid_j]
        · rw [putR_ne e, mid_ge e (by omega)]) (fun i hi => rfl)
      have k2 : Kp [ra, ba] H (upd H1 ra (.lst (rs.set j (.ref D)))) := k1.nil.trans (.wr (by simp))
      generalize upd H1 ra (.lst (rs.set j (.ref D))) = H2 at p2 k2 ⊢
      obtain ⟨dx2, e2⟩ := p2.obj
      obtain ⟨rs2, er2, lr2, _⟩ := p2.rws
      have mH : Mu [ra, ba] H := by
        obtain ⟨bs, eb, _⟩ := hp.bas
        exact .two er trivial eb trivial
      -- the loop
      refine ⟨_, rfl, p, dx2, _, _, rfl, e2, pf_rows _ _ _ _, ra, rs2, rfl, er2, _, rfl, by omega, by have := z.m9; omega, for_it walk_range0 (fun i σ H' => ∃ o4 o5 : Option V, σ = [some (.ref p), some (.int ((j : Nat) : Int)), some (.int ((k : Nat) : Int)), some jx, o4, o5, none, none, none] ∧ Kp [ra, ba] H H' ∧
          PrAt C H' p sg ra ba n m (n + m + 1) m m (mid tb j k i)) ⟨none, none, rfl, k2, p2⟩ (fun _ _ _ _ _ => trivial) ?_ ?_⟩
      · rintro i x σ H3 H4 hi ⟨o4, o5, rfl, k3, p3⟩ ⟨rfl, rfl⟩
        have hi2 : i < m := by
          have : (rs2.length : Int).toNat = rs2.length := by omega
          omega
        obtain ⟨dx3, e3⟩ := p3.obj
        obtain ⟨rs3, ai, er3, lr3, ei3, i1, i2, ri⟩ := p3.row hi2
        obtain ⟨iv, ix, eiv, aix, rix⟩ := ri.at hk
        -- factor = self.rows[i][k]
        refine ⟨_, rfl, p, dx3, _, _, rfl, e3, pf_rows _ _ _ _, _, rfl, ra, rs3, _, .ref ai, rfl, rfl, er3, atI_nat ei3, _, rfl, ai, iv, _, ix, rfl, rfl, eiv, aix, ?_⟩
        by_cases hij : i = j
        · refine ⟨_, rfl, _, rfl, rfl, _, rfl, ?_⟩
          rw [decide_eq_true (show V.int ((i : Nat) : Int) = V.int ((j : Nat) : Int) by rw [hij])]
          refine ⟨_, _, rfl, k3, p3.congr (fun r q hr' hq => ?_) fun _ _ => rfl⟩
          by_cases e : r = j
          · rw [e, mid_j, mid_j]
          · by_cases e2 : r < i
            · rw [mid_lt e e2, mid_lt e (by omega)]
            · rw [mid_ge e e2, mid_ge e (by omega)]
        · have eT : (mid tb j k i).T i = tb.T i := by
            exact mid_ge hij (by omega)
          rw [eT] at ri rix
          obtain ⟨ax, rfl, eax⟩ := id rix
          refine ⟨_, rfl, _, rfl, rfl, _, rfl, ?_⟩
          rw [decide_eq_false (show ¬ V.int ((i : Nat) : Int) = V.int ((j : Nat) : Int) from fun z => hij (by injection z with z; omega))]
          refine ⟨_, rfl, ax, qt (tb.T i k), 0, .int (tb.T i k).num, rfl, rfl, eax, rfl, rfl, _, rfl, ?_⟩
          by_cases h0i : (tb.T i k).num = 0
          · rw [decide_eq_true (show V.int (tb.T i k).num = V.int 0 by rw [h0i])]
            have hz : tb.T i k = 0 := Rat.num_eq_zero.mp h0i
            refine ⟨_, _, rfl, k3, p3.congr (fun r q hr' hq => ?_) fun _ _ => rfl⟩
            by_cases e : r = j
            · rw [e, mid_j, mid_j]
            · by_cases e2 : r < i
              · rw [mid_lt e e2, mid_lt e (by omega)]
              · rw [mid_ge e e2]
                by_cases e3 : r < i + 1
                · rw [mid_lt e e3]
                  have e4 : r = i := by omega
                  rw [e4, hz]
                  grind
                · rw [mid_ge e e3]
          · rw [decide_eq_false (show ¬ V.int (tb.T i k).num = V.int 0 from fun z => h0i (by injection z))]
            -- self.rows[i] = [minus(a, by(factor, b)) ..]
            obtain ⟨ivs, eivs, livs, xivs⟩ := id ri
            obtain ⟨rs3', aj3, er3', lr3', ej3, _, _, rj3⟩ := p3.row hj
            rw [er3] at er3'
            cases er3'
            have eTj : (mid tb j k i).T j = fun c => tb.T j c / tb.T j k := mid_j
            rw [eTj] at rj3
            obtain ⟨jvs3, ejv3, ljv3, xjv3⟩ := id rj3
            refine ⟨_, rfl, p, dx3, _, _, rfl, e3, pf_rows _ _ _ _, _, rfl, ra, rs3, _, .ref ai, rfl, rfl, er3, atI_nat ei3, _, rfl, p, dx3, _, _, rfl, e3, pf_rows _ _ _ _, _, rfl, ra, rs3, _, .ref aj3, rfl, rfl, er3, atI_nat ej3, ai, aj3, ivs, jvs3, rfl, eivs, ejv3,
              fun D' hD' => lc_made (walk_zip (K := K) (a := ai) (b := aj3) (xs := ivs) (ys := jvs3) (n := n + m + 1) (by omega)) (fun c H v => RatAt H v (tb.T i c - tb.T i k * (tb.T j c / tb.T j k))) (ratAt_E fun c => tb.T i c - tb.T i k * (tb.T j c / tb.T j k)) hD' hW
                (fun H k => ⟨SqL.of (k _ _ eivs (by simp)), SqL.of (k _ _ ejv3 (by simp))⟩) ?_ (fun _ _ _ _ => gPair_mono) ?_⟩
            · rintro c x H5 H6 R hc k5 ⟨T', x', y', rfl, hT, rfl, ex, ey⟩ hR
              have kT : Kp [] H5 (upd H5 T' (.tup [x', y'])) := .new hT
              have pT : upd H5 T' (.tup [x', y']) T' = some (.tup [x', y']) := upd_same
              generalize upd H5 T' (.tup [x', y']) = H6 at kT pT ⊢
              have k6 := k5.trans kT
              refine ⟨T', _, rfl, pT, rfl, _, _, rfl, _, _, rfl, rfl, rfl, ?_⟩
              have zb := sz_div (z.sz j c hj hc) (z.sz j k hj hk) h0
              refine ⟨_, rfl, _, rfl, _, rfl, .ref ax, y', tb.T i k, tb.T j c / tb.T j k, 160, 320, rfl, rix.kp0 k6, (xjv3 c y' ey).kp0 k6, z.sz i k hi2 hk, zb, by decide, by decide, by decide, trivial, fun H7 v k7 r7 => ?_⟩
              refine ⟨x', v, tb.T i c, tb.T i k * (tb.T j c / tb.T j k), 160, 480, rfl, (xivs c x' ex).kp0 (k6.trans k7), r7, z.sz i c hi2 hc, sz_mul (z.sz i k hi2 hk) zb, by decide, by decide, by decide, trivial, fun H8 u k8 r8 => hR u H8 (kT.trans (k7.trans k8)) r8⟩
            · intro H5 acc5 k5 hA5 hl5 hx5
              have p5 := p3.kp0 k5
              have er5 := k5 _ _ er3 (by simp)
              have rD5 : RL H5 D' (n + m + 1) (fun c => tb.T i c - tb.T i k * (tb.T j c / tb.T j k)) := ⟨acc5, hA5, hl5, hx5⟩
              have nD5 : D' ≠ ra := (ne_of_none er3 hD').symm
              have nD6 : D' ≠ ba := by
                obtain ⟨bs, eb, _⟩ := p3.bas
                exact (ne_of_none eb hD').symm
              refine ⟨_, rfl, p, dx3, _, _, rfl, k5 _ _ e3 (by simp), pf_rows _ _ _ _, _, rfl, ra, rs3, _, i, rfl, rfl, er5, ixN_nat (by omega), ?_⟩
              have p6 := (p5.setRow (j := i) er5 rD5 nD5 nD6).congr (s' := mid tb j k (i + 1)) (fun r q hr' hq => by
                by_cases e : r = j
                · rw [putR_ne (by omega), e, mid_j, mid_j]
                · by_cases e2 : r = i
                  · rw [e2, putR_same, mid_lt hij (by omega)]
                  · rw [putR_ne e2]
                    by_cases e3 : r < i
                    · rw [mid_lt e e3, mid_lt e (by omega)]
                    · rw [mid_ge e e3, mid_ge e (by omega)]) (fun _ _ => rfl)
              exact ⟨_, _, rfl, k3.trans (k5.nil.trans (.wr (by simp))), p6⟩
      · rintro σ H3 ⟨o4, o5, rfl, k3, p3⟩
        obtain ⟨dx3, e3⟩ := p3.obj
        obtain ⟨bs3, eb3, lb3, _⟩ := p3.bas
        -- self.basis[j] = k
        refine ⟨_, rfl, _, rfl, p, dx3, _, _, rfl, e3, pf_basis _ _ _ _, _, rfl, ba, bs3, _, j, rfl, rfl, eb3, ixN_nat (by omega), ?_⟩
        have p4 := (p3.setBas (j := j) (k := k) eb3).congr (s' := piv tb j k) (fun r q hr' hq => by
          have e9 : (((rs2.length : Nat) : Int)).toNat = rs2.length := by omega
          show (mid tb j k _).T r q = _
          by_cases e : r = j
          · rw [e, mid_j, piv_j]
          · rw [mid_lt e (by omega), piv_ne e]) (fun _ _ => rfl)
        exact q _ (k3.trans (.wr (by simp))) p4
end
end Wk

/-! ## WClimb -/
set_option Elab.async false
set_option linter.all false
set_option maxRecDepth 100000
set_option maxHeartbeats 4000000
namespace Wk
open PySem L2 Wt
theorem num_pos' {q : Rat} : 0 < q.num ↔ 0 < q := by
  rw [Rat.lt_iff]
  show _ ↔ (0 : Int) * ((q.den : Nat) : Int) < q.num * ((1 : Nat) : Int)
  rw [Int.zero_mul]
  simp
theorem sz_ib1 {q : Rat} (h : IB 1 q) : Sz 2 q := by
  obtain ⟨z, rfl, hz⟩ := h
  refine ⟨?_, ?_⟩
  · rw [Rat.num_intCast]
    omega
  · rw [Rat.den_intCast]
    decide
/-- the columns that go up, as found so far -/
def Ups (P : Nat → Prop) (i : Nat) (acc : List V) : Prop := acc.length ≤ i ∧ ((acc = [] ∧ ∀ k, k < i → ¬ P k) ∨ ∃ k0 r, acc = .int ((k0 : Nat) : Int) :: r ∧ k0 < i ∧ P k0 ∧ ∀ k, k < k0 → ¬ P k)
theorem Ups.yes {P : Nat → Prop} {i : Nat} {acc : List V} (h : Ups P i acc) (hp : P i) : Ups P (i + 1) (acc ++ [.int ((i : Nat) : Int)]) := by
  obtain ⟨hl, h⟩ := h
  refine ⟨by rw [List.length_append]; exact Nat.succ_le_succ hl, .inr ?_⟩
  rcases h with ⟨rfl, h⟩ | ⟨k0, r, rfl, h1, h2, h3⟩
  · exact ⟨i, [], rfl, Nat.lt_succ_self i, hp, h⟩
  · exact ⟨k0, _, rfl, Nat.lt_succ_of_lt h1, h2, h3⟩
theorem Ups.no {P : Nat → Prop} {i : Nat} {acc : List V} (h : Ups P i acc) (hp : ¬ P i) : Ups P (i + 1) acc := by
  obtain ⟨hl, h⟩ := h
  refine ⟨Nat.le_succ_of_le hl, ?_⟩
  rcases h with ⟨rfl, h⟩ | ⟨k0, r, rfl, h1, h2, h3⟩
  · refine .inl ⟨rfl, fun k hk => ?_⟩
    by_cases e : k = i
    · rw [e]; exact hp
    · exact h k (by omega)
  · exact .inr ⟨k0, r, rfl, Nat.lt_succ_of_lt h1, h2, h3⟩
/-- the best row so far -/
def BestAt (H : Hp) (n m k i : Nat) (s : Tb) (best : V) : Prop :=
  (best = .non ∧ ∀ j, j < i → ¬ 0 < s.T j k) ∨ ∃ (bp : Addr) (hv : V) (jb : Nat), best = .ref bp ∧ H bp = some (.tup [hv, .int ((jb : Nat) : Int)]) ∧ RatAt H hv (s.T jb (n + m) / s.T jb k) ∧ jb < i ∧ 0 < s.T jb k ∧
    ∀ j, j < i → 0 < s.T j k → s.T jb (n + m) / s.T jb k < s.T j (n + m) / s.T j k ∨ (s.T jb (n + m) / s.T jb k = s.T j (n + m) / s.T j k ∧ s.B jb ≤ s.B j)
theorem BestAt.kp0 {H H' : Hp} {n m k i : Nat} {s : Tb} {best : V} (h : BestAt H n m k i s best) (q : Kp [] H H') : BestAt H' n m k i s best := by
  rcases h with h | ⟨bp, hv, jb, e1, e2, e3, r⟩
  · exact .inl h
  · exact .inr ⟨bp, hv, jb, e1, q _ _ e2 (by simp), e3.kp0 q, r⟩
theorem BestAt.skip {H : Hp} {n m k i : Nat} {s : Tb} {best : V} (h : BestAt H n m k i s best) (hi : ¬ 0 < s.T i k) : BestAt H n m k (i + 1) s best := by
  rcases h with ⟨e, h⟩ | ⟨bp, hv, jb, e1, e2, e3, e4, e5, e6⟩
  · refine .inl ⟨e, fun j hj => ?_⟩
    by_cases z : j = i
    · rw [z]; exact hi
    · exact h j (by omega)
  · refine .inr ⟨bp, hv, jb, e1, e2, e3, by omega, e5, fun j hj hp => ?_⟩
    by_cases z : j = i
    · rw [z] at hp; exact absurd hp hi
    · exact e6 j (by omega) hp
/-- what the climb works on -/
structure Cl (n m : Nat) (T0 : Nat → Nat → Rat) (c : Nat → Rat) (s : Tb) : Prop where
  m9 : m ≤ 9
  n9 : n ≤ 900
  bb : ∃ b, Whole n m b T0 ∧ db b m < 2 ^ 160
  good : Good n m T0 s
  feas : Feas n m s
  det : D m T0 s ≠ 0
  neg : ∀ x, c x ≤ 0
  one : ∀ x, IB 1 (c x)
theorem Cl.zs {n m : Nat} {T0 : Nat → Nat → Rat} {c : Nat → Rat} {s : Tb} (h : Cl n m T0 c s) : Zs n m s := by
  obtain ⟨b, h1, h2⟩ := h.bb
  exact ⟨h.m9, h.n9, fun j k hj hk => T_sz h1 h.good h.det h2 hj hk⟩
theorem Cl.step {n m : Nat} {T0 : Nat → Nat → Rat} {c : Nat → Rat} {s : Tb} {k j : Nat} (h : Cl n m T0 c s) (h1 : Enter n m c s k) (h2 : Leave n m s k j) : Cl n m T0 c (piv s j k) := by
  have hp : s.T j k ≠ 0 := by
    have := h2.2.1
    grind
  have hk : k < n + m := by have := h1.1; omega
  refine ⟨h.m9, h.n9, h.bb, good_piv h.good h2.1 hk hp, feas_piv h.feas h2, ?_, h.neg, h.one⟩
  rw [D_piv h.good h2.1 hk]
  have := h.det
  grind
def spClimb (C : Addr) : Sp := fun vs H Q _ => ∃ (p sg ra ba ca : Addr) (n m N : Nat) (s : Tb) (c : Nat → Rat) (T0 : Nat → Nat → Rat), vs = [.ref p, .ref ca, .int ((n : Nat) : Int)] ∧ PrAt C H p sg ra ba n m (n + m + 1) m m s ∧ RL H ca N c ∧ ca ≠ ra ∧ ca ≠ ba ∧ n + m ≤ N ∧ Cl n m T0 c s ∧
  ∀ H' s', Kp [ra, ba] H H' → PrAt C H' p sg ra ba n m (n + m + 1) m m s' → Cl n m T0 c s' → Top n m c s' → ((∀ j, j < m → s.B j < n) → ∀ j, j < m → s'.B j < n) → Q (.bl true) H'
section
variable {P : Program} {w : World} {K : PySem.W.Frag} {mg : Str → Option Value} {base : Heap} {f C : Addr} {fd : FuncData}
abbrev NClimb : List Str := ["self", "costs", "columns", "up", "k", "best", "j", "row", "here"]
theorem scClimb : FnScope NClimb ["self", "costs", "columns"] (defScope mClimb) := ⟨rfl, rfl, rfl, by decide +kernel, rfl, by decide +kernel, by decide +kernel⟩
theorem ok_climb (F : Fun K "climb" "Program.climb" mClimb f fd) (T : Tx K mg) (c : Cf K C) (h_less : Has P w K mg base 1 "less" N2 spLess) (h_over : Has P w K mg base 2 "over" N2 (spTwo (fun _ q => q ≠ 0) (· / ·)))
    (h_multiplier : HasM P w K mg base C 4 "multiplier" ["self", "costs", "k"] (spMult C)) (h_turn : HasM P w K mg base C 4 "turn" ["self", "j", "k"] (spTurn C)) : FnOk P w K mg base CX0 5 f fd ["self", "costs", "columns"] (spClimb C) := by
  refine F.ok scClimb (fun vs H Q E h => ?_) (fun cdv A' outer s H vs Q E hr h => ?_)
  · obtain ⟨p, sg, ra, ba, ca, n, m, N, s, c, T0, rfl, _⟩ := h
    rfl
  · obtain ⟨p, sg, ra, ba, ca, n, m, N, t0, cs, T0, rfl, hp0, hc0, nc1, nc2, hN, cl0, q⟩ := h
    have h_less := h_less.mono (show 1 ≤ 4 by decide)
    have h_over := h_over.mono (show 2 ≤ 4 by decide)
    refine ⟨_, (pss_one (ps_while PassesOwn.never (pt_val pe_bl)
        (pss_cons (ps_setLc (i := 3) (own := [("k", 4)]) (g := gName 4)  rfl scClimb.nd rfl rfl (sw_true rfl rfl rfl (by decide +kernel)) (pi_range1 (by rfl) T.range (pa_cons (pv 2) pa_nil)) (blkOk_by (own := [("k", 4)]) (N := NClimb) (sc := defScope mClimb) (by decide +kernel)) (fun _ _ _ _ _ => (pg_name (i := 4) scClimb.nd rfl (Or.inl rfl))) (fun _ _ _ _ _ => by exact (pts_one (pt_val (pe_callH h_less hr (by rfl) (pa_cons (pe_methH (pv 0) c.cl h_multiplier hr (pa_cons (pv 1) (pa_cons (pv 4) pa_nil))) (pa_cons (pe_ix ix_listS (pv 1) (pv 4) (by intro _ _; rfl)) pa_nil)))))) (fun _ _ _ _ _ => by exact (pv 4)))
        (pss_cons (ps_if (pt_not (pt_truL (pv 3)))
          (pss_one (ps_ret pe_bl))
          pss_nil)
        (pss_cons (ps_par (i := 4) (j := 5) rfl scClimb.nd rfl rfl (by decide) rfl rfl (pa_cons (pe_ix ix_listS (pv 3) pe_int (by intro _ _; rfl)) (pa_cons pe_non pa_nil)) (by rfl))
        (pss_cons (ps_for PassesOwn.never rfl (pi_enumS (by rfl) T.enumerate (pa_cons (pe_fldS c.cl c.nR (pv 0)) pa_nil)) (pg_tupS (pgs_cons (pg_name (i := 6) scClimb.nd rfl (Or.inl rfl)) (pgs_cons (pg_name (i := 7) scClimb.nd rfl (Or.inl rfl)) pgs_nil)))
          (pss_one (ps_if (pt_cmpR op_gt (pe_ix ix_tupS (pe_ix ix_listS (pv 7) (pv 4) (by intro _ _; rfl)) pe_int (by intro _ _; rfl)) pe_int (nomark _))
            (pss_cons (ps_set (i := 8) scClimb.nd rfl (Or.inl rfl) (pe_callH h_over hr (by rfl) (pa_cons (pe_ix ix_listS (pv 7) (pe_un un_neg pe_int) (by intro _ _; rfl)) (pa_cons (pe_ix ix_listS (pv 7) (pv 4) (by intro _ _; rfl)) pa_nil))))
            (pss_one (ps_if (PW.pt (pw_or (pt_cmpR op_isN (pv 5) pe_non (nomark _)) (pw_or (pt_val (pe_callH h_less hr (by rfl) (pa_cons (pv 8) (pa_cons (pe_ix ix_tupS (pv 5) pe_int (by intro _ _; rfl)) pa_nil)))) (pw_or1 (PW.pt (pw_and (pt_cmpR (op_eqQ hr.units) (pv 8) (pe_ix ix_tupS (pv 5) pe_int (by intro _ _; rfl)) (nomark _)) (pw_and1 (pt_cmpR op_lt (pe_ix ix_listS (pe_fldS c.cl c.nB (pv 0)) (pv 6) (by intro _ _; rfl)) (pe_ix ix_listS (pe_fldS c.cl c.nB (pv 0)) (pe_ix ix_tupS (pv 5) pe_int (by intro _ _; rfl)) (by intro _ _; rfl)) (nomark _)))))))))
              (pss_one (ps_set (i := 5) scClimb.nd rfl (Or.inl rfl) (pe_tup (pa_cons (pv 8) (pa_cons (pv 6) pa_nil)))))
              pss_nil)))
            pss_nil)))
        (pss_cons (ps_if (pt_cmpR op_isN (pv 5) pe_non (nomark _))
          (pss_one (ps_ret pe_bl))
          pss_nil)
        (pss_one (ps_expr (pe_methH (pv 0) c.cl h_turn hr (pa_cons (pe_ix ix_tupS (pv 5) pe_int (by intro _ _; rfl)) (pa_cons (pv 4) pa_nil)))))))))))), ?_⟩
    have mH : Mu [ra, ba] H := by
      obtain ⟨rs, er, _⟩ := hp0.rws
      obtain ⟨bs, eb, _⟩ := hp0.bas
      exact .two er trivial eb trivial
    refine ⟨fun mm σ H' => ∃ (o3 o4 o5 o6 o7 o8 : Option V) (tb : Tb) (L : Nat), σ = [some (.ref p), some (.ref ca), some (.int ((n : Nat) : Int)), o3, o4, o5, o6, o7, o8] ∧ Kp [ra, ba] H H' ∧ PrAt C H' p sg ra ba n m (n + m + 1) m m tb ∧ Cl n m T0 cs tb ∧
      Reached n m T0 cs tb L ∧ mm = (n + m) ^ m - L ∧ ((∀ j, j < m → t0.B j < n) → ∀ j, j < m → tb.B j < n), ⟨_, none, none, none, none, none, none, t0, 0, rfl, .refl, hp0, cl0, .start cl0.good cl0.feas, rfl, fun h => h⟩, ?_⟩
    rintro mm σ H1 ⟨o3, o4, o5, o6, o7, o8, tb, L, rfl, k1, hp, cl, rch, rfl, hBs⟩
    refine ⟨true, rfl, iteT ⟨_, fun σ' H' h => h, ?_⟩⟩
    have z := cl.zs
    have hc : RL H1 ca N cs := hc0.kp k1 mH (by simp; exact ⟨nc1, nc2⟩)
    have hB : ∀ j, j < m → tb.B j < N := fun j hj => by have := cl.good.bas j hj; omega
    have zc : ∀ x, x < N → Sz 2 (cs x) := fun x _ => sz_ib1 (cl.one x)
    -- up = [..]
    refine ⟨_, rfl, _, rfl, by have := z.n9; omega, by have := z.n9; omega, fun D' hD' => lc_it (n := n) (walk_range0 (n := n)) (fun i H' => Kp [] H1 H' ∧ ∃ acc, H' D' = some (.lst acc) ∧ Ups (fun k => mult m tb cs k < cs k) i acc)
      ⟨.new hD', [], upd_same, Nat.le_refl _, .inl ⟨rfl, fun k hk => absurd hk (Nat.not_lt_zero _)⟩⟩ (fun _ _ _ _ => trivial) ?_ ?_⟩
    · rintro i x H2 H3 hi ⟨k2, acc, hA, hU⟩ ⟨rfl, rfl⟩
      have p2 := hp.kp0 k2
      obtain ⟨dx2, e2⟩ := p2.obj
      refine ⟨rfl, _, rfl, p, dx2, _, rfl, e2, pf_no _ _ _ _ (by decide +kernel) (by decide +kernel) (by decide +kernel) (by decide +kernel), _, rfl, _, rfl, ?_⟩
      refine ⟨p, sg, ra, ba, ca, n, m, N, i, tb, cs, rfl, p2, hc.kp0 k2, by omega, z, hB, zc, fun H3 v k3 r3 => ?_⟩
      obtain ⟨cv, cx, ecv, acx, rcx⟩ := (hc.kp0 (k2.trans k3)).at (show i < N by omega)
      refine ⟨_, rfl, _, rfl, ca, cv, _, cx, rfl, rfl, ecv, acx, v, cx, mult m tb cs i, cs i, 1468, 2, rfl, r3, rcx, mult_sz9 z (by omega) hB zc, zc i (by omega), by decide, by decide, by decide, fun H4 k4 => ⟨_, rfl, ?_⟩⟩
      have hA4 := k4 _ _ (k3 _ _ hA (by simp)) (by simp)
      by_cases hup : mult m tb cs i < cs i
      · rw [decide_eq_true hup]
        refine iteT ⟨_, rfl, acc, hA4, by have := hU.1; have := z.n9; exact small1000 (by omega), ((k2.trans k3).trans k4).wr0 hD', _, upd_same, hU.yes hup⟩
      · rw [decide_eq_false hup]
        exact iteF ⟨(k2.trans k3).trans k4, acc, hA4, hU.no hup⟩
    · rintro H2 ⟨k2, acc, hA, hU⟩
      have k02 := k1.trans k2.nil
      have p2 := hp.kp0 k2
      refine ⟨_, rfl, D', acc, rfl, hA, ?_⟩
      obtain ⟨_, hU⟩ := hU
      rcases hU with ⟨rfl, hno⟩ | ⟨k, r, rfl, hk, hup, hleast⟩
      · exact iteT (q H2 tb k02 p2 cl hno hBs)
      · refine iteF ?_
        have ent : Enter n m cs tb k := ⟨hk, hup, hleast⟩
        -- k, best = up[0], None
        refine ⟨_, rfl, D', _, 0, .int ((k : Nat) : Int), rfl, rfl, hA, atI_nat (j := 0) rfl, _, _, rfl, ?_⟩
        obtain ⟨dx2, e2⟩ := p2.obj
        obtain ⟨rs, er, lr, xr⟩ := p2.rws
        refine ⟨_, rfl, p, dx2, _, _, rfl, e2, pf_rows _ _ _ _, ra, rs, rfl, er, for_it (walk_enum (K := K) (a := ra) (xs := rs)) (fun i σ H' => ∃ (best : V) (o6 o7 o8 : Option V), σ = [some (.ref p), some (.ref ca), some (.int ((n : Nat) : Int)), some (.ref D'), some (.int ((k : Nat) : Int)), some best, o6, o7, o8] ∧ Kp [] H2 H' ∧ BestAt H' n m k i tb best)
          ⟨.non, _, _, _, rfl, .refl, .inl ⟨rfl, fun j hj => absurd hj (Nat.not_lt_zero _)⟩⟩ (fun i σ H' _ ⟨_, _, _, _, _, kk, _⟩ => SqL.of (kk _ _ er (by simp))) ?_ ?_⟩
        · rintro j x σ H3 H4 hj ⟨best, o6, o7, o8, rfl, k3, hb⟩ ⟨T', x', y', rfl, hT, rfl, ex, ey⟩
          cases ex
          have hj2 : j < m := by omega
          have kT : Kp [] H3 (upd H3 T' (.tup [.int ((j : Nat) : Int), y'])) := .new hT
          have pT : upd H3 T' (.tup [.int ((j : Nat) : Int), y']) T' = some (.tup [.int ((j : Nat) : Int), y']) := upd_same
          generalize upd H3 T' (.tup [.int ((j : Nat) : Int), y']) = H4 at kT pT ⊢
          have k4 := k3.trans kT
          have hb4 := hb.kp0 kT
          have p4 := p2.kp0 k4
          obtain ⟨r', rfl, _, _, rr⟩ := xr j y' ey
          have rr4 := rr.kp0 k4
          obtain ⟨rv, rx, erv, arx, rrx⟩ := rr4.at (show k < n + m + 1 by omega)
          obtain ⟨rvs, erv2, lrv, xrv⟩ := rr4
          rw [erv] at erv2
          cases erv2
          have eL : rv[n + m]? = some rv[n + m] := List.getElem?_eq_getElem (by omega)
          have rL := xrv _ _ eL
          refine ⟨T', _, rfl, pT, rfl, _, _, rfl, _, _, rfl, rfl, ?_⟩
          obtain ⟨ax, rfl, eax⟩ := id rrx
          -- if row[k][0] > 0
          refine ⟨_, rfl, _, rfl, r', rv, _, .ref ax, rfl, rfl, erv, arx, ax, qt (tb.T j k), 0, .int (tb.T j k).num, rfl, rfl, eax, rfl, _, _, rfl, rfl, _, rfl, ?_⟩
          by_cases hpos : 0 < tb.T j k
          · rw [decide_eq_true (show (0 : Int) < (tb.T j k).num from num_pos'.mpr hpos)]
            refine iteT ?_
            have hne : tb.T j k ≠ 0 := by grind
            -- here = over(row[-1], row[k])
            refine ⟨_, rfl, _, rfl, r', rv, _, rv[n + m], rfl, rfl, erv, atI_neg1 lrv eL, _, rfl, _, rfl, r', rv, _, .ref ax, rfl, rfl, erv, arx, rv[n + m], .ref ax, tb.T j (n + m), tb.T j k, 160, 160, rfl, rL, rrx, z.sz j _ hj2 (by omega), z.sz j k hj2 (by omega), by decide, by decide, by decide, hne, fun H5 hv k5 r5 => ?_⟩
            have k45 := k4.trans k5
            have hb5 := hb4.kp0 k5
            have zh := sz_div (z.sz j (n + m) hj2 (by omega)) (z.sz j k hj2 (by omega)) hne
            -- what follows where the row is better, and where it is not
            have yes : ∀ H6, Kp [] H5 H6 → (∀ i, i < j → 0 < tb.T i k → tb.T j (n + m) / tb.T j k < tb.T i (n + m) / tb.T i k ∨ (tb.T j (n + m) / tb.T j k = tb.T i (n + m) / tb.T i k ∧ tb.B j ≤ tb.B i)) → ∀ p', H6 p' = none →
                BestAt (upd H6 p' (.tup [hv, .int ((j : Nat) : Int)])) n m k (j + 1) tb (.ref p') := fun H6 k6 h6 p' hp' => by
              refine .inr ⟨p', hv, j, rfl, upd_same, (r5.kp0 k6).kp0 (.new hp'), Nat.lt_succ_self j, hpos, fun i hi hip => ?_⟩
              by_cases e : i = j
              · rw [e]
                exact .inr ⟨rfl, Nat.le_refl _⟩
              · exact h6 i (by omega) hip
            rcases hb5 with ⟨rfl, hno⟩ | ⟨bp, bv, jb, rfl, ebp, rbv, hjb, hjp, hjall⟩
            · -- best is None
              refine ⟨_, rfl, rfl, _, rfl, iteT ?_⟩
              refine iteT ⟨_, rfl, _, rfl, by show 2 ≤ sizeLine; decide, fun p' hp' => ?_⟩
              exact ⟨_, _, _, _, rfl, k45.trans (.new hp'), yes H5 .refl (fun i hi hip => absurd hip (hno i hi)) p' hp'⟩
            · refine ⟨_, rfl, rfl, _, rfl, iteF ?_⟩
              have hjbne : tb.T jb k ≠ 0 := by grind
              have zb := sz_div (z.sz jb (n + m) (by omega) (by omega)) (z.sz jb k (by omega) (by omega)) hjbne
              refine ⟨_, rfl, _, rfl, bp, _, 0, bv, rfl, rfl, ebp, rfl, hv, bv, _, _, 320, 320, rfl, r5, rbv, zh, zb, by decide, by decide, by decide, fun H6 k6 => ⟨_, rfl, ?_⟩⟩
              have k46 := k45.trans k6
              have hb6 : BestAt H6 n m k j tb (.ref bp) := .inr ⟨bp, bv, jb, rfl, k6 _ _ ebp (by simp), rbv.kp0 k6, hjb, hjp, hjall⟩
              have ebp6 := k6 _ _ ebp (by simp)
              by_cases hlt : tb.T j (n + m) / tb.T j k < tb.T jb (n + m) / tb.T jb k
              · rw [decide_eq_true hlt]
                refine iteT (iteT ⟨_, rfl, _, rfl, by show 2 ≤ sizeLine; decide, fun p' hp' => ?_⟩)
                refine ⟨_, _, _, _, rfl, k46.trans (.new hp'), yes H6 k6 (fun i hi hip => ?_) p' hp'⟩
                rcases hjall i hi hip with h | ⟨h, _⟩
                · exact .inl (by grind)
                · exact .inl (by grind)
              · rw [decide_eq_false hlt]
                refine iteF ⟨_, rfl, _, rfl, bp, _, 0, bv, rfl, rfl, ebp6, rfl, _, _, r5.kp0 k6, rbv.kp0 k6, _, rfl, ?_⟩
                have no : ¬ (tb.T j (n + m) / tb.T j k = tb.T jb (n + m) / tb.T jb k ∧ tb.B j < tb.B jb) → BestAt H6 n m k (j + 1) tb (.ref bp) := fun hn => by
                  refine .inr ⟨bp, bv, jb, rfl, ebp6, rbv.kp0 k6, by omega, hjp, fun i hi hip => ?_⟩
                  by_cases e : i = j
                  · rw [e]
                    by_cases heq : tb.T j (n + m) / tb.T j k = tb.T jb (n + m) / tb.T jb k
                    · exact .inr ⟨heq.symm, Nat.le_of_not_lt fun z => hn ⟨heq, z⟩⟩
                    · exact .inl (by grind)
                  · exact hjall i (by omega) hip
                by_cases heq : tb.T j (n + m) / tb.T j k = tb.T jb (n + m) / tb.T jb k
                · rw [decide_eq_true heq]
                  refine iteT ?_
                  have p6 := p2.kp0 k46
                  obtain ⟨dx6, e6⟩ := p6.obj
                  obtain ⟨bs, eb, lb, ebj⟩ := p6.base hj2
                  obtain ⟨bs', eb', lb', ebb⟩ := p6.base (show jb < m by omega)
                  rw [eb] at eb'
                  cases eb'
                  refine ⟨_, rfl, p, dx6, _, _, rfl, e6, pf_basis _ _ _ _, _, rfl, ba, bs, _, _, rfl, rfl, eb, atI_nat ebj, _, rfl, p, dx6, _, _, rfl, e6, pf_basis _ _ _ _, _, rfl, bp, _, 1, .int ((jb : Nat) : Int), rfl, rfl, ebp6, rfl, ba, bs, _, _, rfl, rfl, eb, atI_nat ebb, _, _, rfl, rfl, _, rfl, ?_⟩
                  by_cases hBl : tb.B j < tb.B jb
                  · rw [decide_eq_true (show ((tb.B j : Nat) : Int) < ((tb.B jb : Nat) : Int) by omega)]
                    refine iteT ⟨_, rfl, _, rfl, by show 2 ≤ sizeLine; decide, fun p' hp' => ?_⟩
                    refine ⟨_, _, _, _, rfl, k46.trans (.new hp'), yes H6 k6 (fun i hi hip => ?_) p' hp'⟩
                    rcases hjall i hi hip with h | ⟨h, h'⟩
                    · exact .inl (by grind)
                    · exact .inr ⟨heq.trans h, by omega⟩
                  · rw [decide_eq_false (show ¬ ((tb.B j : Nat) : Int) < ((tb.B jb : Nat) : Int) by omega)]
                    exact iteF ⟨_, _, _, _, rfl, k46, no fun z => hBl z.2⟩
                · rw [decide_eq_false heq]
                  exact iteF (iteF ⟨_, _, _, _, rfl, k46, no fun z => heq z.1⟩)
          · rw [decide_eq_false (show ¬ (0 : Int) < (tb.T j k).num from fun z => hpos (num_pos'.mp z))]
            exact iteF ⟨_, _, _, _, rfl, k4, hb4.skip hpos⟩
        · rintro σ H3 ⟨best, o6, o7, o8, rfl, k3, hb⟩
          rw [lr] at hb
          rcases hb with ⟨rfl, hno⟩ | ⟨bp, bv, jb, rfl, ebp, rbv, hjb, hjp, hjall⟩
          · obtain ⟨j, hj, hjp⟩ := bounded cl.good cl.neg ent
            exact absurd hjp (hno j hj)
          · refine ⟨_, rfl, rfl, _, rfl, iteF ?_⟩
            have p3 := p2.kp0 k3
            obtain ⟨dx3, e3⟩ := p3.obj
            have lev : Leave n m tb k jb := ⟨hjb, hjp, hjall⟩
            refine ⟨_, rfl, p, dx3, _, rfl, e3, pf_no _ _ _ _ (by decide +kernel) (by decide +kernel) (by decide +kernel) (by decide +kernel), _, rfl, bp, _, 1, .int ((jb : Nat) : Int), rfl, rfl, ebp, rfl, _, rfl, ?_⟩
            refine ⟨p, sg, ra, ba, n, m, jb, k, tb, rfl, p3, z, hjb, by omega, by grind, fun H4 k4 p4 => ?_⟩
            have rch2 := rch.more ent lev
            refine ⟨(n + m) ^ m - (L + 1), by have := rch2.short; omega, _, _, _, _, _, _, piv tb jb k, L + 1, rfl, (k02.trans k3.nil).trans k4, p4, cl.step ent lev, rch2, rfl, fun h j hj => ?_⟩
            show (if j = jb then k else tb.B j) < n
            split
            · exact hk
            · exact hBs h j hj
end
end Wk

/-! ## WLeave -/
set_option Elab.async false
set_option linter.all false
set_option maxRecDepth 100000
set_option maxHeartbeats 4000000
namespace Wk
open PySem L2 Wt
def spLeave (C : Addr) : Sp := fun vs H Q _ => ∃ (p sg ra ba : Addr) (n m : Nat) (s : Tb) (c : Nat → Rat) (A : Nat → Nat → Rat) (b : Nat → Rat), vs = [.ref p] ∧ PrAt C H p sg ra ba n m (n + m + 1) m m s ∧ Cl n m (T0 n m A b) c s ∧
  (∀ j, j < m → n ≤ s.B j → s.T j (n + m) = 0) ∧ (∀ i, i < m → ∃ k, k < n ∧ ∀ i', i' < m → A i' k = if i' = i then 1 else 0) ∧
  ∀ H' s', Kp [ra, ba] H H' → PrAt C H' p sg ra ba n m (n + m + 1) m m s' → Cl n m (T0 n m A b) c s' → (∀ j, j < m → s'.B j < n) → Q .non H'
section
variable {P : Program} {w : World} {K : PySem.W.Frag} {mg : Str → Option Value} {base : Heap} {f C : Addr} {fd : FuncData}
abbrev NLeave : List Str := ["self", "j", "some", "k"]
theorem scLeave : FnScope NLeave ["self"] (defScope mLeave) := ⟨rfl, rfl, rfl, by decide +kernel, rfl, by decide +kernel, by decide +kernel⟩
theorem ok_leave (F : Fun K "leave_help" "Program.leave_help" mLeave f fd) (T : Tx K mg) (c : Cf K C) (h_turn : HasM P w K mg base C 3 "turn" ["self", "j", "k"] (spTurn C)) : FnOk P w K mg base CX0 4 f fd ["self"] (spLeave C) := by
  refine F.ok scLeave (fun vs H Q E h => ?_) (fun cdv A' outer s H vs Q E hr h => ?_)
  · obtain ⟨p, sg, ra, ba, n, m, s, c, A, b, rfl, _⟩ := h
    rfl
  · obtain ⟨p, sg, ra, ba, n, m, t0, cs, A, b, rfl, hp0, cl0, hz0, hu, q⟩ := h
    refine ⟨_, (pss_one (ps_for PassesOwn.never rfl (pi_range3 (by rfl) T.range (pa_cons (pe_op op_sub (pe_callB call_lenL (by rfl) T.len PySem.boot_len (pa_cons (pe_fldS c.cl c.nR (pv 0)) pa_nil)) pe_int) (pa_cons (pe_un un_neg pe_int) (pa_cons (pe_un un_neg pe_int) pa_nil)))) (pg_name (i := 1) scLeave.nd rfl (Or.inr rfl))
        (pss_one (ps_if (pt_cmpR op_ge (pe_ix ix_listS (pe_fldS c.cl c.nB (pv 0)) (pv 1) (by intro _ _; rfl)) (pe_fldS c.cl c.nM (pv 0)) (nomark _))
          (pss_cons (ps_setLc (i := 2) (own := [("k", 3)]) (g := gName 3)  rfl scLeave.nd rfl rfl (sw_true rfl rfl rfl (by decide +kernel)) (pi_range1 (by rfl) T.range (pa_cons (pe_fldS c.cl c.nM (pv 0)) pa_nil)) (blkOk_by (own := [("k", 3)]) (N := NLeave) (sc := defScope mLeave) (by decide +kernel)) (fun _ _ _ _ _ => (pg_name (i := 3) scLeave.nd rfl (Or.inl rfl))) (fun _ _ _ _ _ => by exact (pts_one (pt_cmpR op_ne (pe_ix ix_tupS (pe_ix ix_listS (pe_ix ix_listS (pe_fldS c.cl c.nR (pv 0)) (pv 1) (by intro _ _; rfl)) (pv 3) (by intro _ _; rfl)) pe_int (by intro _ _; rfl)) pe_int (nomark _)))) (fun _ _ _ _ _ => by exact (pv 3)))
          (pss_one (ps_if (pt_truL (pv 2))
            (pss_one (ps_expr (pe_methH (pv 0) c.cl h_turn hr (pa_cons (pv 1) (pa_cons (pe_ix ix_listS (pv 2) pe_int (by intro _ _; rfl)) pa_nil)))))
            (pss_cons (ps_never)
            (pss_one (ps_never))))))
          pss_nil)))), ?_⟩
    obtain ⟨dx, e0⟩ := hp0.obj
    obtain ⟨rs, er, lr, xr⟩ := hp0.rws
    have m9 := cl0.m9
    have n9 := cl0.n9
    refine ⟨_, rfl, p, dx, _, _, rfl, e0, pf_rows _ _ _ _, ra, rs, rfl, er, _, _, rfl, rfl, _, rfl, _, rfl, _, _, _, _, rfl, RgC.neg (by omega) (by omega) (by decide) (by decide),
      for_it walk_rangeC (fun i σ H' => ∃ (o1 o2 o3 : Option V) (tb : Tb), σ = [some (.ref p), o1, o2, o3] ∧ Kp [ra, ba] H H' ∧ PrAt C H' p sg ra ba n m (n + m + 1) m m tb ∧ Cl n m (T0 n m A b) cs tb ∧ (∀ j, j < m → n ≤ tb.B j → tb.T j (n + m) = 0) ∧ ∀ r, r < m → m ≤ r + i → tb.B r < n)
        ⟨none, none, none, t0, rfl, .refl, hp0, cl0, hz0, fun r hr' h => by omega⟩ (fun _ _ _ _ _ => trivial) ?_ ?_⟩
    · rintro i x σ Hq H1 hi ⟨o1, o2, o3, tb, rfl, k1, hp, cl, hz, hB⟩ ⟨rfl, rfl⟩
      have hi2 : i < m := by rw [lr] at hi; omega
      have ej : ((rs.length : Nat) : Int) - 1 + ((i : Nat) : Int) * -1 = ((m - 1 - i : Nat) : Int) := by rw [lr]; omega
      show gName 1 (.int (((rs.length : Nat) : Int) - 1 + ((i : Nat) : Int) * -1)) _ _ _
      rw [ej]
      have hj : m - 1 - i < m := by omega
      generalize hjj : m - 1 - i = j at hj ⊢
      obtain ⟨dx1, e1⟩ := hp.obj
      obtain ⟨bs, eb, lb, ebj⟩ := hp.base hj
      refine ⟨_, rfl, p, dx1, _, _, rfl, e1, pf_basis _ _ _ _, _, rfl, ba, bs, _, _, rfl, rfl, eb, atI_nat ebj, _, rfl, p, dx1, _, _, rfl, e1, pf_many _ _ _ _, _, _, rfl, rfl, _, rfl, ?_⟩
      by_cases hn : n ≤ tb.B j
      · rw [decide_eq_true (show ((n : Nat) : Int) ≤ ((tb.B j : Nat) : Int) by omega)]
        refine iteT ?_
        have z := cl.zs
        -- some = [..]
        refine ⟨_, rfl, p, dx1, _, _, rfl, e1, pf_many _ _ _ _, _, rfl, by omega, by omega, fun D' hD' => lc_it (n := n) (walk_range0 (n := n)) (fun i H' => Kp [] H1 H' ∧ ∃ acc, H' D' = some (.lst acc) ∧ Ups (fun k => tb.T j k ≠ 0) i acc)
          ⟨.new hD', [], upd_same, Nat.le_refl _, .inl ⟨rfl, fun k hk => absurd hk (Nat.not_lt_zero _)⟩⟩ (fun _ _ _ _ => trivial) ?_ ?_⟩
        · rintro k x H2 H3 hk ⟨k2, acc, hA, hU⟩ ⟨rfl, rfl⟩
          have p2 := hp.kp0 k2
          obtain ⟨dx2, e2⟩ := p2.obj
          obtain ⟨rs2, aj, er2, lr2, ej2, _, _, rj⟩ := p2.row hj
          obtain ⟨jv, jx, ejv, ajx, rjx⟩ := rj.at (show k < n + m + 1 by omega)
          obtain ⟨ax, rfl, eax⟩ := id rjx
          refine ⟨rfl, _, rfl, p, dx2, _, _, rfl, e2, pf_rows _ _ _ _, _, rfl, ra, rs2, _, .ref aj, rfl, rfl, er2, atI_nat ej2, _, rfl, aj, jv, _, .ref ax, rfl, rfl, ejv, ajx, ax, qt (tb.T j k), 0, .int (tb.T j k).num, rfl, rfl, eax, rfl, rfl, _, rfl, ?_⟩
          by_cases h0 : (tb.T j k).num = 0
          · rw [decide_eq_true (show V.int (tb.T j k).num = V.int 0 by rw [h0])]
            exact ⟨k2, acc, hA, hU.no fun z => z (Rat.num_eq_zero.mp h0)⟩
          · rw [decide_eq_false (show ¬ V.int (tb.T j k).num = V.int 0 from fun z => h0 (by injection z))]
            exact ⟨_, rfl, acc, hA, by have := hU.1; exact small1000 (by omega), k2.wr0 hD', _, upd_same, hU.yes fun z => h0 (by rw [z]; rfl)⟩
        · rintro H2 ⟨k2, acc, hA, hU⟩
          have p2 := hp.kp0 k2
          obtain ⟨dx2, e2⟩ := p2.obj
          obtain ⟨_, hU⟩ := hU
          refine ⟨_, rfl, D', acc, rfl, hA, ?_⟩
          rcases hU with ⟨rfl, hno⟩ | ⟨k, r, rfl, hk, hup, hleast⟩
          · obtain ⟨k, hk, hne⟩ := way_out cl.good hu hj hn
            exact absurd hne (hno k hk)
          · refine iteT ?_
            refine ⟨_, rfl, p, dx2, _, rfl, e2, pf_no _ _ _ _ (by decide +kernel) (by decide +kernel) (by decide +kernel) (by decide +kernel), _, rfl, _, rfl, D', _, 0, .int ((k : Nat) : Int), rfl, rfl, hA, atI_nat (j := 0) rfl, ?_⟩
            refine ⟨p, sg, ra, ba, n, m, j, k, tb, rfl, p2, z, hj, by omega, hup, fun H3 k3 p3 => ?_⟩
            have hzj := hz j hj hn
            obtain ⟨hb, hf⟩ := feas_zero cl.feas hup hzj
            refine ⟨_, _, _, piv tb j k, rfl, (k1.trans k2.nil).trans k3, p3, ⟨cl.m9, cl.n9, cl.bb, good_piv cl.good hj (by omega) hup, hf, ?_, cl.neg, cl.one⟩, fun r hr' hrn => ?_, fun r hr' hri => ?_⟩
            · rw [D_piv cl.good hj (by omega)]
              have := cl.det
              grind
            · rw [hb]
              by_cases e : r = j
              · rw [e]; exact hzj
              · have : (piv tb j k).B r = tb.B r := if_neg e
                rw [this] at hrn
                exact hz r hr' hrn
            · by_cases e : r = j
              · have : (piv tb j k).B r = k := if_pos e
                rw [this]
                exact hk
              · have : (piv tb j k).B r = tb.B r := if_neg e
                rw [this]
                exact hB r hr' (by omega)
      · rw [decide_eq_false (show ¬ ((n : Nat) : Int) ≤ ((tb.B j : Nat) : Int) by omega)]
        refine iteF ⟨_, _, _, tb, rfl, k1, hp, cl, hz, fun r hr' hri => ?_⟩
        by_cases e : r = j
        · rw [e]; omega
        · exact hB r hr' (by omega)
    · rintro σ H1 ⟨o1, o2, o3, tb, rfl, k1, hp, cl, hz, hB⟩
      exact q H1 tb k1 hp cl fun j hj => hB j hj (by rw [lr]; omega)
end
end Wk

/-! ## WSolved -/
set_option Elab.async false
set_option linter.all false
set_option maxRecDepth 100000
set_option maxHeartbeats 4000000
namespace Wk
open PySem L2 Wt
abbrev dSolved : Stmt := top 16
structure HasMk (P : Program) (w : World) (K : PySem.W.Frag) (mg : Str → Option Value) (base : Heap) (C : Addr) (k : Nat) (x : Str) (ps : List Str) (sp : Sp) : Prop where
  ex : ∃ (f : Addr) (fd : FuncData), Mk K C f ∧ FnOk P w K mg base CX0 k f fd ps sp ∧ mg x = some (.ref C) ∧ Binds K fd ps []
theorem HasM.mono {P : Program} {w : World} {K : PySem.W.Frag} {mg : Str → Option Value} {base : Heap} {C : Addr} {j k : Nat} {x : Str} {ps : List Str} {sp : Sp} (h : HasM P w K mg base C j x ps sp) (l : j ≤ k) : HasM P w K mg base C k x ps sp :=
  let ⟨f, fd, F, r⟩ := h.ex
  ⟨f, fd, F.mono l, r⟩
theorem HasMk.mono {P : Program} {w : World} {K : PySem.W.Frag} {mg : Str → Option Value} {base : Heap} {C : Addr} {j k : Nat} {x : Str} {ps : List Str} {sp : Sp} (h : HasMk P w K mg base C j x ps sp) (l : j ≤ k) : HasMk P w K mg base C k x ps sp :=
  let ⟨f, fd, M, F, r⟩ := h.ex
  ⟨f, fd, M, F.mono l, r⟩
section
variable {X : Cx} {k : Nat} {x : Str} {ps : List Str} {sp : Sp} {e : Expr} {es : List Expr} {t : TA} {p pos : Pos} {C : Addr}
variable {P : Program} {w : World} {K : PySem.W.Frag} {mg : Str → Option Value} {base : Heap} {A : Around}
theorem pe_makeH (h : HasMk P w K mg base C k x ps sp) (hr : Room (k + 1) A) (hg : Gl X x) (ha : PA X (e :: es) t) (hX : X.prog = P ∧ X.w = w ∧ X.K = K ∧ X.mg = mg ∧ X.base = base ∧ X.A = A := by exact ⟨rfl, rfl, rfl, rfl, rfl, rfl⟩) (hdb : (x == ("__debug__" : Str)) = false := by decide)
    (he : starEach (e :: es) X.env = (false, eval e X.env) :: starEach es X.env := by rfl) (hpl : (backTo pos (starEach es X.env)).any (·.1) = false := by rfl) : PE X (.Call (.Name x p) (e :: es) [] pos) (tMake C sp [] E0 t) := by
  obtain ⟨rfl, rfl, rfl, rfl, rfl, rfl⟩ := hX
  obtain ⟨f, fd, M, F, hm, hb⟩ := h.ex
  exact pe_make M F hr hg hm hb .nil pass0 ha hdb he hpl
end
theorem Kp.out {H H1 H2 : Hp} {M : List Addr} (a : Kp [] H H1) (b : Kp M H1 H2) (h : ∀ x ∈ M, H x = Option.none) : Kp [] H H2 := fun c o e _ => b c o (a c o e (by simp)) fun z => by
  rw [h c z] at e
  cases e
theorem two_none {H : Hp} {a b : Addr} (ha : H a = none) (hb : H b = none) : ∀ x ∈ [a, b], H x = none := fun x hx => by
  rcases List.mem_cons.mp hx with e | e
  · rw [e]; exact ha
  · rw [List.mem_singleton.mp e]; exact hb
theorem qtm1 : qt (-1) = [.int (-1), .int 1] := by decide +kernel
theorem Cl.cost {n m : Nat} {T0 : Nat → Nat → Rat} {c c' : Nat → Rat} {s : Tb} (h : Cl n m T0 c s) (h1 : ∀ x, c' x ≤ 0) (h2 : ∀ x, IB 1 (c' x)) : Cl n m T0 c' s := ⟨h.m9, h.n9, h.bb, h.good, h.feas, h.det, h1, h2⟩
/-- a program that can be solved -/
structure Lp (n m : Nat) (A : Nat → Nat → Rat) (b c : Nat → Rat) : Prop where
  m1 : 1 ≤ m
  m9 : m ≤ 9
  n9 : n ≤ 900
  bb : ∃ z, z < 2 ^ 16 ∧ 1 ≤ z ∧ (∀ i k, i < m → k < n → IB z (A i k)) ∧ (∀ i, i < m → IB z (b i)) ∧ db z m < 2 ^ 160
  b0 : ∀ i, i < m → 0 ≤ b i
  c0 : ∀ k, k < n → c k ≤ 0
  c1 : ∀ k, k < n → IB 1 (c k)
  own : ∀ i, i < m → ∃ k, k < n ∧ ∀ i', i' < m → A i' k = if i' = i then 1 else 0
  pt : ∃ x : Nat → Rat, (∀ k, k < n → 0 ≤ x k) ∧ ∀ i, i < m → S n (fun k => T0 n m A b i k * x k) = T0 n m A b i (n + m)
theorem sz_ib {z : Nat} {q : Rat} (h : IB z q) (hz : z < 2 ^ 16) : Sz 16 q := by
  obtain ⟨y, rfl, hy⟩ := h
  refine ⟨?_, ?_⟩
  · rw [Rat.num_intCast]
    omega
  · rw [Rat.den_intCast]
    decide
def spSolved : Sp := fun vs H Q _ => ∃ (ro go ca : Addr) (n m : Nat) (A : Nat → Nat → Rat) (b c : Nat → Rat), vs = [.ref ro, .ref go, .ref ca] ∧ RR H ro m n A ∧ RL H go m b ∧ RL H ca n c ∧ Lp n m A b c ∧
  ∀ (H' : Hp) (a xa ya : Addr) (s : Tb), Kp [] H H' → H' a = some (.tup [.str "best", .ref xa, .ref ya]) → RL H' xa n (amt n m s) → RL H' ya m (pri n m (c2 n c) s) → Cl n m (T0 n m A b) (c2 n c) s → (∀ j, j < m → s.B j < n) → Top n m (c2 n c) s → Q (.ref a) H'
section
variable {P : Program} {w : World} {K : PySem.W.Frag} {mg : Str → Option Value} {base : Heap} {f C : Addr} {fd : FuncData}
abbrev NSolved : List Str := ["rows", "goals", "costs", "program", "helping", "all_costs", "k", "row"]
theorem scSolved : FnScope NSolved ["rows", "goals", "costs"] (defScope dSolved) := ⟨rfl, rfl, rfl, by decide +kernel, rfl, by decide +kernel, by decide +kernel⟩
theorem ok_solved (F : Fun K "solved" "solved" dSolved f fd) (T : Tx K mg) (c : Cf K C) (hM : HasMk P w K mg base C 3 "Program" ["self", "rows", "goals"] (spInit C))
    (h_multiplier : HasM P w K mg base C 4 "multiplier" ["self", "costs", "k"] (spMult C)) (h_climb : HasM P w K mg base C 5 "climb" ["self", "costs", "columns"] (spClimb C)) (h_leave_help : HasM P w K mg base C 4 "leave_help" ["self"] (spLeave C))
    (h_amounts : HasM P w K mg base C 1 "amounts" ["self"] (spAmounts C)) (h_prices : HasM P w K mg base C 5 "prices" ["self", "costs"] (spPrices C)) : FnOk P w K mg base CX0 6 f fd ["rows", "goals", "costs"] spSolved := by
  refine F.ok scSolved (fun vs H Q E h => ?_) (fun cdv A' outer s H vs Q E hr h => ?_)
  · obtain ⟨ro, go, ca, n, m, A, b, c, rfl, _⟩ := h
    rfl
  · obtain ⟨ro, go, ca, n, m, A, b, cs, rfl, hR, hG, hC, lp, q⟩ := h
    have hM := hM.mono (show 3 ≤ 4 by decide)
    have h_multiplier := h_multiplier.mono (show 4 ≤ 5 by decide)
    have h_leave_help := h_leave_help.mono (show 4 ≤ 5 by decide)
    have h_amounts := h_amounts.mono (show 1 ≤ 5 by decide)
    refine ⟨_, (pss_cons (ps_set (i := 3) scSolved.nd rfl (Or.inl rfl) (pe_makeH hM hr (by rfl) (pa_cons (pv 0) (pa_cons (pv 1) pa_nil))))
      (pss_cons (ps_set (i := 4) scSolved.nd rfl (Or.inl rfl) (pe_op op_cat (pe_lc (own := [("k", 6)]) (g := gName 6) (tt := tYes) rfl scSolved.nd (pi_listS (pv 2)) (blkOk_by (own := [("k", 6)]) (N := NSolved) (sc := defScope dSolved) (by decide +kernel)) (fun _ _ _ _ _ => (pg_name (i := 6) scSolved.nd rfl (Or.inl rfl))) (fun _ _ _ _ _ => by exact pts_nil) (fun _ _ _ _ _ => by exact (pe_tup (pa_cons pe_int (pa_cons pe_int pa_nil))))) (pe_lc (own := [("row", 7)]) (g := gName 7) (tt := tYes) rfl scSolved.nd (pi_listS (pv 0)) (blkOk_by (own := [("row", 7)]) (N := NSolved) (sc := defScope dSolved) (by decide +kernel)) (fun _ _ _ _ _ => (pg_name (i := 7) scSolved.nd rfl (Or.inl rfl))) (fun _ _ _ _ _ => by exact pts_nil) (fun _ _ _ _ _ => by exact (pe_tup (pa_cons (pe_un un_neg pe_int) (pa_cons pe_int pa_nil)))))))
      (pss_cons (ps_expr (pe_methH (pv 3) c.cl h_climb hr (pa_cons (pv 4) (pa_cons (pe_fldS c.cl c.nM (pv 3)) pa_nil))))
      (pss_cons (ps_if (pt_cmpR op_lt (pe_ix ix_tupS (pe_methH (pv 3) c.cl h_multiplier hr (pa_cons (pv 4) (pa_cons (pe_op op_add (pe_fldS c.cl c.nM (pv 3)) (pe_callB call_lenL (by rfl) T.len PySem.boot_len (pa_cons (pv 0) pa_nil))) pa_nil))) pe_int (by intro _ _; rfl)) pe_int (nomark _))
        (pss_one (ps_ret (pe_tup (pa_cons pe_str (pa_cons (pe_methH (pv 3) c.cl h_prices hr (pa_cons (pv 4) pa_nil)) pa_nil)))))
        pss_nil)
      (pss_cons (ps_expr (pe_methH0 (pv 3) c.cl h_leave_help hr))
      (pss_cons (ps_set (i := 5) scSolved.nd rfl (Or.inl rfl) (pe_op op_cat (pe_callTy call_listL (by rfl) T.list (by decide +kernel) (pa_cons (pv 2) pa_nil)) (pe_lc (own := [("row", 7)]) (g := gName 7) (tt := tYes) rfl scSolved.nd (pi_listS (pv 0)) (blkOk_by (own := [("row", 7)]) (N := NSolved) (sc := defScope dSolved) (by decide +kernel)) (fun _ _ _ _ _ => (pg_name (i := 7) scSolved.nd rfl (Or.inl rfl))) (fun _ _ _ _ _ => by exact pts_nil) (fun _ _ _ _ _ => by exact (pe_tup (pa_cons pe_int (pa_cons pe_int pa_nil)))))))
      (pss_cons (ps_if (pt_not (pt_val (pe_methH (pv 3) c.cl h_climb hr (pa_cons (pv 5) (pa_cons (pe_fldS c.cl c.nM (pv 3)) pa_nil)))))
        (pss_one (ps_ret (pe_tup (pa_cons pe_str pa_nil))))
        pss_nil)
      (pss_one (ps_ret (pe_tup (pa_cons pe_str (pa_cons (pe_methH0 (pv 3) c.cl h_amounts hr) (pa_cons (pe_methH (pv 3) c.cl h_prices hr (pa_cons (pv 5) pa_nil)) pa_nil))))))))))))), ?_⟩
    have m9 := lp.m9
    have n9 := lp.n9
    obtain ⟨bz, hz1, hz2, hzA, hzb, hdb⟩ := lp.bb
    -- program = Program(rows, goals)
    refine ⟨_, rfl, _, rfl, fun p dx np ndx nex => ?_⟩
    have kp : Kp [] H (upd (upd H dx (.own p)) p (.ins C dx [])) := (Kp.new ndx).wr0 np
    refine ⟨p, dx, ro, go, n, m, A, b, rfl, upd_same, hR.kp0 kp, hG.kp0 kp, lp.m1, by omega, by omega, fun i k hi hk => sz_ib (hzA i k hi hk) hz1, fun i hi => ⟨sz_ib (hzb i hi) hz1, lp.b0 i hi⟩, fun H1 sg ra ba k1 hsg hra hba p1 => ⟨rfl, ?_⟩⟩
    have ra0 : H ra = none := kp.none hra (by simp)
    have ba0 : H ba = none := kp.none hba (by simp)
    have k01 : Kp [] H H1 := kp.out k1 fun x hx => by rw [List.mem_singleton.mp hx]; exact np
    have nn := two_none ra0 ba0
    obtain ⟨rs, er, lr, xr⟩ := hR
    obtain ⟨cv, ec, lc, xc⟩ := id hC
    have ncr : ca ≠ ra := ne_of_none ec ra0
    have ncb : ca ≠ ba := ne_of_none ec ba0
    clear kp k1 hsg hra hba
    -- helping = [(0, 1) for k in costs] + [(-1, 1) for row in rows]
    have ec1 := k01 _ _ ec (by simp)
    refine ⟨_, rfl, ca, rfl, ⟨_, ec1⟩, fun D1 hD1 => lc_made (walk_list (K := K) (a := ca) (xs := cv)) (fun _ H v => RatAt H v 0) (ratAt_E fun _ => 0) hD1 (by rw [lc]; exact small1000 (by omega)) (fun H k => SqL.of (k _ _ ec1 (by simp))) ?_ (fun _ _ _ _ => gName_mono) ?_⟩
    · rintro i x H2 H3 R hi k2 ⟨rfl, hx⟩ hR
      exact ⟨rfl, by show 2 ≤ sizeLine; decide, fun a ha => hR _ _ (.new ha) (.new upd_same)⟩
    intro H2 ac2 k2 hA2 hl2 hx2
    have er2 := (k01.trans k2) _ _ er (by simp)
    refine ⟨_, rfl, ro, rfl, ⟨_, er2⟩, fun D2 hD2 => lc_made (walk_list (K := K) (a := ro) (xs := rs)) (fun _ H v => RatAt H v (-1)) (ratAt_E fun _ => -1) hD2 (by rw [lr]; exact small1000 (by omega)) (fun H k => SqL.of (k _ _ er2 (by simp))) ?_ (fun _ _ _ _ => gName_mono) ?_⟩
    · rintro i x H3 H4 R hi k3 ⟨rfl, hx⟩ hR
      refine ⟨rfl, _, rfl, by show 2 ≤ sizeLine; decide, fun a ha => hR _ _ (.new ha) (.new ?_)⟩
      rw [qtm1]
      exact upd_same
    intro H3 ac3 k3 hA3 hl3 hx3
    refine ⟨D1, D2, ac2, ac3, rfl, rfl, k3 _ _ hA2 (by simp), hA3, by rw [hl2, hl3, lc, lr]; exact Nat.le_of_lt (small1000 (by omega)), fun hl hhl => ?_⟩
    have k4 : Kp [] H3 (upd H3 hl (.lst (ac2 ++ ac3))) := .new hhl
    have eh : upd H3 hl (.lst (ac2 ++ ac3)) hl = some (.lst (ac2 ++ ac3)) := upd_same
    have p3 := p1.kp0 (k2.trans k3)
    have nhr : hl ≠ ra := by
      obtain ⟨z1, z2, _⟩ := p3.rws
      exact (ne_of_none z2 hhl).symm
    have nhb : hl ≠ ba := by
      obtain ⟨z1, z2, _⟩ := p3.bas
      exact (ne_of_none z2 hhl).symm
    generalize upd H3 hl (.lst (ac2 ++ ac3)) = H4 at k4 eh ⊢
    have p4 := p3.kp0 k4
    have k04 : Kp [] H H4 := k01.trans ((k2.trans k3).trans k4)
    have rh : RL H4 hl (n + m) (ch n m) := by
      have r1 : RLs H4 ac2 n (fun _ => 0) := ⟨by rw [hl2, lc], fun i x e => (hx2 i x e).kp0 (k3.trans k4)⟩
      have r2 : RLs H4 ac3 m (fun _ => -1) := ⟨by rw [hl3, lr], fun i x e => (hx3 i x e).kp0 k4⟩
      refine RL.congr ⟨_, eh, r1.app r2⟩ fun i hi => ?_
      show (if i < n then (0 : Rat) else -1) = ch n m i
      unfold ch
      by_cases h : i < n
      · rw [if_pos h, if_pos h]
      · rw [if_neg h, if_neg h, if_pos (by omega)]
    clear hA2 hA3 hx2 hx3 k2 k3 hD1 hD2 er2 ec1 k4 hl2 hl3
    -- program.climb(helping, program.many)
    obtain ⟨dx4, e4⟩ := p4.obj
    have cl4 : Cl n m (T0 n m A b) (ch n m) (s0 n m A b) := ⟨m9, n9, ⟨bz, whole0 hz2 hzA hzb, hdb⟩, good0, feas0 lp.b0, D0, ch_neg, ch_ib⟩
    refine ⟨_, rfl, p, dx4, _, rfl, e4, pf_no _ _ _ _ (by decide +kernel) (by decide +kernel) (by decide +kernel) (by decide +kernel), _, rfl, _, rfl, p, dx4, _, _, rfl, e4, pf_many _ _ _ _, ?_⟩
    refine ⟨p, sg, ra, ba, hl, n, m, n + m, _, ch n m, _, rfl, p4, rh, nhr, nhb, Nat.le_refl _, cl4, fun H5 s1 k5 p5 cl5 top5 _ => ?_⟩
    have mu4 : Mu [ra, ba] H4 := by
      obtain ⟨_, z2, _⟩ := p4.rws
      obtain ⟨_, z3, _⟩ := p4.bas
      exact .two z2 trivial z3 trivial
    have rh5 := rh.kp k5 mu4 (by simp; exact ⟨nhr, nhb⟩)
    have k05 := k04.out k5 nn
    obtain ⟨xp, hxp, hxs⟩ := lp.pt
    obtain ⟨hge, hz⟩ := top1 cl5.good cl5.feas top5 hxp hxs
    -- if program.multiplier(helping, program.many + len(rows))[0] < 0
    obtain ⟨dx5, e5⟩ := p5.obj
    refine ⟨_, rfl, p, dx5, _, rfl, e5, pf_no _ _ _ _ (by decide +kernel) (by decide +kernel) (by decide +kernel) (by decide +kernel), _, rfl, _, rfl, p, dx5, _, _, rfl, e5, pf_many _ _ _ _, _, rfl, ro, rs, rfl, k05 _ _ er (by simp), _, _, rfl, rfl, ?_⟩
    refine ⟨p, sg, ra, ba, hl, n, m, n + m, n + m, s1, ch n m, by rw [lr, Int.natCast_add]; rfl, p5, rh5, by omega, cl5.zs, cl5.good.bas, fun x _ => sz_ib1 (cl5.one x), fun H6 v k6 r6 => ?_⟩
    obtain ⟨av, rfl, eav⟩ := r6
    refine ⟨av, _, 0, _, rfl, rfl, eav, rfl, _, _, rfl, rfl, _, rfl, ?_⟩
    rw [decide_eq_false (show ¬ (mult m s1 (ch n m) (n + m)).num < 0 by have := Rat.num_nonneg.mpr hge; omega)]
    refine iteF ?_
    have p6 := p5.kp0 k6
    have k06 := k05.trans k6
    -- program.leave_help()
    obtain ⟨dx6, e6⟩ := p6.obj
    refine ⟨_, rfl, p, dx6, _, rfl, e6, pf_no _ _ _ _ (by decide +kernel) (by decide +kernel) (by decide +kernel) (by decide +kernel), ?_⟩
    refine ⟨p, sg, ra, ba, n, m, s1, ch n m, A, b, rfl, p6, cl5, hz, lp.own, fun H7 s2 k7 p7 cl7 hB7 => ?_⟩
    have k07 := k06.out k7 nn
    have c2n := c2_neg (n := n) lp.c0
    have c2i := c2_ib (n := n) lp.c1
    have cl7 := cl7.cost c2n c2i
    -- all_costs = list(costs) + [(0, 1) for row in rows]
    have ec7 := k07 _ _ ec (by simp)
    refine ⟨_, rfl, ca, cv, rfl, ec7, fun D3 hD3 => ?_⟩
    have k8 : Kp [] H7 (upd H7 D3 (.lst cv)) := .new hD3
    have e8 : upd H7 D3 (.lst cv) D3 = some (.lst cv) := upd_same
    generalize upd H7 D3 (.lst cv) = H8 at k8 e8 ⊢
    have er8 := (k07.trans k8) _ _ er (by simp)
    refine ⟨_, rfl, ro, rfl, ⟨_, er8⟩, fun D4 hD4 => lc_made (walk_list (K := K) (a := ro) (xs := rs)) (fun _ H v => RatAt H v 0) (ratAt_E fun _ => 0) hD4 (by rw [lr]; exact small1000 (by omega)) (fun H k => SqL.of (k _ _ er8 (by simp))) ?_ (fun _ _ _ _ => gName_mono) ?_⟩
    · rintro i x H9 H10 R hi k9 ⟨rfl, hx⟩ hR
      exact ⟨rfl, by show 2 ≤ sizeLine; decide, fun a ha => hR _ _ (.new ha) (.new upd_same)⟩
    intro H9 ac9 k9 hA9 hl9 hx9
    refine ⟨D3, D4, cv, ac9, rfl, rfl, k9 _ _ e8 (by simp), hA9, by rw [hl9, lc, lr]; exact Nat.le_of_lt (small1000 (by omega)), fun al hal => ?_⟩
    have k10 : Kp [] H9 (upd H9 al (.lst (cv ++ ac9))) := .new hal
    have ea : upd H9 al (.lst (cv ++ ac9)) al = some (.lst (cv ++ ac9)) := upd_same
    have p9 := p7.kp0 (k8.trans k9)
    have nar : al ≠ ra := by
      obtain ⟨z1, z2, _⟩ := p9.rws
      exact (ne_of_none z2 hal).symm
    have nab : al ≠ ba := by
      obtain ⟨z1, z2, _⟩ := p9.bas
      exact (ne_of_none z2 hal).symm
    generalize upd H9 al (.lst (cv ++ ac9)) = H10 at k10 ea ⊢
    have p10 := p9.kp0 k10
    have k710 := (k8.trans k9).trans k10
    have k010 := k07.trans k710
    have ra10 : RL H10 al (n + m) (c2 n cs) := by
      have r1 : RLs H10 cv n cs := ⟨lc, fun i x e => (xc i x e).kp0 k010⟩
      have r2 : RLs H10 ac9 m (fun _ => 0) := ⟨by rw [hl9, lr], fun i x e => (hx9 i x e).kp0 k10⟩
      exact RL.congr ⟨_, ea, r1.app r2⟩ fun i hi => rfl
    -- if not program.climb(all_costs, program.many)
    obtain ⟨dx10, e10⟩ := p10.obj
    refine ⟨_, rfl, p, dx10, _, rfl, e10, pf_no _ _ _ _ (by decide +kernel) (by decide +kernel) (by decide +kernel) (by decide +kernel), _, rfl, _, rfl, p, dx10, _, _, rfl, e10, pf_many _ _ _ _, ?_⟩
    refine ⟨p, sg, ra, ba, al, n, m, n + m, s2, c2 n cs, _, rfl, p10, ra10, nar, nab, Nat.le_refl _, cl7, fun H11 s3 k11 p11 cl11 top11 hB11 => ⟨true, rfl, iteF ?_⟩⟩
    have mu10 : Mu [ra, ba] H10 := by
      obtain ⟨_, z2, _⟩ := p10.rws
      obtain ⟨_, z3, _⟩ := p10.bas
      exact .two z2 trivial z3 trivial
    have ra11 := ra10.kp k11 mu10 (by simp; exact ⟨nar, nab⟩)
    have k011 := k010.out k11 nn
    have hB := hB11 hB7
    -- return ('best', program.amounts(), program.prices(all_costs))
    obtain ⟨dx11, e11⟩ := p11.obj
    refine ⟨_, rfl, p, dx11, _, rfl, e11, pf_no _ _ _ _ (by decide +kernel) (by decide +kernel) (by decide +kernel) (by decide +kernel), ?_⟩
    refine ⟨p, sg, ra, ba, n, m, s3, rfl, p11, cl11.zs, hB, fun i j hi hj e => cl11.good.inj hi hj e, fun H12 xa k12 r12 => ?_⟩
    have p12 := p11.kp0 k12
    obtain ⟨dx12, e12⟩ := p12.obj
    refine ⟨_, rfl, p, dx12, _, rfl, e12, pf_no _ _ _ _ (by decide +kernel) (by decide +kernel) (by decide +kernel) (by decide +kernel), _, rfl, ?_⟩
    refine ⟨p, sg, ra, ba, al, n, m, n + m, s3, c2 n cs, rfl, p12, ra11.kp0 k12, cl11.zs, cl11.good.bas, fun x _ => sz_ib1 (cl11.one x), fun H13 ya k13 r13 => ?_⟩
    refine ⟨by show 3 ≤ sizeLine; decide, fun a ha => ?_⟩
    exact q _ a xa ya s3 (k011.trans ((k12.trans k13).trans (.new ha))) upd_same ((r12.kp0 k13).kp0 (.new ha)) (r13.kp0 (.new ha)) cl11 hB top11
end
end Wk

/-! ## WEnum -/
set_option Elab.async false
set_option linter.all false
set_option maxRecDepth 100000
set_option maxHeartbeats 4000000
namespace Wk
open PySem L2 Wt
/-! ### enumerate(tuple) -/
theorem meets_enumerate_newT {v : Value} {o : Obj} {H : Heap → Prop} (B : Begins v o H) :
    Meets (Builtin.«enumerate.__new__» ⟨[.type "enumerate", v], []⟩) (fun _ R s => H s.heap ∧
      R (.ok (.ret (.ref (s.heap.push o).objs.size))) { s with heap := (s.heap.push o).push { cls := .type "enumerate", data := .fields #[.none, .bool false, .ref s.heap.objs.size, rawInt 0, .none, .none] } }) :=
  .of_wp fun prog w A R s h => by
    obtain ⟨hp, g, d, tk, os⟩ := s
    obtain ⟨h1, h⟩ := h
    have hsub := sub_enumerate
    have q1 : ∀ {A' : Around} {E : Value → Shared → Prop} {Q : Value → Shared → Prop}, Q (.ref hp.objs.size) ⟨hp.push o, g, d, tk, os⟩ → wpAny (model prog w) A' (pyIter v) Q E ⟨hp, g, d, tk, os⟩ :=
      fun q => B.iter prog w _ _ ⟨hp, g, d, tk, os⟩ _ h1 q
    wp_walk using q1
    refine wpAny_stack_any fun st => wpAny_pure ?_
    split
    · rename_i c _ _ _ _ _
      cases (c == Value.type "enumerate")
      · wp_walk using q1
        exact ⟨_, rfl, h⟩
      · wp_walk using q1
        exact ⟨_, rfl, h⟩
    · wp_walk using q1
      exact ⟨_, rfl, h⟩
section
variable {prog : Program} {w : World} {A : Around} {E : Value → Shared → Prop} {s : Shared}
theorem enum_begins1 {v : Value} {o : Obj} {H : Heap → Prop} {Q : Value → Shared → Prop} (B : Begins v o H) (h1 : H s.heap)
    (h : ∀ h', IsEnum h' (s.heap.objs.size + 1) s.heap.objs.size 0 .none → h'.get? s.heap.objs.size = some o → h'.objs.size = s.heap.objs.size + 2 →
      (∀ b o, s.heap.get? b = some o → h'.get? b = some o) → Q (.ref (s.heap.objs.size + 1)) { s with heap := h' }) :
    wpAny (model prog w) A (call (.type "enumerate") [v]) Q E s := by
  refine callType_new F.called_enumerate (by decide) (F.typeCall_enumerate_1 _) (F.newCall_enumerate_1 _) (fun obj => F.args_object_init_2 obj _) F.entry_enumerate_new
    (meets_enumerate_newT B) ⟨h1, ?_⟩
  have hz : (s.heap.push o).objs.size = s.heap.objs.size + 1 := Heap.size_push ..
  show _ ∧ _
  rw [hz]
  have he : IsEnum ((s.heap.push o).push { cls := .type "enumerate", data := .fields #[.none, .bool false, .ref s.heap.objs.size, rawInt 0, .none, .none] }) (s.heap.objs.size + 1) s.heap.objs.size 0 .none := by
    have := Heap.get?_push_size (s.heap.push o) (o := { cls := .type "enumerate", data := .fields #[.none, .bool false, .ref s.heap.objs.size, rawInt 0, .none, .none] }) rfl
    rw [hz] at this; exact this
  refine ⟨⟨_, he, rfl⟩, h _ he (Heap.get?_push_of_some _ (Heap.get?_push_size _ B.free)) (by rw [Heap.size_push, hz]) fun b o x => Heap.get?_push_of_some _ (Heap.get?_push_of_some _ x)⟩
end
/-- the tuple at a, each item in a new pair with its number -/
def Iet (a : Addr) : It :=
  ⟨fun i H => ∃ (xs : List V) (x : V), H a = some (.tup xs) ∧ xs[i]? = some x, fun i H v H' => ∃ T x, v = .ref T ∧ H T = none ∧ H' = upd H T (.tup [.int (i : Nat), x]) ∧ ∀ xs, H a = some (.tup xs) → xs[i]? = some x,
    fun i H => ∃ xs : List V, H a = some (.tup xs) ∧ xs.length ≤ i⟩
theorem turn_enumT {P : Program} {w : World} {K : PySem.W.Frag} {elts : List Expr} {kk : Nat} {tpos : Pos} (a e it : Addr) :
    Turn P w K (.Tuple elts kk tpos) (Iet a) [e, it] e (fun i h => (∃ old, IsEnum h e it ((i : Nat) : Int) old) ∧ h.IsTupleIter it a i ∧ e ≠ it) where
  mem := by simp
  obj := fun i h st b hb => by
    obtain ⟨⟨old, he⟩, ⟨o, ho, hc, hd⟩, _⟩ := st
    have e' : b = e ∨ b = it := by simpa using hb
    rcases e' with z | z
    · rw [z]; exact ⟨_, he, fun v q => nomatch q⟩
    · rw [z]; exact ⟨o, ho, fun v q => by rw [hd] at q; cases q⟩
  keep := fun i h h' st k => let ⟨⟨old, he⟩, hi, hne⟩ := st; ⟨⟨old, k e (by simp) _ he⟩, hi.at fun o q => k it (by simp) o q, hne⟩
  item := by
    intro X hP hw hK hc i pins s σ H E I hf st hg
    subst hP hw hK
    obtain ⟨⟨old, he⟩, hit, hne⟩ := st
    obtain ⟨xs, x, hq, hx⟩ := hg
    obtain ⟨its, rv, p, hz⟩ := I.tuple (SqT.of hq)
    obtain ⟨u, hu, ru⟩ := rv.get hx
    have hel : e < s.heap.objs.size := Heap.lt_size he
    have hil : it < s.heap.objs.size := by obtain ⟨_, q, _⟩ := hit; exact Heap.lt_size q
    have hai : a ≠ it := ne_of_none hq (hf it (by simp)).1
    have hae : a ≠ e := ne_of_none hq (hf e (by simp)).1
    have hlt : i < its.length := by
      have := (List.getElem?_eq_some_iff.mp hu).1
      exact this
    have D := Draws.tuple (prog := X.prog) (w := X.w) (A := X.A.in1) (I.ok.hd hc) it a hai its.toArray
    refine wpAny_pyNext_enum_itemD D he ⟨hit, p⟩ (by simpa using hlt) hne (by simp; exact ⟨hne, hae.symm⟩) fun x2 h' tk hP2 ho hst' hT hsz hk => ?_
    have hxu : x2 = u := by
      have h1 : its[i]? = some x2 := by simpa using hP2
      rw [hu] at h1
      exact (Option.some.inj h1).symm
    subst hxu
    refine ⟨_, rfl, wpAny_letOwnedTupleGo_enum (s := { s with heap := h', toks := tk + 1 }) ho fun h'' he' sb => ?_⟩
    have hT2 : h''.get? s.heap.objs.size = some { cls := .type "tuple", data := .seq #[.int i tk, x2] } := (sb.2 _ (Nat.ne_of_gt hel)).trans hT
    have new : ObjOk X.prog X.w (upd H s.heap.objs.size (.tup [.int (i : Nat), x])) h'' s.heap.objs.size (.tup [.int (i : Nat), x]) :=
      ⟨by show 2 ≤ sizeLine; decide, [.int i tk, x2], .cons ⟨_, rfl⟩ (.cons ru .nil), ⟨_, hT2, rfl, _, rfl⟩⟩
    have I1 : Inv X pins σ (upd H s.heap.objs.size (.tup [.int (i : Nat), x])) { s with heap := h'', toks := tk + 1 } :=
      I.turnedNew (ch := [e, it]) (fun b ob hb q => (sb.2 b (fun z => hb (by simp [z]))).trans (hk b ob (fun z => hb (by simp [z])) (fun z => hb (by simp [z])) q)) hf (Nat.le_refl _) new
    refine ⟨.ref s.heap.objs.size, _, I1, rfl, ⟨_, x, rfl, I.hok.fresh (Nat.le_refl _), rfl, fun ys hy => by rw [hq] at hy; cases hy; exact hx⟩, ⟨⟨x2, ?_⟩, hst'.1.at fun o q => (sb.2 it (Ne.symm hne)).trans q, hne⟩, fun b hb => ?_⟩
    · have e1 : ((i + 1 : Nat) : Int) = (i : Int) + 1 := by omega
      rw [e1]; exact he'
    · have hb' : b < s.heap.objs.size := by
        have e' : b = e ∨ b = it := by simpa using hb
        rcases e' with z | z
        · rw [z]; exact hel
        · rw [z]; exact hil
      rw [upd_ne (Nat.ne_of_lt hb')]
      exact (hf b hb).1
  done := by
    intro X hP hw hK hc i pins s σ H E I hf st hg
    subst hP hw hK
    obtain ⟨⟨old, he⟩, hit, hne⟩ := st
    obtain ⟨xs, hq, hx⟩ := hg
    obtain ⟨its, rv, p, hz⟩ := I.tuple (SqT.of hq)
    obtain ⟨f0, f1, f2, f3, f4, f5⟩ := hf it (by simp)
    have hl := rv.length
    have hai : a ≠ it := ne_of_none hq f0
    have hT : s.TypeIs (.ref e) "enumerate" := ⟨_, he, rfl⟩
    unfold pyNext
    refine wpAny_bind (wpAny_attempt (wpAny_callSpecial?_slot (name := Str.ofString "__next__") hT F.slot_enumerate_next
      (wpAny_call_entry F.slot_enumerate_next hT F.entry_enumerate_next ?_ (F.args_enumerate_next_1 _))))
    show wpAny _ _ (field (.ref e) 2 >>= _) _ _ _
    refine wpAny_bind (wpAny_field he rfl (x := .ref it) rfl ?_)
    refine wpAny_bind (wpAny_nextOf_tuple_end (I.ok.hd hc) hit p (by simp; omega) fun h' x he' hx' => ?_)
    obtain ⟨o, ho, hcl⟩ := hx'
    refine wpAny_bind (wpAny_isInstance (T := "StopIteration") (b := true) ⟨o, ho, hcl⟩ isSubtype_stop ?_)
    exact wpAny_pure ⟨rfl, I.turned (t' := s.toks) (fun b o hb q => he' b o hb q) f0 f1 f3 f4 f5⟩
  self := fun A i s Q E st h => let ⟨⟨_, he⟩, _⟩ := st; wpAny_pyIter_enum he h
def iEnumT (ta : TA) : TI := fun σ H R => ta σ H fun vs H1 => ∃ a xs, vs = [.ref a] ∧ H1 a = some (.tup xs) ∧ R (Iet a) H1
open PySem.Spec PyProof.Rows in
theorem pi_enumT {X : Cx} {e : Expr} {ta : TA} {p pos tpos : Pos} {elts : List Expr} {kk : Nat} (hg : Gl X "enumerate") (hm : X.mg "enumerate" = none) (ha : PA X [e] ta) (hs : starEach [e] X.env = [(false, eval e X.env)] := by rfl) :
    PI X (.Tuple elts kk tpos) (.Call (.Name "enumerate" p) [e] [] pos) (iEnumT ta) := by
  refine ⟨fun pins s σ H R I h => ?_⟩
  refine Call_ (ld_blt I hg hm PyProof.Rows.boot_enumerate (PyProof.Rows.callWith_type1 (thn (ha.run pos pins s σ H _ I h) fun us s1 ⟨vs, H1, I1, r1, q1⟩ => ?_) hs rfl))
  obtain ⟨a, xs, ex, hq, q⟩ := q1
  subst ex
  cases r1 with
  | cons r rr =>
    cases rr
    cases r
    obtain ⟨its, rv, p', hz⟩ := I1.tuple (SqT.of hq)
    refine enum_begins1 (begins_tuple a its.toArray) p' fun h' he hit hsz hk => wpAny_pyIter_enum he ?_
    have I2 : Inv X pins σ H1 { s1 with heap := h' } := I1.kept (t' := s1.toks) hk
    refine ⟨s1.heap.objs.size + 1, [s1.heap.objs.size + 1, s1.heap.objs.size], _, _, H1, rfl, I2, turn_enumT a (s1.heap.objs.size + 1) s1.heap.objs.size, ⟨⟨.none, he⟩, ⟨_, hit, rfl, rfl⟩, Nat.succ_ne_self _⟩, fun b hb => ?_, q⟩
    have e' : b = s1.heap.objs.size + 1 ∨ b = s1.heap.objs.size := by simpa using hb
    have hle : s1.heap.objs.size ≤ b := by
      rcases e' with z | z
      · rw [z]; exact Nat.le_add_right _ _
      · rw [z]; exact Nat.le_refl _
    exact I1.fpOk hle (I1.hok.fresh hle)
theorem walk_enumT {a : Addr} {xs : List V} : Walk (Iet a) xs.length (fun H => H a = some (.tup xs)) (YPair (fun i => some (.int (i : Nat))) (fun i => xs[i]?)) := by
  refine ⟨fun i _ hi q => ⟨xs, xs[i], q, by simp [hi]⟩, fun _ q => ⟨xs, q, Nat.le_refl _⟩, fun i H v H' _ q y => ?_⟩
  obtain ⟨T, x, h1, h2, h3, h4⟩ := y
  exact ⟨T, .int (i : Nat), x, h1, h2, h3, rfl, h4 xs q⟩
end Wk

/-! ## WDict -/
set_option Elab.async false
set_option linter.all false
set_option maxRecDepth 100000
set_option maxHeartbeats 4000000
namespace Wk
open PySem L2 Wt
section
variable {prog : Program} {w : World} {K : Type} [DecidableEq K] {knd : KeyKind prog w K} {A : Around} {E : Value → Shared → Prop} {s : Shared}
theorem wpAny_dictPut_pairs {d : Addr} {kvs : List (K × Value)} {k : K} {key v : Value} {Q : Unit → Shared → Prop} (hkey : knd.is k key = true) (hm : s.heap.DictOf knd d kvs)
    (hQ : ∀ h', h'.DictOf knd d (stored kvs k v) → Heap.SameBut d s.heap h' → Q () { s with heap := h' })
    (hsz : kvs.length ≤ sizeLine := by size_fits) :
    wpAny (model prog w) A (dictPut d (knd.hash k) key v) Q E s := by
  obtain ⟨o, es, ep, ho, hc, hd, hk, hp, hn⟩ := hm
  have hes : es.size ≤ sizeLine := by
    have e1 := hp.length
    have e2 : es.toList.length = es.size := by simp
    omega
  unfold dictPut
  refine wpAny_bind (wpAny_dictFind_of hkey ho hd hk ?_)
  have hidx : (es.findIdx? fun e => knd.is k e.key) = kvs.findIdx? fun kv => decide (kv.1 = k) := by
    rw [← hp.findIdx k]; obtain ⟨l⟩ := es; simp
  cases hi : es.findIdx? fun e => knd.is k e.key with
  | some i =>
    refine wpAny_updateDict ho hd (hQ _ ⟨_, _, ep, Heap.get?_update_self _ ho (Obj.isFreed_of_dict (Obj.data_mapDict hd _)),
      hc.mapDict _, Obj.data_mapDict hd _, hk.modify _ _, ?_, ?_⟩ (Heap.SameBut.update ..))
    · rw [stored, if_pos (any_of_findIdx_some (hidx ▸ hi))]
      have hl : (es.toList.findIdx? fun e => knd.is k e.key) = some i := by rw [← hi]; obtain ⟨l⟩ := es; simp
      have := hp.modify hn hl v
      obtain ⟨l⟩ := es
      simpa using this
    · rw [stored, if_pos (any_of_findIdx_some (hidx ▸ hi)), keys_map_store]; exact hn
  | none =>
    have hnot : k ∉ kvs.map (·.1) := not_mem_of_findIdx_none (hidx ▸ hi)
    have hany : ¬ (kvs.any fun kv => decide (kv.1 = k)) = true := by
      rw [List.any_eq_true]; rintro ⟨kv, hkv, he⟩
      exact hnot (List.mem_map.mpr ⟨kv, hkv, of_decide_eq_true he⟩)
    refine wpAny_updateDictKeys (hz := hes) ho hd (hQ _ ⟨_, _, ep + 1, Heap.get?_update_self _ ho (Obj.isFreed_of_dict (Obj.data_mapDictKeys hd _)),
      hc.mapDictKeys _, Obj.data_mapDictKeys hd _, hk.push hkey _, ?_, ?_⟩ (Heap.SameBut.update ..))
    · rw [stored, if_neg hany]
      have := hp.append hkey (knd.hash k) v
      obtain ⟨l⟩ := es
      simpa using this
    · rw [stored, if_neg hany, List.map_append, List.nodup_append]
      refine ⟨hn, by simp, ?_⟩
      intro a ha b hb
      simp only [List.map_cons, List.map_nil, List.mem_singleton] at hb
      subst hb
      exact fun e => hnot (e ▸ ha)
theorem wpAny_mergeMapping {d o : Addr} {kvs more : List (K × Value)} {Q : Unit → Shared → Prop} (hdo : d ≠ o) (hoS : (o == sysModules) = false)
    (hd : s.heap.DictOf knd d kvs) (ho : s.heap.DictOf knd o more)
    (hQ : ∀ h', h'.DictOf knd d (merged kvs more) → Heap.SameBut d s.heap h' → Q () { s with heap := h' })
    (hsz : kvs.length + more.length ≤ sizeLine) :
    wpAny (model prog w) A (mergeMapping d (.ref o) false) Q E s := by
  obtain ⟨od, esd, epd, hod, hcd, hdd, hkd, hpd, hnd⟩ := id hd
  obtain ⟨oo, eso, epo, hoo, hco, hdo', hko, hpo, hno⟩ := id ho
  have hlen : more.length = eso.size := by rw [← hpo.length]; simp
  unfold mergeMapping
  refine wpAny_bind (wpAny_isInstance ho.typeIs isSubtype_dict_dict ?_)
  rw [if_pos rfl]
  refine wpAny_bind (wpAny_specialOf ho.typeIs F.slot_dict_iter.lookup ?_)
  simp only [beq_self_eq_true, Bool.false_eq_true, if_false]
  refine wpAny_bind (wpAny_pure ?_)
  dsimp only
  rw [if_neg (by rw [hoS]; exact Bool.false_ne_true)]
  have loop : wpAny (model prog w) A (do
      let l ← dictEntries o
      let epoch ← dictEpoch o
      forIn (List.range l.size) PUnit.unit fun i (_ : PUnit) => (do
          let l' ← dictEntries o
          match l'[i]? with
            | some e => do
              holding [e.key, e.val] (dictPut d e.hash e.key e.val)
              let ep' ← dictEpoch o
              if (ep' != epoch) = true then do
                  (unsupported "dict.changed-during-merge" : Sem PUnit)
                  pure (ForInStep.yield PUnit.unit)
                else pure (ForInStep.yield PUnit.unit)
            | _ => do
              (unsupported "dict.changed-during-merge" : Sem PUnit)
              pure (ForInStep.yield PUnit.unit) : Sem (ForInStep PUnit))
      pure ()) Q E s := by
    refine wpAny_bind (wpAny_dictEntries hoo hdo' ?_)
    refine wpAny_bind (wpAny_dictEpoch hoo hdo' ?_)
    refine wpAny_bind ?_
    refine wpAny_forIn_list _
      (fun rest _ s' => ∃ h' i, s' = { s with heap := h' } ∧ rest = List.range' i (eso.size - i) ∧ i ≤ eso.size ∧ h'.DictOf knd d (merged kvs (more.take i)) ∧ h'.get? o = some oo ∧ Heap.SameBut d s.heap h')
      _ ?_ ?_ _ _ ⟨s.heap, 0, rfl, by rw [List.range_eq_range']; rfl, Nat.zero_le _, by simpa [merged] using hd, hoo, Heap.SameBut.refl _ _⟩
    · rintro x rest b s' ⟨h', i, rfl, hr, hi, hd', hoo', hs'⟩
      have hlt : i < eso.size := by
        rcases Nat.lt_or_ge i eso.size with h | h
        · exact h
        · rw [Nat.sub_eq_zero_of_le h] at hr; simp at hr
      obtain ⟨rfl, hrest⟩ : x = i ∧ rest = List.range' (i + 1) (eso.size - (i + 1)) := by
        have e : eso.size - i = (eso.size - (i + 1)) + 1 := by omega
        rw [e, List.range'_succ] at hr
        injection hr with h1 h2
        exact ⟨h1, h2⟩
      refine wpAny_bind (wpAny_dictEntries hoo' hdo' ?_)
      rw [Array.getElem?_eq_getElem hlt]
      obtain ⟨kv, hkv⟩ : ∃ kv, more[x]? = some kv := ⟨more[x]'(by rw [hlen]; exact hlt), List.getElem?_eq_getElem _⟩
      obtain ⟨k, v⟩ := kv
      obtain ⟨hkey, hval⟩ := hpo.get? (e := eso[x]) (by simp [hlt]) hkv
      obtain ⟨k', hkey', hhash⟩ := hko eso[x] (Array.getElem_mem hlt)
      obtain rfl : k' = k := knd.inj _ _ _ hkey' hkey
      show wpAny _ _ (holding [eso[x].key, eso[x].val] (dictPut d eso[x].hash eso[x].key eso[x].val) >>= _) _ _ _
      rw [hhash, hval]
      have hmx : (merged kvs (more.take x)).length ≤ sizeLine := by
        have e1 := merged_length_le kvs (more.take x)
        have e2 : (more.take x).length ≤ more.length := by rw [List.length_take]; omega
        omega
      refine wpAny_bind (wpAny_holding (wpAny_dictPut_pairs (hsz := hmx) hkey hd' fun h'' hd'' hs'' => ?_))
      have hoo'' : h''.get? o = some oo := (hs''.2 o (Ne.symm hdo)).trans hoo'
      refine wpAny_bind (wpAny_dictEpoch hoo'' hdo' ?_)
      rw [if_neg (by simp)]
      exact wpAny_pure ⟨h'', x + 1, rfl, hrest, hlt, by rw [merged_take_succ kvs more x (k', v) hkv]; exact hd'', hoo'', hs'.trans hs''⟩
    · rintro b s' ⟨h', i, rfl, hr, hi, hd', hoo', hs'⟩
      have hin : i = eso.size := by
        rcases Nat.lt_or_ge i eso.size with h | h
        · have e : eso.size - i = (eso.size - (i + 1)) + 1 := by omega
          rw [e, List.range'_succ] at hr; exact nomatch hr
        · exact Nat.le_antisymm hi h
      refine wpAny_pure (hQ h' ?_ hs')
      rw [hin, ← hlen, List.take_length] at hd'; exact hd'
  refine wpAny_bind (wpAny_dictEntries hod hdd ?_)
  split
  · refine wpAny_bind (wpAny_dictEntries hoo hdo' ?_)
    refine wpAny_bind ?_
    rw [← Array.forIn_toList]
    refine wpAny_forIn_list _ (fun rest _ s' => s' = s ∧ ∀ e ∈ rest, e ∈ eso) _ ?_ ?_ _ _ ⟨rfl, fun e he => Array.mem_toList_iff.mp he⟩
    · rintro e rest b s' ⟨rfl, hr⟩
      obtain ⟨k', hkey', _⟩ := hko e (hr e List.mem_cons_self)
      have hv := knd.byValue _ _ hkey'
      cases hk : e.key with
      | ref a => rw [hk] at hv; exact absurd hv (by simp [carriedByValue])
      | _ => exact wpAny_pure ⟨rfl, fun e he => hr e (List.mem_cons_of_mem _ he)⟩
    · rintro b s' ⟨rfl, _⟩
      exact loop
  · exact loop
end
section
variable {X : Cx} {pins : List (Addr × Obj)} {σ : St} {H : Hp} {s : Shared}
/-- {**e, k: v}: a new dict of e's pairs, then the pair (by way of a dict of its own) -/
def tDispStar (te tk tv : TE) : TE := fun σ H Q => ∀ d, H d = none → te σ (upd H d (.dK [])) fun x H1 => ∃ a more, x = .ref a ∧ H1 a = some (.dK more) ∧ H1 d = some (.dK []) ∧ a ≠ d ∧ more.length ≤ 1000 ∧
  ∀ b, upd H1 d (.dK (mergeK [] more)) b = none → tk σ (upd (upd H1 d (.dK (mergeK [] more))) b (.dK [])) fun k H2 => tv σ H2 fun v H3 => ∃ key, k = kV key ∧ H3 b = some (.dK []) ∧ H3 d = some (.dK (mergeK [] more)) ∧
    Q (.ref d) (upd (upd H3 b (.dK (mergeK [] [(key, v)]))) d (.dK (mergeK (mergeK [] more) (mergeK [] [(key, v)]))))
open PySem.Spec PyProof.Rows in
theorem pe_dispStar {X : Cx} {pos : Pos} {e k v : Expr} {te tk tv : TE} (he : PE X e te) (hk : PE X k tk) (hv : PE X v tv) : PE X (.Dict [none, some k] [e, v] pos) (tDispStar te tk tv) := by
  refine ⟨fun pins s σ H Q I q => ?_⟩
  have hn := I.hok.fresh (Nat.le_refl s.heap.objs.size)
  have I1 := I.laid (a := s.heap.objs.size) (o := .dK []) (h' := s.heap.push { cls := .type "dict", data := .dict #[] }) (t' := s.toks) (fun _ _ q => Heap.get?_push_of_some _ q) (Nat.le_refl _) (dk_empty s.heap I.big)
  rw [arm_eval_Dict]
  refine wpAny_bind (wpAny_standAt ?_)
  show wpAny _ _ (dictDisplay [(none, do let x ← eval e X.env; standAt pos; pure x), (some (eval k X.env), do let x ← eval v X.env; standAt pos; pure x)]) _ _ _
  unfold dictDisplay
  dsimp only
  rw [List.forIn_cons]
  refine wpAny_bind (wpAny_bind ?_)
  dsimp only
  refine wpAny_bind ?_
  rw [if_pos (by rfl)]
  refine wpAny_pure ?_
  dsimp only
  refine wpAny_bind (wpAny_alloc ?_)
  refine wpAny_bind (wpAny_holding (wpAny_bind (thn (he.run pins _ σ _ _ I1 (q _ hn)) fun m s2 ⟨x, H1, I2, r1, q1⟩ => ?_)))
  obtain ⟨a, more, ex, ha, hd, nad, hml, q1⟩ := q1
  subst ex
  obtain rfl : m = Value.ref a := r1
  refine wpAny_bind (wpAny_standAt (wpAny_pure ?_))
  obtain ⟨_, hda, vsa, ra, dda⟩ := dk_of I2.hok ha
  obtain ⟨_, hdd, vsd, rd, ddd⟩ := dk_of I2.hok hd
  cases rd
  have hza : vsa.length ≤ 1000 := by rw [← ra.length]; exact hml
  refine wpAny_bind (wpAny_onRaise (wpAny_tryCatch (wpAny_onRaise (wpAny_holding (wpAny_mergeMapping (knd := mixKind X.prog X.w) nad.symm hda ddd dda (fun h' hd' hs' => ?_) (by rw [List.length_nil, Nat.zero_add]; exact Nat.le_of_lt (Nat.lt_of_le_of_lt hza (by decide))))))))
  refine wpAny_pure ?_
  dsimp only
  have hmz : (mergeK [] more).length ≤ sizeLine := by
    have h1 := length_mergeK more []
    rw [List.length_nil] at h1
    have h2 : (1000 : Nat) < sizeLine := by decide
    omega
  have I3 : Inv X pins σ (upd H1 s.heap.objs.size (.dK (mergeK [] more))) { s2 with heap := h', toks := s2.toks } :=
    d_write I2 (by rw [hd]; exact True.intro) hs' (let ⟨q, _, _, hq, _⟩ := hd'; ⟨q, hq⟩) (dk_new hmz hdd (ra.merge .nil) hd')
  rw [List.forIn_cons]
  refine wpAny_bind ?_
  dsimp only
  rw [if_neg (by simp)]
  refine wpAny_pure ?_
  dsimp only
  rw [List.forIn_nil]
  refine wpAny_pure ?_
  dsimp only
  refine wpAny_bind ?_
  rw [if_neg (by simp)]
  refine wpAny_bind (wpAny_holding ?_)
  have hbn := I3.hok.fresh (Nat.le_refl h'.objs.size)
  have I4 := I3.laid (a := h'.objs.size) (o := .dK []) (h' := h'.push { cls := .type "dict", data := .dict #[] }) (t' := s2.toks) (fun _ _ q => Heap.get?_push_of_some _ q) (Nat.le_refl _) (dk_empty h' I3.big)
  refine wpAny_subDict (knd := mixKind X.prog X.w) (by show 1 ≤ 15; decide) ?_
  refine evalPairs_cons (thn (hk.run pins _ σ _ _ I4 (q1 _ hbn)) fun kv s5 ⟨kx, H2, I5, rk, q5⟩ => ?_)
  refine wpAny_bind (thn (hv.run pins s5 σ H2 _ I5 q5) fun vv s6 ⟨vx, H3, I6, rv, q6⟩ => wpAny_bind (wpAny_standAt (wpAny_pure (evalPairs_nil ?_))))
  obtain ⟨key, ek, hb3, hd3, q6⟩ := q6
  subst ek
  obtain ⟨_, hdb, vsb, rb, ddb⟩ := dk_of I6.hok hb3
  cases rb
  obtain ⟨_, hdd3, vsd3, rd3, ddd3⟩ := dk_of I6.hok hd3
  have ndb : s.heap.objs.size ≠ h'.objs.size := fun z => by
    rw [z] at hd3
    rw [← z, upd_same] at hbn
    cases hbn
  refine ⟨[(key, vv)], ⟨kV_is rk, rfl, True.intro⟩, ddb, fun h'' hb'' hs'' => ?_⟩
  have hbz : (mergeK [] [(key, vx)]).length ≤ sizeLine := by
    have h1 := length_mergeK [(key, vx)] []
    have h2 : (1000 : Nat) < sizeLine := by decide
    have h3 : ([] : List (Key × V)).length = 0 := rfl
    have h4 : ([(key, vx)] : List (Key × V)).length = 1 := rfl
    omega
  have rb1 : KV [(key, vx)] [(key, vv)] := .cons ⟨rfl, rv⟩ .nil
  have I7 : Inv X pins σ (upd H3 h'.objs.size (.dK (mergeK [] [(key, vx)]))) { s6 with heap := h'', toks := s6.toks + 1 } :=
    d_write I6 (by rw [hb3]; exact True.intro) hs'' (let ⟨q, _, _, hq, _⟩ := hb''; ⟨q, hq⟩) (dk_new hbz hdb (rb1.merge .nil) hb'')
  have hd7 : upd H3 h'.objs.size (.dK (mergeK [] [(key, vx)])) s.heap.objs.size = some (.dK (mergeK [] more)) := (upd_ne ndb).trans hd3
  obtain ⟨_, hdd7, vsd7, rd7, ddd7⟩ := dk_of I7.hok hd7
  have l7 := rd7.length
  have l8 := (rb1.merge (kvs := []) (vs := []) .nil).length
  have hz7 : (mergeK (mergeK [] more) (mergeK [] [(key, vx)])).length ≤ sizeLine := by
    have h1 := length_mergeK (mergeK [] [(key, vx)]) (mergeK [] more)
    have h2 := length_mergeK more []
    have h3 := length_mergeK [(key, vx)] []
    have h4 : (2000 : Nat) < sizeLine := by decide
    have h5 : ([] : List (Key × V)).length = 0 := rfl
    have h6 : ([(key, vx)] : List (Key × V)).length = 1 := rfl
    omega
  have hz8 : vsd7.length + (merged [] [(key, vv)]).length ≤ sizeLine := by
    have h2 := length_mergeK more []
    have h3 := length_mergeK [(key, vx)] []
    have h4 : (2000 : Nat) < sizeLine := by decide
    have h5 : ([] : List (Key × V)).length = 0 := rfl
    have h6 : ([(key, vx)] : List (Key × V)).length = 1 := rfl
    omega
  refine wpAny_bind (wpAny_onRaise (wpAny_holding (wpAny_mergeMapping (knd := mixKind X.prog X.w) ndb hdb ddd7 hb'' (fun h9 hd9 hs9 => ?_) hz8)))
  refine wpAny_pure ?_
  dsimp only
  refine wpAny_pure ?_
  have I9 : Inv X pins σ (upd (upd H3 h'.objs.size (.dK (mergeK [] [(key, vx)]))) s.heap.objs.size (.dK (mergeK (mergeK [] more) (mergeK [] [(key, vx)])))) { s6 with heap := h9, toks := s6.toks + 1 } :=
    d_write (s := { s6 with heap := h'', toks := s6.toks + 1 }) (t' := s6.toks + 1) I7 (by rw [hd7]; exact True.intro) hs9 (let ⟨q, _, _, hq, _⟩ := hd9; ⟨q, hq⟩) (dk_new hz7 hdd7 ((rb1.merge .nil).merge rd7) hd9)
  exact ⟨.ref s.heap.objs.size, _, I9, rfl, q6⟩
end
end Wk

/-! ## WGen -/
set_option Elab.async false
set_option linter.all false
set_option maxRecDepth 100000
set_option maxHeartbeats 4000000
namespace Wk
open PySem L2 Wt
open PySem.Spec PyProof.Rows
/-! ### all(isinstance(x, tuple) and 1 <= len(x) <= MOST for x in a tuple) -/
section
variable {prog : Program} {w : World} {A : Around} {E : Value → Shared → Prop} {env : Env} {s : Shared}
theorem meta_tuple : typeOf (.type "tuple") = pure (.type "type") := by kernel_rfl
/-- the element, as the generator's own frame sees it -/
theorem elt_side {x K : Str} {b : Addr} {its : List Value} {mg mb m : Str → Option Value} {Q : Value → Shared → Prop} {p1 p2 p3 p4 p5 p6 p7 p8 p9 p10 p11 : Pos} {j : Nat} {q t : Nat}
    (hk : env.scope.kind = .function) (hx : env.scope.names.lookup x = some .local) (h1 : env.kindOf "isinstance" = some .globalImplicit) (h2 : env.kindOf "tuple" = some .globalImplicit) (h3 : env.kindOf "len" = some .globalImplicit) (h4 : env.kindOf K = some .globalImplicit)
    (g : s.heap.Ns env.globals mg) (bb : s.heap.Ns env.builtins mb) (hn : s.heap.Ns env.locals m) (hm : m x = some (.ref b)) (g1 : mg "isinstance" = none) (g2 : mg "tuple" = none) (g3 : mg "len" = none) (g4 : mg K = some (.int q t))
    (hb : ∀ x : Str, x ≠ "__name__" → mb x = bootBuiltins x) (hT : IsTup s.heap b its.toArray) (hl1 : 1 ≤ its.length) (hl2 : its.length ≤ q) (hq : q ≤ 1000) (hd : (x == ("__debug__" : Str)) = false) (hdK : (K == ("__debug__" : Str)) = false)
    (h : ∀ k, Q (.bool true) { s with toks := k }) :
    wpAny (model prog w) A (eval (.BoolOp .And [.Call (.Name "isinstance" p1) [.Name x p2, .Name "tuple" p3] [] p4, .Compare (.Constant (.int 1) j p5) [.LtE, .LtE] [.Call (.Name "len" p6) [.Name x p7] [] p8, .Name K p9] p10] p11) env) Q E s := by
  have sx : ∀ (p : Pos) (s2 : Shared) (R : Value → Shared → Prop), s2.heap = s.heap → R (.ref b) s2 → wpAny (model prog w) A (eval (.Name x p) env) R E s2 := fun p s2 R e r =>
    wpAny_Name (wpAny_loadName_local hk hx (by rw [e]; exact hn) hm r) hd
  refine BoolOp_and ?_
  refine Call_ (Calls.Name_function_global hk h1 (Calls.loadGlobal_builtin g g1 bb ((hb _ (by decide)).trans (by decide +kernel : bootBuiltins "isinstance" = some (.builtin "isinstance"))) ?_) (by decide)) (by rfl)
  refine PyProof.Rows.callWith_builtin1 ?_ (by rfl) (by rfl)
  show wpAny _ _ (spliced [(false, eval (.Name x p2) env), (false, eval (.Name "tuple" p3) env)]) _ _ s
  refine Calls.spliced_cons (sx p2 s _ rfl ?_)
  refine Calls.spliced_cons (Calls.Name_function_global hk h2 (Calls.loadGlobal_builtin g g2 bb ((hb _ (by decide)).trans (by decide +kernel : bootBuiltins "tuple" = some (.type "tuple"))) ?_) (by decide))
  refine Calls.spliced_nil ?_
  refine call_isinstance_yes (Tx := "tuple") (let ⟨_, q1, q2, _⟩ := hT; ⟨_, q1, q2⟩) meta_tuple isSubtype_tuple_tuple ?_
  refine wpAny_truthy_bool ?_
  show if true = true then _ else _
  rw [if_pos rfl]
  refine BoolOp_one ?_
  refine Compare_chain (wpAny_Constant_int ?_) (by rfl)
  refine chain_link ?_
  refine Call_ (Calls.Name_function_global hk h3 (Calls.loadGlobal_builtin g g3 bb ((hb _ (by decide)).trans (by decide +kernel : bootBuiltins "len" = some (.builtin "len"))) ?_) (by decide)) (by rfl)
  refine PyProof.Rows.callWith_builtin1 ?_ (by rfl) (by rfl)
  show wpAny _ _ (spliced [(false, eval (.Name x p7) env)]) _ _ _
  refine Calls.spliced_cons (sx p7 _ _ rfl ?_)
  refine Calls.spliced_nil ?_
  have hz : its.toArray.size = its.length := by simp
  refine len_tuple hT (by rw [hz]; have : its.length ≤ 1000 := by omega
                          omega) ?_
  refine PyProof.Rows.le_int ?_
  rw [hz, decide_eq_true (show (1 : Int) ≤ (its.length : Int) by omega)]
  refine wpAny_truthy_bool ?_
  show if true = true then _ else _
  rw [if_pos rfl]
  refine chain_last ?_
  refine Calls.Name_function_global hk h4 (Calls.loadGlobal_global g g4 ?_) hdK
  refine PyProof.Rows.le_int ?_
  rw [decide_eq_true (show (its.length : Int) ≤ (q : Int) by omega)]
  exact h _
end
section
variable {X : Cx} {pins : List (Addr × Obj)} {σ : L2.St} {H : Hp} {s : Shared}
def ReadyT (X : Cx) (pins : List (Addr × Obj)) (σ : L2.St) (H1 : Hp) (P : Addr) (g : Addr) (s5 : Shared) : Prop :=
  ∃ (fp wr : List Addr) (G : Array GenState → Array GenState → Prop) (F : Nat → Value → Prop) (St : Nat → Shared → Prop) (n : Nat),
    WalksS X.prog X.w X.A.in1 g fp wr G n F St ∧ St 0 s5 ∧
    TruthOf X.prog X.w X.A.in1 F (fun _ => true) ∧
    ∀ s', Moved wr G s5 s' → ∃ H2, GxR.Tabbed P H1 H2 ∧ Inv X pins σ H2 s'
/-- what the walked tuple holds: tuples of 1 to q things -/
def Sides (q : Nat) (H : Hp) (xs : List V) : Prop := ∀ x ∈ xs, ∃ b ys, x = .ref b ∧ H b = some (.tup ys) ∧ 1 ≤ ys.length ∧ ys.length ≤ q
theorem gen_tup {c P : Addr} {iter : Expr} {x K : Str} {px gpos : Pos} {scope : Scope} {te : TE} {k : Nat} {Q' : Value → Shared → Prop} {R : Hp → Prop} {p1 p2 p3 p4 p5 p6 p7 p8 p9 p10 p11 : Pos} {j : Nat} {q t : Nat}
    (hr : Room k X.A) (TB : GxR.TabB X.base X.mg c P) (hcode : X.env.code = .ref c) (S : GxR.GenS X.env scope x) (hi : PE X iter te)
    (n1 : scope.names.lookup ("isinstance" : Str) = some .globalImplicit) (n2 : scope.names.lookup ("tuple" : Str) = some .globalImplicit) (n3 : scope.names.lookup ("len" : Str) = some .globalImplicit) (n4 : scope.names.lookup K = some .globalImplicit)
    (g1 : X.mg "isinstance" = none) (g2 : X.mg "tuple" = none) (g3 : X.mg "len" = none) (g4 : X.mg K = some (.int q t)) (hq : q ≤ 1000) (hd : (x == ("__debug__" : Str)) = false) (hdK : (K == ("__debug__" : Str)) = false)
    (hs : ∀ v, genFold iter X.env v = pure v) (I : Inv X pins σ H s) (h : te σ H fun v H1 => ∃ (yl : Addr) (xs : List V), v = .ref yl ∧ H1 yl = some (.tup xs) ∧ Sides q H1 xs ∧ GxR.TabG H1 P ∧ R H1)
    (hQ : ∀ H1 g s5, R H1 → ReadyT X pins σ H1 P g s5 → Q' (.ref g) s5) :
    wpAny (model X.prog X.w) X.A (eval (.GeneratorExp (.BoolOp .And [.Call (.Name "isinstance" p1) [.Name x p2, .Name "tuple" p3] [] p4, .Compare (.Constant (.int 1) j p5) [.LtE, .LtE] [.Call (.Name "len" p6) [.Name x p7] [] p8, .Name K p9] p10] p11) [⟨.Name x px, iter, [], 0⟩] scope gpos) X.env) Q' X.xe s := by
  refine wpAny_GeneratorExp_walksQ hr.hd S.co (closure_ok S.free) S.cell S.dot S.loc S.kind (by have := hr.dp; omega) ?_ hs
  refine thn (hi.run pins s σ H _ I h) fun xv s1 ⟨v, H1, I1, r1, q1⟩ => ?_
  obtain ⟨yl, xs, rfl, hyl, hS, ⟨ps, hP, ht⟩, q1⟩ := q1
  obtain rfl : xv = Value.ref yl := r1
  obtain ⟨its, rv, hl, hz⟩ := I1.tuple (SqT.of hyl)
  have hIL : s1.heap.IsTuple yl its.toArray := hl
  have hat : ∀ (i : Nat) (v : Value), its.toArray[i]? = some v → ∃ (b : Addr) (us : List Value), v = .ref b ∧ IsTup s1.heap b us.toArray ∧ 1 ≤ us.length ∧ us.length ≤ q := fun i v hv => by
    have hv2 : its[i]? = some v := by simpa using hv
    have hi2 : i < its.length := (List.getElem?_eq_some_iff.mp hv2).1
    have hlen := rv.length
    obtain ⟨y, hy⟩ : ∃ y, xs[i]? = some y := ⟨xs[i]'(by omega), List.getElem?_eq_getElem _⟩
    obtain ⟨b, ys, rfl, hb, l1, l2⟩ := hS y (List.mem_of_getElem? hy)
    obtain ⟨u, hu, ru⟩ := rv.get hy
    rw [hv2] at hu
    cases hu
    obtain rfl : v = Value.ref b := ru
    obtain ⟨us, rus, hb2, _⟩ := I1.tuple (SqT.of hb)
    have := rus.length
    exact ⟨b, us, rfl, hb2, by omega, by omega⟩
  refine wpAny_pyIter_tuple hIL ?_
  generalize ho : ({ cls := .type "tuple_iterator", data := .fields #[.ref yl, .int 0 0] } : Obj) = o
  have hitr : (s1.heap.push o).IsTupleIter s1.heap.objs.size yl 0 := by
    subst ho
    exact ⟨_, Heap.get?_push_size _ rfl, rfl, rfl⟩
  have hylt : yl < s1.heap.objs.size := by
    obtain ⟨_, e, _⟩ := _root_.id hIL
    exact Heap.lt_size e
  have hPs : s1.heap.get? P = some { cls := .none, data := .fields ps } := I1.hok P _ hP
  have hPlt : P < s1.heap.objs.size := Heap.lt_size hPs
  have hP2 : (s1.heap.push o).get? P = some { cls := .none, data := .fields ps } := Heap.get?_push_of_some _ hPs
  have cd : PySem.W.CodeHd (s1.heap.push o) c P := TB.code.keeps fun b u e => Heap.get?_push_of_some _ (I1.bk b u e)
  have lim2 : (s1.heap.push o).NoLimit := I1.nolimit.push o
  have cont : ∀ (code : Value) (h3 : Heap) (tk : Nat) (ps' : Array Value), Heap.ExtBut P (s1.heap.push o) h3 → (s1.heap.push o).objs.size ≤ h3.objs.size → h3.get? P = some { cls := .none, data := .fields ps' } → (∃ more, ps' = ps ++ more) → TriplesOk ps'.toList →
      wpAny (model X.prog X.w) X.A (builtinsFor X.env.globals X.env.builtins) (fun bi s₄ =>
        ∃ Ia fp wr n₀ Pf St₀ pz F, Value.ref s1.heap.objs.size = .ref Ia ∧ (∀ A' : Around, A'.handled = none → Walks X.prog X.w A' Ia fp wr n₀ Pf St₀) ∧ St₀ 0 s₄.heap ∧ (∀ b ∈ fp, b < s₄.heap.objs.size) ∧ s₄.heap.NoLimit ∧ cStatics ∉ wr ∧
          (∀ href : Heap, (∀ b o, s₄.heap.get? b = some o → href.get? b = some o) →
            QuietGen X.prog X.w (genEnv scope (cloFrom X.env.cells scope.names []) s₄.heap.objs.size code bi X.env) x [] (.BoolOp .And [.Call (.Name "isinstance" p1) [.Name x p2, .Name "tuple" p3] [] p4, .Compare (.Constant (.int 1) j p5) [.LtE, .LtE] [.Call (.Name "len" p6) [.Name x p7] [] p8, .Name K p9] p10] p11) (List.range s₄.heap.objs.size) wr Pf pz F href) ∧
          (∀ a h₅ tk gs, gs.bare = true → s₄.heap.objs.size < a → h₅.objs.size = a + 1 → (∀ b o, s₄.heap.get? b = some o → h₅.get? b = some o) →
            WalksS X.prog X.w X.A.in4 a (a :: s₄.heap.objs.size :: List.range s₄.heap.objs.size) (s₄.heap.objs.size :: wr) (GenOnlyQ s₄.gens.size) (passing pz n₀ 0).length
              (fun j y => ∃ i, (passing pz n₀ 0)[j]? = some i ∧ F i y) (GenAt X.prog X.w X.A.in4 a s₄.gens.size s₄.heap.objs.size (List.range s₄.heap.objs.size) wr pz n₀ F) →
            GenAt X.prog X.w X.A.in4 a s₄.gens.size s₄.heap.objs.size (List.range s₄.heap.objs.size) wr pz n₀ F 0 { s₄ with gens := s₄.gens.push gs, toks := tk, heap := h₅ } →
            Q' (.ref a) { s₄ with gens := s₄.gens.push gs, toks := tk, heap := h₅ })) X.xe { s1 with heap := h3, toks := tk } := by
    intro code h3 tk ps' hx hsz hP3 hmore ht3
    obtain ⟨bm, ob, e1, e2, e3, e4, e5, e6, e7, e8⟩ := TB.bm
    have hcP : cStatics ≠ P := fun e => by
      obtain ⟨_, hns, _⟩ := I1.nolimit
      obtain ⟨o', es, ep, ho, hd, _⟩ := hns
      rw [e, hPs] at ho
      cases ho
      cases hd
    have hcl : cStatics < s1.heap.objs.size := let ⟨_, hns, _⟩ := I1.nolimit; hns.lt
    have sz2 : (s1.heap.push o).objs.size = s1.heap.objs.size + 1 := Heap.size_push ..
    have keep3 : ∀ b u, b ≠ P → s1.heap.get? b = some u → h3.get? b = some u := fun b u hb e => hx b u hb (Heap.get?_push_of_some _ e)
    refine wpAny_builtinsFor (m := X.mg) (by rw [I1.ok.glob]; exact ((I1.mod.glob.keeps I1.bk).push o).extBut hx TB.gP) e1 e2 (keep3 _ _ e4 (I1.bk _ _ e5)) e6 e7 e8 ?_
    have hylP : yl ≠ P := fun z => by
      obtain ⟨_, e, hc1, n1, hd1⟩ := _root_.id hIL
      rw [z, hPs] at e
      cases e
      cases hd1
    have hIL3 : h3.IsTuple yl its.toArray := by
      obtain ⟨ob, e, r⟩ := _root_.id hIL
      exact ⟨ob, keep3 _ _ hylP e, r⟩
    have hItr3 : h3.IsTupleIter s1.heap.objs.size yl 0 := hitr.at fun u e => hx _ u (Nat.ne_of_gt hPlt) e
    refine ⟨s1.heap.objs.size, [s1.heap.objs.size, yl], [s1.heap.objs.size], its.toArray.size, (fun i v => its.toArray[i]? = some v), (fun i h => h.IsTupleIter s1.heap.objs.size yl i ∧ h.IsTuple yl its.toArray), (fun _ => true),
      (fun i y => y = .bool true), rfl, (fun A' hA => Walks.tuple hA _ _ (Nat.ne_of_lt hylt) _), ⟨hItr3, hIL3⟩, ?_, lim2.extBut hx hcP, ?_, ?_, ?_⟩
    · intro b hb
      rcases List.mem_cons.mp hb with z | z
      · rw [z]
        show s1.heap.objs.size < h3.objs.size
        omega
      · rcases List.mem_cons.mp z with z | z
        · rw [z]
          have e9 : s1.heap.objs.size ≤ h3.objs.size := by omega
          exact Nat.lt_of_lt_of_le hylt e9
        · cases z
    · intro z
      rcases List.mem_cons.mp z with z | z
      · exact Nat.ne_of_lt hcl z
      · cases z
    · intro href hhref
      refine ⟨fun A' E' i v s₂ m₂ hA hPv hn hm hk => ?_, fun A' E' i v s₂ m₂ hA hPv hp hn hm hk => ?_⟩
      · simp only [List.forIn_nil]
        exact wpAny_pure ⟨rfl, GxR.keeps_refl _⟩
      · obtain ⟨b, us, rfl, hb, l1, l2⟩ := hat i v hPv
        have keep4 : ∀ b u, b ≠ P → s1.heap.get? b = some u → s₂.heap.get? b = some u := fun b u hb e => by
          have e2 := keep3 b u hb e
          have hlt : b < s1.heap.objs.size := Heap.lt_size e
          refine hk b (List.mem_range.mpr (Heap.lt_size e2)) (fun z => ?_) u (hhref b u e2)
          rw [List.mem_singleton] at z
          exact Nat.ne_of_lt hlt z
        have keep5 : ∀ b u, b ≠ P → X.base.get? b = some u → s₂.heap.get? b = some u := fun b u hb e => keep4 b u hb (I1.bk b u e)
        have nsP : ∀ {a : Addr} {m : Str → Option Value}, X.base.Ns a m → s₂.heap.Ns a m := fun {a m} ⟨o', es, ep, e, d, r⟩ => ⟨o', es, ep, keep5 a o' (fun z => by
          have := I1.bk _ _ e
          rw [z, hPs] at this
          cases this
          cases d) e, d, r⟩
        obtain ⟨mb, hb1, hb2⟩ := I1.mod.blt
        have hbP : b ≠ P := fun z => by
          obtain ⟨_, e, hc1, n1, hd1⟩ := hb
          rw [z, hPs] at e
          cases e
          cases hd1
        refine elt_side (env := genEnv scope (cloFrom X.env.cells scope.names []) h3.objs.size code builtinsNs X.env) (q := q) (t := t) (its := us) (b := b) S.kind S.loc n1 n2 n3 n4 (by show s₂.heap.Ns X.env.globals X.mg; rw [I1.ok.glob]; exact nsP I1.mod.glob) (nsP hb1) hn hm g1 g2 g3 g4 hb2
          (let ⟨n, e, r⟩ := hb; ⟨n, keep4 _ _ hbP e, r⟩) l1 l2 hq hd hdK (fun k => ⟨rfl, GxR.keeps_tok _ _⟩)
    · intro g h5 tk5 gs hgb hag hsz5 hk5 W5 hgat
      simp only [GxR.passing_true, List.length_range] at W5
      refine hQ H1 g _ q1 ⟨_, _, _, _, _, _, W5.in4_1, hgat, ?_, fun s' hm => ?_⟩
      · intro j y sj Qj Ej hy hQj
        obtain ⟨i, hij, rfl⟩ := hy
        exact wpAny_truthy_bool hQj
      · obtain ⟨more, em⟩ := hmore
        have nwr : ∀ b u, s1.heap.get? b = some u → b ∉ h3.objs.size :: [s1.heap.objs.size] := fun b u e hb => by
          have hl := Heap.lt_size e
          rcases List.mem_cons.mp hb with z | z
          · rw [z] at hl
            have h9 : (h3.objs.size : Nat) < s1.heap.objs.size := hl
            omega
          · rcases List.mem_cons.mp z with z | z
            · rw [z] at hl
              exact Nat.lt_irrefl _ hl
            · cases z
        have J := GxR.inv_tab (more := more) (h' := s'.heap) (g' := s'.gens) (d' := s'.drawn) (t' := s'.toks) I1 hP (fun b u hb e => hm.heap b u (nwr b u e) (hk5 b u (keep3 b u hb e)))
          (by rw [← em]; exact hm.heap P _ (nwr P _ hPs) (hk5 P _ hP3)) (AllBare.movedS (I1.bare.push hgb) hm)
        rw [GxR.sh_eta s1 s' hm.os] at J
        refine ⟨upd H1 P (.tbl (ps ++ more)), ⟨⟨ps ++ more, upd_same, by rw [← em]; exact ht3⟩, fun b hb => upd_ne hb⟩, J⟩
  refine ⟨lim2, ?_⟩
  cases hf : codeAmong gpos ps.toList with
  | none =>
    refine wpAny_genexprCodeX hcode (cd.code hP2 ht) (cd.tab hP2) hf fun c' h' tk hx hge hlt hco' _ htab' _ => ?_
    obtain ⟨o1, vs, f1, tf, fl, tg, inF, tx, tt, op, _, _, _, _, _, _, _, _, _, htr, _⟩ := hco'
    exact cont _ h' tk _ hx (Nat.le_trans hge (Nat.le_of_lt hlt)) htab'.2 ⟨_, rfl⟩ htr
  | some cv =>
    refine wpAny_genexprCode_hit hcode (cd.code hP2 ht) hf ?_
    exact cont cv (s1.heap.push o) s1.toks ps (Heap.ExtBut.refl _ _) (Nat.le_refl _) hP2 ⟨#[], by simp⟩ ht
def tAllT (P : Addr) (q : Nat) (te : TE) : TE := fun σ H Q => te σ H fun v H1 => ∃ (yl : Addr) (xs : List V), v = .ref yl ∧ H1 yl = some (.tup xs) ∧ Sides q H1 xs ∧ GxR.TabG H1 P ∧ ∀ H2, GxR.Tabbed P H1 H2 → Q (.bl true) H2
theorem pe_allT {c P : Addr} {iter : Expr} {x K : Str} {px p pos gpos : Pos} {scope : Scope} {te : TE} {k : Nat} {p1 p2 p3 p4 p5 p6 p7 p8 p9 p10 p11 : Pos} {j : Nat} {q t : Nat} {A : Around} {base : Heap} {mg : Str → Option Value}
    (hr : Room k A) (hg : Gl X "all") (hm : X.mg "all" = none) (TB : GxR.TabB base mg c P) (hcode : X.env.code = .ref c) (S : GxR.GenS X.env scope x) (hi : PE X iter te)
    (n1 : scope.names.lookup ("isinstance" : Str) = some .globalImplicit) (n2 : scope.names.lookup ("tuple" : Str) = some .globalImplicit) (n3 : scope.names.lookup ("len" : Str) = some .globalImplicit) (n4 : scope.names.lookup K = some .globalImplicit)
    (g1 : X.mg "isinstance" = none) (g2 : X.mg "tuple" = none) (g3 : X.mg "len" = none) (g4 : X.mg K = some (.int q t)) (hq : q ≤ 1000) (hd : (x == ("__debug__" : Str)) = false) (hdK : (K == ("__debug__" : Str)) = false)
    (hs : ∀ v, genFold iter X.env v = pure v) (hX : X.A = A ∧ X.base = base ∧ X.mg = mg := by exact ⟨rfl, rfl, rfl⟩)
    (he : ∀ e, starEach [.GeneratorExp e [⟨.Name x px, iter, [], 0⟩] scope gpos] X.env = (false, eval (.GeneratorExp e [⟨.Name x px, iter, [], 0⟩] scope gpos) X.env) :: starEach [] X.env := by intro _; rfl) :
    PE X (.Call (.Name "all" p) [.GeneratorExp (.BoolOp .And [.Call (.Name "isinstance" p1) [.Name x p2, .Name "tuple" p3] [] p4, .Compare (.Constant (.int 1) j p5) [.LtE, .LtE] [.Call (.Name "len" p6) [.Name x p7] [] p8, .Name K p9] p10] p11) [⟨.Name x px, iter, [], 0⟩] scope gpos] [] pos) (tAllT P q te) := by
  obtain ⟨rfl, rfl, rfl⟩ := hX
  refine ⟨fun pins s σ H Q I h => ?_⟩
  refine wpAny_Call_Name_kw (ld_blt I hg hm boot_all ?_)
  refine PyProof.Rows.callWith_builtin1 ?_ (he _) (by rfl)
  rw [he]
  show wpAny _ _ (spliced ((false, eval (.GeneratorExp _ [⟨.Name x px, iter, [], 0⟩] scope gpos) X.env) :: backTo pos (starEach [] X.env))) _ _ s
  refine Calls.spliced_cons (gen_tup (R := fun H1 => ∀ H2, GxR.Tabbed P H1 H2 → Q (.bl true) H2) hr TB hcode S hi n1 n2 n3 n4 g1 g2 g3 g4 hq hd hdK hs I h fun H1 g s5 hR hG => ?_)
  obtain ⟨fp, wr, G, F, St, n, W, hst, htr, hI⟩ := hG
  refine Calls.spliced_nil ?_
  refine call_all_walkS (W.self 0 _ _ _ hst ⟨g, fp, wr, G, _, F, St, _, rfl, W, hst, htr, fun s' hmv => ?_⟩)
  obtain ⟨H2, hT, J⟩ := hI s' hmv
  refine ⟨.bl _, H2, J, rfl, ?_⟩
  rw [show (List.range n).all (fun _ => true) = true by simp]
  exact hR H2 hT
end
end Wk

/-! ## WIs -/
set_option Elab.async false
set_option linter.all false
set_option maxRecDepth 100000
set_option maxHeartbeats 4000000
namespace Wk
open PySem L2 Wt
theorem iteB {b c : Bool} {p q : Prop} (h : b = c) (r : if c = true then p else q) : if b = true then p else q := by
  rw [h]
  exact r
/-! ### isinstance -/
def TyS (H : Hp) : V → String → Prop
  | .int _, t => t = "int"
  | .bl _, t => t = "bool"
  | .str _, t => t = "str"
  | .non, t => t = "NoneType"
  | .ref a, t => (t = "tuple" ∧ ∃ xs, H a = some (.tup xs)) ∨ (t = "list" ∧ ∃ xs, H a = some (.lst xs))
  | _, _ => False
theorem TyS.x {K : PySem.W.Frag} {H : Hp} {v : V} {t : String} (h : TyS H v t) : TyX K H v (.type t) := by
  cases v with
  | int i => cases (show t = "int" from h); exact .base (.int i)
  | bl i => cases (show t = "bool" from h); exact .base (.bl i)
  | str i => cases (show t = "str" from h); exact .base (.str i)
  | non => cases (show t = "NoneType" from h); exact .base .non
  | ref a =>
    rcases (show (t = "tuple" ∧ ∃ xs, H a = some (.tup xs)) ∨ (t = "list" ∧ ∃ xs, H a = some (.lst xs)) from h) with ⟨rfl, xs, e⟩ | ⟨rfl, xs, e⟩
    · exact .base (.tup e)
    · exact .base (.lst e)
  | _ => exact h.elim
section
variable {X : Cx}
theorem call_isiS : CallR X (.builtin "isinstance") (fun xs H Q => ∃ x t c b, xs = [x, .ty c] ∧ TyS H x t ∧ kitB t c = some b ∧ Q (.bl b) H) := by
  intro pins s σ H xs us Q I r h
  obtain ⟨x, t, c, b, e, ty, k, q⟩ := h
  exact call_isi pins s σ H xs us Q I r ⟨x, .ty c, .type t, .type c, b, e, .ty c, ty.x, kit_ty k, q⟩
theorem call_isiTS : CallR X (.builtin "isinstance") (fun xs H Q => ∃ x t c d b b' tp, xs = [x, .ref tp] ∧ H tp = some (.tup [.ty c, .ty d]) ∧ TyS H x t ∧ kitB t c = some b ∧ kitB t d = some b' ∧ Q (.bl (b || b')) H) := by
  intro pins s σ H xs us Q I r h
  obtain ⟨x, t, c, d, b, b', tp, e, et, ty, k, k', q⟩ := h
  exact call_isiT pins s σ H xs us Q I r ⟨x, tp, [.ty c, .ty d], .type t, [.type c, .type d], b || b', e, et, .cons (.ty c) (.cons (.ty d) .nil), ty.x, kitAny_cons (kit_ty k) (fun z => kitAny_cons (kit_ty k') (fun y => by rw [z, y]; exact kitAny_nil) (fun y => by rw [z, y]; rfl)) (fun z => by rw [z]; rfl), q⟩
end
/-! ### the water -/
def PrI (H : Hp) (v : V) (a b : Int) : Prop := ∃ p, v = .ref p ∧ H p = some (.tup [.int a, .int b])
def Side (H : Hp) (x : Addr) (n : Nat) (f d : Nat → Int) : Prop := ∃ vs, H x = some (.tup vs) ∧ vs.length = n ∧ ∀ (i : Nat) v, vs[i]? = some v → PrI H v (f i) (d i)
def WaAt (H : Hp) (wa : Addr) (a : Wa) : Prop := ∃ so si, H wa = some (.tup [.ref so, .ref si]) ∧ Side H so a.p a.fl a.di ∧ Side H si a.w a.fk a.dk
section
variable {M : List Addr} {H H' : Hp}
theorem PrI.kp {v : V} {a b : Int} (h : PrI H v a b) (k : Kp M H H') (m : Mu M H) : PrI H' v a b := let ⟨p, e, s⟩ := h; ⟨p, e, tup_kp s k m⟩
theorem Side.kp {x : Addr} {n : Nat} {f d : Nat → Int} (h : Side H x n f d) (k : Kp M H H') (m : Mu M H) : Side H' x n f d := let ⟨vs, e, l, r⟩ := h; ⟨vs, tup_kp e k m, l, fun i v q => (r i v q).kp k m⟩
theorem WaAt.kp {wa : Addr} {a : Wa} (h : WaAt H wa a) (k : Kp M H H') (m : Mu M H) : WaAt H' wa a := let ⟨so, si, e, s1, s2⟩ := h; ⟨so, si, tup_kp e k m, s1.kp k m, s2.kp k m⟩
theorem WaAt.kp0 {wa : Addr} {a : Wa} (h : WaAt H wa a) (k : Kp [] H H') : WaAt H' wa a := h.kp k .nil
theorem TabG.mu {P : Addr} (h : GxR.TabG H P) : Mu [P] H := let ⟨ps, e, _⟩ := h; .one e trivial
theorem TabG.kp0 {P : Addr} (h : GxR.TabG H P) (k : Kp [] H H') : GxR.TabG H' P := let ⟨ps, e, r⟩ := h; ⟨ps, k _ _ e (by simp), r⟩
theorem Tabbed.kp {P : Addr} (h : GxR.Tabbed P H H') : Kp [P] H H' := fun b o e n => by rw [h.2 b (by simpa using n)]; exact e
end
structure Tm (mg : Str → Option Value) (t1 t2 t3 : Tok) : Prop where
  MOST_SIDE : mg "MOST_SIDE" = some (.int ((4 : Nat) : Int) t1)
  MOST_FLOW : mg "MOST_FLOW" = some (.int 1000 t2)
  MOST_DIRT : mg "MOST_DIRT" = some (.int 1000 t3)
abbrev dNeed : Stmt := top 21
def spIsIn : Sp := fun vs H Q _ => ∃ x a b : Int, vs = [.int x, .int a, .int b] ∧ a ≤ x ∧ x ≤ b ∧ Q (.bl true) H
def spNeed (P : Addr) : Sp := fun vs H Q _ => ∃ wa a, vs = [.ref wa] ∧ WaAt H wa a ∧ a.Ok ∧ GxR.TabG H P ∧ ∀ H', Kp [P] H H' → GxR.TabG H' P → Q .non H'
section
variable {P : Program} {w : World} {K : PySem.W.Frag} {mg : Str → Option Value} {base : Heap} {f C : Addr} {fd : FuncData} {t1 t2 t3 : Tok}
abbrev NIsIn : List Str := ["value", "least", "most"]
theorem scIsIn : FnScope NIsIn ["value", "least", "most"] (defScope dIsIn) := ⟨rfl, rfl, rfl, by decide +kernel, rfl, by decide +kernel, by decide +kernel⟩
theorem ok_isin (F : Fun K "is_in" "is_in" dIsIn f fd) (T : Tx K mg) : FnOk P w K mg base CX0 1 f fd ["value", "least", "most"] spIsIn := by
  refine F.ok scIsIn (fun vs H Q E h => ?_) (fun cdv A' outer s H vs Q E hr h => ?_)
  · obtain ⟨x, a, b, rfl, _⟩ := h
    rfl
  · obtain ⟨x, a, b, rfl, h1, h2, q⟩ := h
    refine ⟨_, (pss_one (ps_ret (pe_and (pe_callB call_isiS (by rfl) T.isinstance (by decide +kernel) (pa_cons (pv 0) (pa_cons (pe_bltn (v := .ty "int") (by rfl) T.int (by decide +kernel) rfl) pa_nil))) (pe_and (pe_not (pe_callB call_isiS (by rfl) T.isinstance (by decide +kernel) (pa_cons (pv 0) (pa_cons (pe_bltn (v := .ty "bool") (by rfl) T.bool (by decide +kernel) rfl) pa_nil)))) (pe_one (pe_chain op_le op_le (pv 1) (pv 0) (pv 2))))))), ?_⟩
    refine ⟨_, rfl, _, _, _, true, rfl, rfl, by decide +kernel, true, rfl, ?_⟩
    rw [if_pos rfl]
    refine ⟨_, rfl, _, _, _, false, rfl, rfl, by decide +kernel, false, rfl, true, rfl, ?_⟩
    rw [if_pos rfl]
    refine ⟨_, rfl, _, rfl, _, _, rfl, rfl, true, by show V.bl (decide (a ≤ x)) = _; rw [decide_eq_true h1], ?_⟩
    rw [if_pos rfl]
    refine ⟨_, rfl, _, _, rfl, rfl, ?_⟩
    show Q (V.bl (decide (x ≤ b))) H
    rw [decide_eq_true h2]
    exact q
theorem okC {x qual : Str} {st : Stmt} {f : Addr} {fd : FuncData} {N ps : List Str} {k : Nat} {sp : Sp} (F : Fun K x qual st f fd) (S : FnScope N ps (defScope st)) (len : ∀ vs H Q E, sp vs H Q E → vs.length = ps.length)
    (hbody : ∀ (cdv : Value) (A : Around) (outer : List Env) (s : Shared) (H : Hp) (vs : List V) (Q : VK) (E : XK), fd.code = cdv → Room k (A.deeper (PyProof.Rows.envOfC qual (defScope st) s.heap.objs.size f cdv)) → sp vs H Q E →
      ∃ t, PSs (cxOf CX0 P w K mg base N qual (defScope st) f cdv A outer s H E).nox (defBody st) t ∧ t { nx := fun _ H' => Q .non H', rt := Q } (start N vs) H) : FnOk P w K mg base CX0 (k + 1) f fd ps sp := by
  obtain ⟨oc, od, kV, doc, pm, an, cdv, ct, osl, rfl, lk, hcd⟩ := F.ex
  refine fn_of lk hcd S len fun A outer s H vs Q E hr hsp => ?_
  obtain ⟨t, h, q⟩ := hbody cdv A outer s H vs Q E rfl hr hsp
  exact ⟨t, h.nox, q⟩
def gsB (scope : Scope) (x : Str) : Bool := decide (scope.kind = .function) && !scope.isCoroutine && scope.names.all (fun y => !decide (y.2 = .cell) && !decide (y.2 = .free)) && decide (scope.names.lookup (".0" : Str) = some NameKind.local) && decide (scope.names.lookup x = some NameKind.local)
theorem gs_by {env : Env} {scope : Scope} {x : Str} (h : gsB scope x = true) : GxR.GenS env scope x := by
  unfold gsB at h
  simp only [Bool.and_eq_true, Bool.not_eq_true', decide_eq_true_eq, List.all_eq_true, decide_eq_false_iff_not] at h
  obtain ⟨⟨⟨⟨h1, h2⟩, h3⟩, h4⟩, h5⟩ := h
  exact ⟨h1, h2, fun y hy => (h3 y hy).1, h4, h5, fun y hy e => absurd e (h3 y hy).2⟩
abbrev NNeed : List Str := ["water", "index", "one", "side"]
theorem scNeed : FnScope NNeed ["water"] (defScope dNeed) := ⟨rfl, rfl, rfl, by decide +kernel, rfl, by decide +kernel, by decide +kernel⟩
theorem ok_need {c Pt : Addr} (F : Fun K "need_water" "need_water" dNeed f fd) (T : Tx K mg) (TM : Tm mg t1 t2 t3) (hc : fd.code = .ref c) (TB : GxR.TabB base mg c Pt) (h_is_in : Has P w K mg base 1 "is_in" ["value", "least", "most"] spIsIn) : FnOk P w K mg base CX0 2 f fd ["water"] (spNeed Pt) := by
  refine okC F scNeed (fun vs H Q E h => ?_) (fun cdv A' outer s H vs Q E hcv hr h => ?_)
  · obtain ⟨wa, a, rfl, _⟩ := h
    rfl
  · obtain ⟨wa, a, rfl, hw, ok, hT, q⟩ := h
    have hcode : cdv = .ref c := hcv.symm.trans hc
    refine ⟨_, (pss_cons (ps_if (PW.pt (pw_or (pt_not (pt_val (pe_callB call_isiS (by rfl) T.isinstance (by decide +kernel) (pa_cons (pv 0) (pa_cons (pe_bltn (v := .ty "tuple") (by rfl) T.tuple (by decide +kernel) rfl) pa_nil))))) (pw_or1 (pt_cmpR op_ne (pe_callB call_lenT (by rfl) T.len PySem.boot_len (pa_cons (pv 0) pa_nil)) pe_int (nomark _)))))
        pss_never
        pss_nil)
      (pss_cons (ps_if (pt_not (pt_val (pe_allT hr (by rfl) T.all TB hcode (gs_by (by decide +kernel)) (pv 0) rfl rfl rfl rfl T.isinstance T.tuple T.len TM.MOST_SIDE (by decide) (by decide) (by decide) (fun _ => rfl))))
        pss_never
        pss_nil)
      (pss_one (ps_for PassesOwn.never rfl (pi_enumS (by rfl) T.enumerate (pa_cons (pe_lst (StX.pa_star (pe_ix ix_tupS (pv 0) pe_int (by intro _ _; rfl)) (StX.pa_star (pe_ix ix_tupS (pv 0) pe_int (by intro _ _; rfl)) pa_nil))) pa_nil)) (pg_tupS (pgs_cons (pg_name (i := 1) scNeed.nd rfl (Or.inl rfl)) (pgs_cons (pg_name (i := 2) scNeed.nd rfl (Or.inl rfl)) pgs_nil)))
        (pss_cons (ps_if (PW.pt (pw_or (pt_not (pt_val (pe_callB call_isiS (by rfl) T.isinstance (by decide +kernel) (pa_cons (pv 2) (pa_cons (pe_bltn (v := .ty "tuple") (by rfl) T.tuple (by decide +kernel) rfl) pa_nil))))) (pw_or (pt_cmpR op_ne (pe_callB call_lenT (by rfl) T.len PySem.boot_len (pa_cons (pv 2) pa_nil)) pe_int (nomark _)) (pw_or1 (pt_not (pt_val (pe_callH h_is_in hr (by rfl) (pa_cons (pe_ix ix_tupS (pv 2) pe_int (by intro _ _; rfl)) (pa_cons pe_int (pa_cons (pe_glob (v := .int 1000) (by rfl) TM.MOST_FLOW ⟨_, rfl⟩) pa_nil))))))))))
          pss_never
          pss_nil)
        (pss_one (ps_if (pt_not (pt_val (pe_callH h_is_in hr (by rfl) (pa_cons (pe_ix ix_tupS (pv 2) pe_int (by intro _ _; rfl)) (pa_cons pe_int (pa_cons (pe_glob (v := .int 1000) (by rfl) TM.MOST_DIRT ⟨_, rfl⟩) pa_nil))))))
          pss_never
          pss_nil))))))), ?_⟩
    obtain ⟨so, si, ew, ⟨vo, eo, lo, xo⟩, vi, ei, li, xi⟩ := id hw
    refine ⟨_, rfl, _, _, _, true, rfl, .inl ⟨rfl, _, ew⟩, by decide +kernel, true, rfl, iteF ?_⟩
    refine ⟨_, rfl, wa, _, rfl, ew, rfl, _, rfl, ?_⟩
    refine iteB (c := false) (by simp) (iteF ?_)
    have hS : Sides 4 H [.ref so, .ref si] := fun x hx => by
      rcases List.mem_cons.mp hx with e | e
      · exact ⟨so, vo, e, eo, by have := ok.p0; omega, by have := ok.p3; omega⟩
      · exact ⟨si, vi, List.mem_singleton.mp e, ei, by have := ok.w0; omega, by have := ok.w3; omega⟩
    refine ⟨_, rfl, wa, _, rfl, ew, hS, hT, fun H1 hT1 => ⟨true, rfl, iteF ?_⟩⟩
    have k1 := Tabbed.kp hT1
    have hT2 := hT1.1
    have ew1 := tup_kp ew k1 (TabG.mu hT)
    have eo1 := tup_kp eo k1 (TabG.mu hT)
    have ei1 := tup_kp ei k1 (TabG.mu hT)
    have hw1 := hw.kp k1 (TabG.mu hT)
    have hx : ∀ (i : Nat) x, (vo ++ (vi ++ []))[i]? = some x → ∃ p u v, x = .ref p ∧ H1 p = some (.tup [.int u, .int v]) ∧ 1 ≤ u ∧ u ≤ 1000 ∧ 0 ≤ v ∧ v ≤ 1000 := fun i x hx => by
      have hm := List.mem_of_getElem? hx
      rcases List.mem_append.mp hm with h | h
      · obtain ⟨j, hj⟩ := List.mem_iff_getElem?.mp h
        have hj2 : j < a.p := by have := (List.getElem?_eq_some_iff.mp hj).1; omega
        obtain ⟨p, e, ep⟩ := xo j x hj
        have b1 := ok.fl0 j hj2
        have b2 := ok.di0 j hj2
        exact ⟨p, _, _, e, tup_kp ep k1 (TabG.mu hT), by omega, by omega, by omega, by omega⟩
      · rw [List.append_nil] at h
        obtain ⟨j, hj⟩ := List.mem_iff_getElem?.mp h
        have hj2 : j < a.w := by have := (List.getElem?_eq_some_iff.mp hj).1; omega
        obtain ⟨p, e, ep⟩ := xi j x hj
        have b1 := ok.fk0 j hj2
        have b2 := ok.dk0 j hj2
        exact ⟨p, _, _, e, tup_kp ep k1 (TabG.mu hT), by omega, by omega, by omega, by omega⟩
    have hlen : (vo ++ (vi ++ [])).length ≤ 1000 := by
      rw [List.append_nil, List.length_append]
      have := ok.p3
      have := ok.w3
      omega
    refine ⟨_, rfl, wa, _, _, .ref so, rfl, rfl, ew1, rfl, so, vo, rfl, .inl (SqT.of eo1), _, rfl, wa, _, _, .ref si, rfl, rfl, ew1, rfl, si, vi, rfl, .inl (SqT.of ei1), Nat.le_of_lt (small1000 hlen), fun l hl => ?_⟩
    have k2 : Kp [] H1 (upd H1 l (.lst (vo ++ (vi ++ [])))) := .new hl
    have e2 : upd H1 l (.lst (vo ++ (vi ++ []))) l = some (.lst (vo ++ (vi ++ []))) := upd_same
    generalize upd H1 l (.lst (vo ++ (vi ++ []))) = H2 at k2 e2 ⊢
    refine ⟨l, _, rfl, e2, for_it (walk_enum (K := K) (a := l) (xs := vo ++ (vi ++ []))) (fun i σ H' => ∃ o1 o2 : Option V, σ = [some (.ref wa), o1, o2, none] ∧ Kp [] H1 H' ∧ H' l = some (.lst (vo ++ (vi ++ []))))
      ⟨none, none, rfl, k2, e2⟩ (fun i σ H' _ ⟨_, _, _, _, e⟩ => SqL.of e) ?_ ?_⟩
    · rintro i x σ H3 H4 hi ⟨o1, o2, rfl, k3, e3⟩ ⟨T', x', y', rfl, hT', rfl, ex, ey⟩
      cases ex
      obtain ⟨p, u, v, rfl, ep, b1, b2, b3, b4⟩ := hx i y' ey
      have kT : Kp [] H3 (upd H3 T' (.tup [.int ((i : Nat) : Int), .ref p])) := .new hT'
      have pT : upd H3 T' (.tup [.int ((i : Nat) : Int), .ref p]) T' = some (.tup [.int ((i : Nat) : Int), .ref p]) := upd_same
      generalize upd H3 T' (.tup [.int ((i : Nat) : Int), .ref p]) = H4 at kT pT ⊢
      have ep4 := (k3.trans kT) _ _ ep (by simp)
      refine ⟨T', _, rfl, pT, rfl, _, _, rfl, _, _, rfl, rfl, ?_⟩
      refine ⟨_, rfl, _, _, _, true, rfl, .inl ⟨rfl, _, ep4⟩, by decide +kernel, true, rfl, iteF ?_⟩
      refine ⟨_, rfl, p, _, rfl, ep4, rfl, _, rfl, iteB (c := false) (by simp) (iteF ?_)⟩
      refine ⟨_, rfl, p, _, _, _, rfl, rfl, ep4, rfl, u, 1, 1000, rfl, b1, b2, true, rfl, iteF ?_⟩
      refine ⟨_, rfl, p, _, _, _, rfl, rfl, ep4, rfl, v, 0, 1000, rfl, b3, b4, true, rfl, iteF ?_⟩
      exact ⟨_, _, rfl, k3.trans kT, kT _ _ e3 (by simp)⟩
    · rintro σ H3 ⟨o1, o2, rfl, k3, e3⟩
      exact q H3 (k1.trans k3.nil) (TabG.kp0 hT2 k3)
end
end Wk

/-! ## WProg -/
set_option Elab.async false
set_option linter.all false
set_option maxRecDepth 100000
set_option maxHeartbeats 4000000
namespace Wk
open PySem L2 Wt
abbrev dWhole : Stmt := top 22
abbrev dProg : Stmt := top 23
theorem qt_int (z : Int) : qt ((z : Int) : Rat) = [.int z, .int 1] := by
  unfold qt
  rw [Rat.num_intCast, Rat.den_intCast]
  rfl
theorem RatAt.int {H : Hp} {a : Addr} {z : Int} (h : H a = some (.tup [.int z, .int 1])) : RatAt H (.ref a) (z : Rat) := ⟨a, rfl, by rw [qt_int]; exact h⟩
def spWhole : Sp := fun vs H Q _ => ∃ (n : Nat) (d : Addr) (kvs : List (Key × V)) (g : Nat → Int), vs = [.int (n : Nat), .ref d] ∧ H d = some (.dK kvs) ∧ n ≤ 1000 ∧ (∀ k, k < n → (valV kvs (.inl ((k : Nat) : Int))).getD (.int 0) = .int (g k)) ∧
  ∀ H' a, H a = none → Kp [] H H' → RL H' a n (fun k => ((g k : Int) : Rat)) → Q (.ref a) H'
section
variable {P : Program} {w : World} {K : PySem.W.Frag} {mg : Str → Option Value} {base : Heap} {f C : Addr} {fd : FuncData}
abbrev NWhole : List Str := ["many", "entries", "k"]
theorem scWhole : FnScope NWhole ["many", "entries"] (defScope dWhole) := ⟨rfl, rfl, rfl, by decide +kernel, rfl, by decide +kernel, by decide +kernel⟩
theorem ok_whole (F : Fun K "whole_row" "whole_row" dWhole f fd) (T : Tx K mg) : FnOk P w K mg base CX0 1 f fd ["many", "entries"] spWhole := by
  refine F.ok scWhole (fun vs H Q E h => ?_) (fun cdv A' outer s H vs Q E hr h => ?_)
  · obtain ⟨n, d, kvs, g, rfl, _⟩ := h
    rfl
  · obtain ⟨n, d, kvs, g, rfl, hd, hn, hg, q⟩ := h
    refine ⟨_, (pss_one (ps_ret (pe_lc (own := [("k", 2)]) (g := gName 2) (tt := tYes) rfl scWhole.nd (pi_range1 (by rfl) T.range (pa_cons (pv 0) pa_nil)) (blkOk_by (own := [("k", 2)]) (N := NWhole) (sc := defScope dWhole) (by decide +kernel)) (fun _ _ _ _ _ => (pg_name (i := 2) scWhole.nd rfl (Or.inl rfl))) (fun _ _ _ _ _ => by exact pts_nil) (fun _ _ _ _ _ => by exact (pe_tup (pa_cons (pe_dget2 (hu_of hr) (pv 1) (pv 2) pe_int ⟨by rfl, by rfl, by rfl, by rfl⟩) (pa_cons pe_int pa_nil))))))), ?_⟩
    refine ⟨_, rfl, _, rfl, by omega, by omega, fun D hD => lc_made walk_range (fun j H v => RatAt H v (g j : Rat)) (ratAt_E fun j => (g j : Rat)) hD (by simp; exact small1000 hn) (fun _ _ => trivial) ?_ (fun _ _ _ _ => gName_mono) ?_⟩
    · rintro j x H1 H2 R hj k1 ⟨rfl, rfl⟩ hR
      have hj2 : j < n := by simpa using hj
      have hd1 := k1 _ _ hd (by simp)
      refine ⟨rfl, _, rfl, d, rfl, .inl ⟨kvs, .inl hd1⟩, _, rfl, _, .inl ⟨kvs, .inl (0 + ((j : Nat) : Int)), .inl hd1, rfl, rfl⟩, by show 2 ≤ sizeLine; decide, fun a ha => hR _ _ (.new ha) (.int ?_)⟩
      rw [Int.zero_add, hg j hj2]
      exact upd_same
    · intro H1 acc k1 hA hl hx
      exact q H1 D hD k1 ⟨acc, hA, by rw [hl]; simp, hx⟩
/-! ### dicts -/
def Ds (e : Key → Option V) (kvs : List (Key × V)) : Prop := (∀ p ∈ kvs, e p.1 = some p.2) ∧ ∀ k v, e k = some v → ∃ p ∈ kvs, p.1 = k
theorem mem_putK {base : List (Key × V)} {k : Key} {v : V} {p : Key × V} (h : p ∈ putK base k v) : p = (k, v) ∨ p ∈ base := by
  unfold putK at h
  split at h
  · obtain ⟨q, hq, e⟩ := List.mem_map.mp h
    by_cases hk : q.1 = k
    · rw [if_pos hk] at e
      left
      rw [← e, hk]
    · rw [if_neg hk] at e
      right
      rw [← e]
      exact hq
  · rcases List.mem_append.mp h with h | h
    · exact .inr h
    · exact .inl (List.mem_singleton.mp h)
theorem merge_mem {e : Key → Option V} : ∀ (kvs base : List (Key × V)), (∀ p ∈ kvs, e p.1 = some p.2) → (∀ p ∈ base, e p.1 = some p.2) → ∀ p ∈ mergeK base kvs, e p.1 = some p.2
  | [], base, _, h2 => h2
  | q :: r, base, h1, h2 => merge_mem r (putK base q.1 q.2) (fun p hp => h1 p (List.mem_cons_of_mem _ hp)) fun p hp => by
    rcases mem_putK hp with z | z
    · rw [z]; exact h1 q List.mem_cons_self
    · exact h2 p z
theorem merge_out {k : Key} : ∀ (kvs base : List (Key × V)), (∀ p ∈ kvs, p.1 ≠ k) → valV (mergeK base kvs) k = valV base k
  | [], base, _ => rfl
  | q :: r, base, h => by
    show valV (mergeK (putK base q.1 q.2) r) k = _
    rw [merge_out r _ fun p hp => h p (List.mem_cons_of_mem _ hp), valV_put, if_neg fun z => h q List.mem_cons_self z.symm]
theorem merge_in {k : Key} {v : V} : ∀ (kvs base : List (Key × V)), (∀ p ∈ kvs, p.1 = k → p.2 = v) → ((∃ p ∈ kvs, p.1 = k) ∨ valV base k = some v) → valV (mergeK base kvs) k = some v
  | [], base, _, h => by
    rcases h with ⟨p, hp, _⟩ | h
    · simp at hp
    · exact h
  | q :: r, base, h, h2 => by
    show valV (mergeK (putK base q.1 q.2) r) k = _
    refine merge_in r _ (fun p hp => h p (List.mem_cons_of_mem _ hp)) ?_
    by_cases hq : k = q.1
    · right
      rw [valV_put, if_pos hq, h q List.mem_cons_self hq.symm]
    · rcases h2 with ⟨p, hp, e⟩ | h2
      · rcases List.mem_cons.mp hp with z | z
        · exact absurd (by rw [← z]; exact e.symm) hq
        · exact .inl ⟨p, z, e⟩
      · right
        rw [valV_put, if_neg hq]
        exact h2
theorem ds_merge {e : Key → Option V} {kvs : List (Key × V)} (h : Ds e kvs) : Ds e (mergeK [] kvs) ∧ ∀ k, valV (mergeK [] kvs) k = e k := by
  have hv : ∀ k, valV (mergeK [] kvs) k = e k := fun k => by
    cases q : e k with
    | none =>
      refine merge_out kvs [] fun p hp z => ?_
      have := h.1 p hp
      rw [z, q] at this
      cases this
    | some v =>
      refine merge_in kvs [] (fun p hp z => ?_) (.inl (h.2 k v q))
      have := h.1 p hp
      rw [z, q] at this
      cases this
      rfl
  refine ⟨⟨merge_mem kvs [] h.1 (by simp), fun k v q => ?_⟩, hv⟩
  have := valV_in ((hv k).trans q)
  obtain ⟨p, hp, e⟩ := List.mem_map.mp this
  exact ⟨p, hp, e⟩
/-- the dict {**d, key: v} -/
theorem ds_star {e : Key → Option V} {kvs : List (Key × V)} (h : Ds e kvs) (key : Key) (v : V) (k : Key) : valV (mergeK (mergeK [] (mergeK [] kvs)) (mergeK [] [(key, v)])) k = if k = key then some v else e k := by
  have h1 := (ds_merge (ds_merge h).1).2
  show valV (putK (mergeK [] (mergeK [] kvs)) key v) k = _
  rw [valV_put, h1]
def eK (c : Nat → Bool) (v : Nat → Int) : Key → Option V
  | .inl z => if 0 ≤ z ∧ c z.toNat = true then some (.int (v z.toNat)) else none
  | .inr _ => none
theorem pairs_kv {K : PySem.W.Frag} {H : Hp} : ∀ (acc : List V) (g v : Nat → Int), (∀ (i : Nat) x, acc[i]? = some x → PrI H x (g i) (v i)) →
    ∃ (ps : List Addr) (kvs : List (Key × V)), acc = ps.map V.ref ∧ Paired (fun p kv => SqT K H p [kV kv.1, kv.2]) ps kvs ∧ kvs.length = acc.length ∧ (∀ p ∈ kvs, ∃ i, i < acc.length ∧ p = (.inl (g i), .int (v i))) ∧ ∀ i, i < acc.length → (Sum.inl (g i), V.int (v i)) ∈ kvs
  | [], g, v, _ => ⟨[], [], rfl, .nil, rfl, by simp, fun i hi => by simp at hi⟩
  | x :: r, g, v, h => by
    obtain ⟨ps, kvs, e1, e2, e3, e4, e5⟩ := pairs_kv r (fun i => g (i + 1)) (fun i => v (i + 1)) fun i x hx => h (i + 1) x (by rw [List.getElem?_cons_succ]; exact hx)
    obtain ⟨p, rfl, ep⟩ := h 0 x rfl
    refine ⟨p :: ps, (.inl (g 0), .int (v 0)) :: kvs, by rw [e1]; rfl, .cons (SqT.of ep) e2, by simp [e3], fun q hq => ?_, fun i hi => ?_⟩
    · rcases List.mem_cons.mp hq with z | z
      · exact ⟨0, by simp, z⟩
      · obtain ⟨i, hi, e⟩ := e4 q z
        exact ⟨i + 1, by simp; exact hi, e⟩
    · cases i with
      | zero => exact List.mem_cons_self
      | succ i => exact List.mem_cons_of_mem _ (e5 i (by simp at hi; exact hi))
theorem ds_of {kvs : List (Key × V)} {n : Nat} {g v : Nat → Int} {c : Nat → Bool} {u : Nat → Int} (h1 : ∀ p ∈ kvs, ∃ i, i < n ∧ p = (.inl (g i), .int (v i))) (h2 : ∀ i, i < n → (Sum.inl (g i), V.int (v i)) ∈ kvs)
    (a : ∀ i, i < n → 0 ≤ g i ∧ c (g i).toNat = true ∧ u (g i).toNat = v i) (b : ∀ z, c z = true → ∃ i, i < n ∧ g i = (z : Nat)) : Ds (eK c u) kvs := by
  refine ⟨fun p hp => ?_, fun k w q => ?_⟩
  · obtain ⟨i, hi, e⟩ := h1 p hp
    obtain ⟨a1, a2, a3⟩ := a i hi
    rw [e]
    show (if 0 ≤ g i ∧ c (g i).toNat = true then some (V.int (u (g i).toNat)) else none) = _
    rw [if_pos ⟨a1, a2⟩, a3]
  · cases k with
    | inr x => cases q
    | inl z =>
      have q' : (if 0 ≤ z ∧ c z.toNat = true then some (V.int (u z.toNat)) else none) = some w := q
      by_cases hz : 0 ≤ z ∧ c z.toNat = true
      · obtain ⟨i, hi, e⟩ := b _ hz.2
        refine ⟨_, h2 i hi, ?_⟩
        show Sum.inl (g i) = _
        rw [e, Int.toNat_of_nonneg hz.1]
      · rw [if_neg hz] at q'
        cases q'
/-- rows and goals that grow -/
structure Grow (H0 H : Hp) (ra ga : Addr) (i i' n : Nat) (A : Nat → Nat → Rat) (b : Nat → Rat) : Prop where
  kp : Kp [] H0 H
  rows : ∃ rs, H ra = some (.lst rs) ∧ rs.length = i ∧ ∀ (j : Nat) x, rs[j]? = some x → ∃ r, x = .ref r ∧ r ≠ ra ∧ r ≠ ga ∧ RL H r n (A j)
  goals : RL H ga i' b
  ne : ra ≠ ga
  r0 : H0 ra = none
  g0 : H0 ga = none
theorem Grow.kp0 {H0 H H' : Hp} {ra ga : Addr} {i i' n : Nat} {A : Nat → Nat → Rat} {b : Nat → Rat} (g : Grow H0 H ra ga i i' n A b) (k : Kp [] H H') : Grow H0 H' ra ga i i' n A b :=
  ⟨g.kp.trans k, let ⟨rs, e, l, r⟩ := g.rows; ⟨rs, k _ _ e (by simp), l, fun j x q => let ⟨c, e1, e2, e3, rc⟩ := r j x q; ⟨c, e1, e2, e3, rc.kp0 k⟩⟩, g.goals.kp0 k, g.ne, g.r0, g.g0⟩
theorem Grow.row {H0 H : Hp} {ra ga r : Addr} {i i' n : Nat} {A : Nat → Nat → Rat} {b : Nat → Rat} {rs : List V} (g : Grow H0 H ra ga i i' n A b) (e : H ra = some (.lst rs)) (hr : RL H r n (A i)) (n1 : r ≠ ra) (n2 : r ≠ ga) :
    Grow H0 (upd H ra (.lst (rs ++ [.ref r]))) ra ga (i + 1) i' n A b := by
  have k : Kp [ra] H (upd H ra (.lst (rs ++ [.ref r]))) := .wr (by simp)
  have m : Mu [ra] H := .one e trivial
  obtain ⟨rs', e', l, x⟩ := g.rows
  rw [e] at e'
  cases e'
  refine ⟨g.kp.wr0 g.r0, ⟨_, upd_same, by rw [List.length_append, l]; rfl, fun j y q => ?_⟩, g.goals.kp k m (by simp; exact g.ne.symm), g.ne, g.r0, g.g0⟩
  rcases Nat.lt_or_ge j i with hj | hj
  · rw [List.getElem?_append_left (by omega)] at q
    obtain ⟨c, e1, e2, e3, rc⟩ := x j y q
    exact ⟨c, e1, e2, e3, rc.kp k m (by simp; exact e2)⟩
  · rw [List.getElem?_append_right (by omega)] at q
    have hz : j - rs.length = 0 := by
      have := (List.getElem?_eq_some_iff.mp q).1
      rw [List.length_singleton] at this
      omega
    have hj2 : j = i := by omega
    rw [hz] at q
    cases q
    rw [hj2]
    exact ⟨r, rfl, n1, n2, hr.kp k m (by simp; exact n1)⟩
theorem Grow.goal {H0 H : Hp} {ra ga : Addr} {v : V} {i i' n : Nat} {A : Nat → Nat → Rat} {b : Nat → Rat} {gs : List V} (g : Grow H0 H ra ga i i' n A b) (e : H ga = some (.lst gs)) (hv : RatAt H v (b i')) :
    Grow H0 (upd H ga (.lst (gs ++ [v]))) ra ga i (i' + 1) n A b := by
  have k : Kp [ga] H (upd H ga (.lst (gs ++ [v]))) := .wr (by simp)
  have m : Mu [ga] H := .one e trivial
  obtain ⟨gs', e', l, x⟩ := g.goals
  rw [e] at e'
  cases e'
  obtain ⟨rs, er, lr, xr⟩ := g.rows
  refine ⟨g.kp.wr0 g.g0, ⟨rs, k _ _ er (by simp; exact g.ne), lr, fun j y q => let ⟨c, e1, e2, e3, rc⟩ := xr j y q; ⟨c, e1, e2, e3, rc.kp k m (by simp; exact e3)⟩⟩, .snoc e l x hv, g.ne, g.r0, g.g0⟩
theorem cmul_small {i j : Int} (h : 0 ≤ i) (h2 : i ≤ 1000000) : CMul i j := by
  left
  constructor <;> omega
theorem prI_E (g v : Nat → Int) : ∀ (M : List Addr) i H H' x, Kp M H H' → Mu M H → PrI H x (g i) (v i) → PrI H' x (g i) (v i) := fun _ _ _ _ _ k m h => h.kp k m
theorem val_ent {c : Nat → Bool} {u : Nat → Int} {z e : Int} {q k : Nat} (hz : z = (q : Nat)) (h : e = if k = q then 1 else if c k = true then u k else 0) :
    ((if (Sum.inl ((k : Nat) : Int) : Key) = Sum.inl z then some (V.int 1) else eK c u (.inl ((k : Nat) : Int))).getD (.int 0)) = .int e := by
  rw [hz, h]
  by_cases hk : k = q
  · rw [if_pos (by rw [hk]), if_pos hk]
    rfl
  · rw [if_neg (fun y => hk (by injection y with y; omega)), if_neg hk]
    show (if 0 ≤ ((k : Nat) : Int) ∧ c ((k : Nat) : Int).toNat = true then some (V.int (u ((k : Nat) : Int).toNat)) else none).getD (.int 0) = _
    rw [Int.toNat_natCast]
    by_cases hc : c k = true
    · rw [if_pos ⟨by omega, hc⟩, if_pos hc]
      rfl
    · rw [if_neg (fun y => hc y.2), if_neg hc]
      rfl
/-- the heap after {**d, key: 1} -/
theorem kp_star {H : Hp} {d b : Addr} {o1 o2 o3 o4 o5 : HO} (hd : H d = none) (hb : upd (upd H d o1) d o2 b = none) : Kp [] H (upd (upd (upd (upd (upd H d o1) d o2) b o3) b o4) d o5) := by
  have k1 : Kp [] H (upd (upd H d o1) d o2) := (Kp.new hd).wr0 hd
  have b0 : H b = none := k1.none hb (by simp)
  exact ((k1.wr0 b0).wr0 b0).wr0 hd
def spProg : Sp := fun vs H Q _ => ∃ wa a, vs = [.ref wa] ∧ WaAt H wa a ∧ a.Ok ∧ ∀ (H' : Hp) (t xa ya : Addr) (x y : Nat → Rat), Kp [] H H' → H' t = some (.tup [.str "best", .ref xa, .ref ya]) → RL H' xa a.n x → RL H' ya a.m y → Fin a x y →
  (∀ k, Sz 160 (x k)) → (∀ q, q < a.m → Sz 160 (y q)) → Q (.ref t) H'
abbrev NProg : List Str := ["water", "sources", "sinks", "wide", "rows", "goals", "flows", "many", "j", "flow", "dirt", "entries", "i", "costs", "k"]
theorem scProg : FnScope NProg ["water"] (defScope dProg) := ⟨rfl, rfl, rfl, by decide +kernel, rfl, by decide +kernel, by decide +kernel⟩
theorem ok_prog (F : Fun K "program_of" "program_of" dProg f fd) (T : Tx K mg) (h_whole_row : Has P w K mg base 1 "whole_row" ["many", "entries"] spWhole) (h_solved : Has P w K mg base 6 "solved" ["rows", "goals", "costs"] spSolved) : FnOk P w K mg base CX0 7 f fd ["water"] spProg := by
  refine F.ok scProg (fun vs H Q E h => ?_) (fun cdv A' outer s H vs Q E hr h => ?_)
  · obtain ⟨wa, a, rfl, _⟩ := h
    rfl
  · obtain ⟨wa, a, rfl, hw, ok, q⟩ := h
    have h_whole_row := h_whole_row.mono (show 1 ≤ 6 by decide)
    refine ⟨_, (pss_cons (ps_asg (pv 0) (pg_tupS (pgs_cons (pg_name (i := 1) scProg.nd rfl (Or.inr rfl)) (pgs_cons (pg_name (i := 2) scProg.nd rfl (Or.inl rfl)) pgs_nil))))
      (pss_cons (ps_asg (pe_tup (pa_cons (pe_callB call_lenT (by rfl) T.len PySem.boot_len (pa_cons (pv 2) pa_nil)) (pa_cons (pe_lst pa_nil) (pa_cons (pe_lst pa_nil) pa_nil)))) (pg_tupS (pgs_cons (pg_name (i := 3) scProg.nd rfl (Or.inr rfl)) (pgs_cons (pg_name (i := 4) scProg.nd rfl (Or.inl rfl)) (pgs_cons (pg_name (i := 5) scProg.nd rfl (Or.inl rfl)) pgs_nil)))))
      (pss_cons (ps_set (i := 6) scProg.nd rfl (Or.inr rfl) (pe_op op_mul (pe_callB call_lenT (by rfl) T.len PySem.boot_len (pa_cons (pv 1) pa_nil)) (pv 3)))
      (pss_cons (ps_set (i := 7) scProg.nd rfl (Or.inl rfl) (pe_op op_add (pe_op op_add (pe_op op_add (pv 6) (pv 3)) (pv 3)) (pe_callB call_lenT (by rfl) T.len PySem.boot_len (pa_cons (pv 1) pa_nil))))
      (pss_cons (ps_for PassesOwn.never rfl (pi_enumT (by rfl) T.enumerate (pa_cons (pv 2) pa_nil)) (pg_tupS (pgs_cons (pg_name (i := 8) scProg.nd rfl (Or.inr rfl)) (pgs_cons (pg_tupS (pgs_cons (pg_name (i := 9) scProg.nd rfl (Or.inl rfl)) (pgs_cons (pg_name (i := 10) scProg.nd rfl (Or.inl rfl)) pgs_nil))) pgs_nil)))
        (pss_cons (ps_set (i := 11) scProg.nd rfl (Or.inl rfl) (pe_callTy (call_dictP rfl) (by rfl) T.dict (by decide +kernel) (pa_cons (pe_lc (own := [("i", 12)]) (g := gName 12) (tt := tYes) rfl scProg.nd (pi_range1 (by rfl) T.range (pa_cons (pe_callB call_lenT (by rfl) T.len PySem.boot_len (pa_cons (pv 1) pa_nil)) pa_nil)) (blkOk_by (own := [("i", 12)]) (N := NProg) (sc := defScope dProg) (by decide +kernel)) (fun _ _ _ _ _ => (pg_name (i := 12) scProg.nd rfl (Or.inl rfl))) (fun _ _ _ _ _ => by exact pts_nil) (fun _ _ _ _ _ => by exact (pe_tup (pa_cons (pe_op op_add (pe_op op_mul (pv 12) (pv 3)) (pv 8)) (pa_cons pe_int pa_nil))))) pa_nil)))
        (pss_cons (ps_expr (pe_bm PySem.F.plainAttrs_list PySem.F.slot_list_append PySem.F.type_list_append mt_append (pv 4) (pa_cons (pe_callH h_whole_row hr (by rfl) (pa_cons (pv 7) (pa_cons (pe_dispStar (pv 11) (pe_op op_add (pv 6) (pv 8)) pe_int) pa_nil))) pa_nil)))
        (pss_one (ps_expr (pe_bm PySem.F.plainAttrs_list PySem.F.slot_list_append PySem.F.type_list_append mt_append (pv 5) (pa_cons (pe_tup (pa_cons (pv 9) (pa_cons pe_int pa_nil))) pa_nil)))))))
      (pss_cons (ps_for PassesOwn.never rfl (pi_enumT (by rfl) T.enumerate (pa_cons (pv 2) pa_nil)) (pg_tupS (pgs_cons (pg_name (i := 8) scProg.nd rfl (Or.inr rfl)) (pgs_cons (pg_tupS (pgs_cons (pg_name (i := 9) scProg.nd rfl (Or.inl rfl)) (pgs_cons (pg_name (i := 10) scProg.nd rfl (Or.inl rfl)) pgs_nil))) pgs_nil)))
        (pss_cons (ps_set (i := 11) scProg.nd rfl (Or.inl rfl) (pe_callTy (call_dictP rfl) (by rfl) T.dict (by decide +kernel) (pa_cons (pe_lc (own := [("i", 12)]) (g := gName 12) (tt := tYes) rfl scProg.nd (pi_range1 (by rfl) T.range (pa_cons (pe_callB call_lenT (by rfl) T.len PySem.boot_len (pa_cons (pv 1) pa_nil)) pa_nil)) (blkOk_by (own := [("i", 12)]) (N := NProg) (sc := defScope dProg) (by decide +kernel)) (fun _ _ _ _ _ => (pg_name (i := 12) scProg.nd rfl (Or.inl rfl))) (fun _ _ _ _ _ => by exact pts_nil) (fun _ _ _ _ _ => by exact (pe_tup (pa_cons (pe_op op_add (pe_op op_mul (pv 12) (pv 3)) (pv 8)) (pa_cons (pe_ix ix_tupS (pe_ix ix_tupS (pv 1) (pv 12) (by intro _ _; rfl)) pe_int (by intro _ _; rfl)) pa_nil))))) pa_nil)))
        (pss_cons (ps_expr (pe_bm PySem.F.plainAttrs_list PySem.F.slot_list_append PySem.F.type_list_append mt_append (pv 4) (pa_cons (pe_callH h_whole_row hr (by rfl) (pa_cons (pv 7) (pa_cons (pe_dispStar (pv 11) (pe_op op_add (pe_op op_add (pv 6) (pv 3)) (pv 8)) pe_int) pa_nil))) pa_nil)))
        (pss_one (ps_expr (pe_bm PySem.F.plainAttrs_list PySem.F.slot_list_append PySem.F.type_list_append mt_append (pv 5) (pa_cons (pe_tup (pa_cons (pe_op op_mul (pv 9) (pv 10)) (pa_cons pe_int pa_nil))) pa_nil)))))))
      (pss_cons (ps_for PassesOwn.never rfl (pi_enumT (by rfl) T.enumerate (pa_cons (pv 1) pa_nil)) (pg_tupS (pgs_cons (pg_name (i := 12) scProg.nd rfl (Or.inr rfl)) (pgs_cons (pg_tupS (pgs_cons (pg_name (i := 9) scProg.nd rfl (Or.inl rfl)) (pgs_cons (pg_name (i := 10) scProg.nd rfl (Or.inl rfl)) pgs_nil))) pgs_nil)))
        (pss_cons (ps_set (i := 11) scProg.nd rfl (Or.inl rfl) (pe_callTy (call_dictP rfl) (by rfl) T.dict (by decide +kernel) (pa_cons (pe_lc (own := [("j", 8)]) (g := gName 8) (tt := tYes) rfl scProg.nd (pi_range1 (by rfl) T.range (pa_cons (pv 3) pa_nil)) (blkOk_by (own := [("j", 8)]) (N := NProg) (sc := defScope dProg) (by decide +kernel)) (fun _ _ _ _ _ => (pg_name (i := 8) scProg.nd rfl (Or.inl rfl))) (fun _ _ _ _ _ => by exact pts_nil) (fun _ _ _ _ _ => by exact (pe_tup (pa_cons (pe_op op_add (pe_op op_mul (pv 12) (pv 3)) (pv 8)) (pa_cons pe_int pa_nil))))) pa_nil)))
        (pss_cons (ps_expr (pe_bm PySem.F.plainAttrs_list PySem.F.slot_list_append PySem.F.type_list_append mt_append (pv 4) (pa_cons (pe_callH h_whole_row hr (by rfl) (pa_cons (pv 7) (pa_cons (pe_dispStar (pv 11) (pe_op op_add (pe_op op_add (pv 6) (pe_op op_mul pe_int (pv 3))) (pv 12)) pe_int) pa_nil))) pa_nil)))
        (pss_one (ps_expr (pe_bm PySem.F.plainAttrs_list PySem.F.slot_list_append PySem.F.type_list_append mt_append (pv 5) (pa_cons (pe_tup (pa_cons (pv 9) (pa_cons pe_int pa_nil))) pa_nil)))))))
      (pss_cons (ps_setLc (i := 13) (own := [("k", 14)]) (g := gName 14) (tt := tYes) rfl scProg.nd rfl rfl (sw_true rfl rfl rfl (by decide +kernel)) (pi_range1 (by rfl) T.range (pa_cons (pv 7) pa_nil)) (blkOk_by (own := [("k", 14)]) (N := NProg) (sc := defScope dProg) (by decide +kernel)) (fun _ _ _ _ _ => (pg_name (i := 14) scProg.nd rfl (Or.inl rfl))) (fun _ _ _ _ _ => by exact pts_nil) (fun _ _ _ _ _ => by exact (pe_ifExp (pt_chain op_le op_lt (pv 6) (pv 14) (pe_op op_add (pv 6) (pv 3))) (pe_tup (pa_cons (pe_un un_neg pe_int) (pa_cons pe_int pa_nil))) (pe_tup (pa_cons pe_int (pa_cons pe_int pa_nil))))))
      (pss_one (ps_ret (pe_callH h_solved hr (by rfl) (pa_cons (pv 4) (pa_cons (pv 5) (pa_cons (pv 13) pa_nil)))))))))))))), ?_⟩
    obtain ⟨so, si, ew, ⟨vo, eo, lo, xo⟩, vi, ei, li, xi⟩ := id hw
    refine ⟨_, rfl, wa, _, rfl, ew, rfl, _, _, rfl, _, _, rfl, rfl, ?_⟩
    have p3 := ok.p3
    have w3 := ok.w3
    have p0 := ok.p0
    have w0 := ok.w0
    have hF : a.F ≤ 9 := Nat.mul_le_mul p3 w3
    have hn : a.n ≤ 900 := by unfold Wa.n; omega
    have hm9 : a.m ≤ 9 := by unfold Wa.m; omega
    refine ⟨_, rfl, si, vi, rfl, ei, Nat.zero_le _, fun ra hra => ⟨Nat.zero_le _, fun ga hga => ⟨by show 3 ≤ sizeLine; decide, fun t0 ht0 => ?_⟩⟩⟩
    have nrg : ra ≠ ga := ne_of_none upd_same hga
    have g0 : H ga = none := by rw [upd_ne nrg.symm] at hga; exact hga
    have nrt : ra ≠ t0 := ne_of_none ((upd_ne nrg).trans upd_same) ht0
    have ngt : ga ≠ t0 := ne_of_none upd_same ht0
    refine ⟨t0, _, rfl, upd_same, rfl, _, _, rfl, _, _, rfl, _, _, rfl, rfl, ?_⟩
    have k1 : Kp [] H (upd (upd (upd H ra (.lst [])) ga (.lst [])) t0 (.tup [.int ((vi.length : Nat) : Int), .ref ra, .ref ga])) := ((Kp.new hra).trans (.new hga)).trans (.new ht0)
    have gr : Grow H (upd (upd (upd H ra (.lst [])) ga (.lst [])) t0 (.tup [.int ((vi.length : Nat) : Int), .ref ra, .ref ga])) ra ga 0 0 a.n a.A a.b :=
      ⟨k1, ⟨[], by rw [upd_ne nrt, upd_ne nrg]; exact upd_same, rfl, fun j x e => by simp at e⟩, ⟨[], by rw [upd_ne ngt]; exact upd_same, rfl, fun j x e => by simp at e⟩, nrg, hra, g0⟩
    generalize upd (upd (upd H ra (.lst [])) ga (.lst [])) t0 (.tup [.int ((vi.length : Nat) : Int), .ref ra, .ref ga]) = H1 at gr ⊢
    clear k1 hga ht0 ngt nrt
    refine ⟨_, rfl, so, vo, rfl, gr.kp _ _ eo (by simp), _, rfl, _, _, rfl, rfl, cmul_small (by omega) (by omega), ?_⟩
    refine ⟨_, rfl, _, rfl, _, _, rfl, rfl, _, rfl, _, _, rfl, rfl, _, rfl, so, vo, rfl, gr.kp _ _ eo (by simp), _, _, rfl, rfl, ?_⟩
    have eF : ((vo.length : Nat) : Int) * ((vi.length : Nat) : Int) = ((a.F : Nat) : Int) := by rw [lo, li]; unfold Wa.F; rw [Int.natCast_mul]
    have eN : ((vo.length : Nat) : Int) * ((vi.length : Nat) : Int) + ((vi.length : Nat) : Int) + ((vi.length : Nat) : Int) + ((vo.length : Nat) : Int) = ((a.n : Nat) : Int) := by rw [eF, lo, li]; unfold Wa.n; omega
    refine ⟨_, rfl, si, vi, rfl, gr.kp _ _ ei (by simp), for_it (walk_enumT (a := si) (xs := vi)) (fun i σ H' => ∃ o8 o9 o10 o11 : Option V, σ = [some (.ref wa), some (.ref so), some (.ref si), some (.int (a.w : Nat)), some (.ref ra), some (.ref ga), some (.int (a.F : Nat)), some (.int (a.n : Nat)), o8, o9, o10, o11, none, none, none] ∧
      Grow H H' ra ga i i a.n a.A a.b) ⟨none, none, none, none, by
        show [some (V.ref wa), some (.ref so), some (.ref si), some (.int ((vi.length : Nat) : Int)), some (.ref ra), some (.ref ga), some (.int (((vo.length : Nat) : Int) * ((vi.length : Nat) : Int))), some (.int (((vo.length : Nat) : Int) * ((vi.length : Nat) : Int) + ((vi.length : Nat) : Int) + ((vi.length : Nat) : Int) + ((vo.length : Nat) : Int))), none, none, none, none, none, none, none] = _
        rw [eN, eF, li], gr⟩ (fun i σ H' _ ⟨_, _, _, _, _, g⟩ => g.kp _ _ ei (by simp)) ?_ ?_⟩
    · rintro j x σ H2 H3 hj ⟨o8, o9, o10, o11, rfl, g2⟩ ⟨T', x', y', rfl, hT, rfl, ex, ey⟩
      cases ex
      have hj2 : j < a.w := by omega
      obtain ⟨pp, rfl, ep⟩ := xi j y' ey
      have kT : Kp [] H2 (upd H2 T' (.tup [.int ((j : Nat) : Int), .ref pp])) := .new hT
      have pT : upd H2 T' (.tup [.int ((j : Nat) : Int), .ref pp]) T' = some (.tup [.int ((j : Nat) : Int), .ref pp]) := upd_same
      generalize upd H2 T' (.tup [.int ((j : Nat) : Int), .ref pp]) = H3 at kT pT ⊢
      have g3 := g2.kp0 kT
      refine ⟨T', _, rfl, pT, rfl, _, _, rfl, _, _, rfl, pp, _, rfl, g3.kp _ _ ep (by simp), rfl, _, _, rfl, _, _, rfl, rfl, rfl, ?_⟩
      -- entries
      refine ⟨_, rfl, so, vo, rfl, g3.kp _ _ eo (by simp), _, rfl, by omega, by omega, fun D hD => lc_made walk_range (fun i H v => PrI H v ((i * a.w + j : Nat) : Int) (1 : Int)) (prI_E (fun i => ((i * a.w + j : Nat) : Int)) fun _ => 1) hD (by simp; exact small1000 (by omega)) (fun _ _ => trivial) ?_ (fun _ _ _ _ => gName_mono) ?_⟩
      · rintro i x H4 H5 R hi k4 ⟨rfl, rfl⟩ hR
        refine ⟨rfl, _, rfl, _, rfl, _, _, rfl, rfl, cmul_small (by omega) (by simp at hi; omega), _, rfl, _, _, rfl, rfl, by show 2 ≤ sizeLine; decide, fun q hq => hR _ _ (.new hq) ⟨q, rfl, ?_⟩⟩
        rw [Int.zero_add, ← Int.natCast_mul]
        exact upd_same.trans (by rw [Int.natCast_add])
      · intro H4 acc k4 hA hl hx
        have hl2 : acc.length = a.p := by rw [hl]; simp; exact lo
        obtain ⟨ps, kvs, rfl, hps, lk, m1, m2⟩ := pairs_kv (K := K) acc _ _ hx
        rw [hl2] at m1 m2
        have hds := ds_of (c := fun z => decide (z < a.F ∧ z % a.w = j)) (u := fun _ => 1) m1 m2 (fun i hi => ⟨by omega, by rw [Int.toNat_natCast]; exact decide_eq_true ⟨Wa.lt hi hj2, Wa.md hj2⟩, rfl⟩) fun z hz => by
          have hz := of_decide_eq_true hz
          exact ⟨z / a.w, Wa.div_lt hz.1, by rw [← hz.2, Nat.div_add_mod']⟩
        refine ⟨D, ps, kvs, rfl, SqL.of hA, hps, fun d hd => ?_⟩
        have g5 := (g3.kp0 k4).kp0 (.new (o := .dK (mergeK [] kvs)) hd)
        have e5 : upd H4 d (.dK (mergeK [] kvs)) d = some (.dK (mergeK [] kvs)) := upd_same
        generalize upd H4 d (.dK (mergeK [] kvs)) = H5 at g5 e5 ⊢
        obtain ⟨rs, er, lr, xr⟩ := id g5.rows
        -- rows.append(whole_row(many, {**entries, flows + j: 1}))
        refine ⟨_, rfl, .inl ⟨rfl, _, SqL.of er⟩, _, rfl, fun d2 hd2 => ?_⟩
        have nd : d ≠ d2 := ne_of_none e5 hd2
        refine ⟨_, rfl, d, mergeK [] kvs, rfl, (upd_ne nd).trans e5, upd_same, nd, Nat.le_trans (length_mergeK kvs []) (by simp; omega), fun b2 hb2 => ?_⟩
        refine ⟨_, rfl, _, rfl, _, _, rfl, rfl, .inl (((a.F : Nat) : Int) + ((j : Nat) : Int)), rfl, upd_same, by rw [upd_ne (ne_of_none upd_same hb2)]; exact upd_same, ?_⟩
        have k6 := kp_star (o3 := .dK []) (o4 := .dK (mergeK [] [(.inl (((a.F : Nat) : Int) + ((j : Nat) : Int)), .int 1)])) (o5 := .dK (mergeK (mergeK [] (mergeK [] kvs)) (mergeK [] [(.inl (((a.F : Nat) : Int) + ((j : Nat) : Int)), .int 1)]))) hd2 hb2
        refine ⟨a.n, d2, _, a.ent j, rfl, upd_same, by omega, fun k hk => ?_, fun H7 r r0 k7 rl => ?_⟩
        · rw [ds_star hds]
          refine val_ent (q := a.F + j) (by rw [Int.natCast_add]) ?_
          unfold Wa.ent
          rw [if_pos hj2]
          simp only [decide_eq_true_eq]
        · have g7 := (g5.kp0 k6).kp0 k7
          have er7 := k7 _ _ (k6 _ _ er (by simp)) (by simp)
          have n1 : r ≠ ra := (ne_of_none (k6 _ _ er (by simp)) r0).symm
          obtain ⟨gs, eg, lg, xg⟩ := id g5.goals
          have n2 : r ≠ ga := (ne_of_none (k6 _ _ eg (by simp)) r0).symm
          refine ⟨ra, rs, _, rfl, rfl, er7, small1000 (by omega), ?_⟩
          have g8 := g7.row er7 rl n1 n2
          have eg8 : upd H7 ra (.lst (rs ++ [.ref r])) ga = some (.lst gs) := (upd_ne nrg.symm).trans (k7 _ _ (k6 _ _ eg (by simp)) (by simp))
          generalize upd H7 ra (.lst (rs ++ [.ref r])) = H8 at g8 eg8 ⊢
          -- goals.append((flow, 1))
          refine ⟨_, rfl, .inl ⟨rfl, _, SqL.of eg8⟩, _, rfl, by show 2 ≤ sizeLine; decide, fun q1 hq1 => ⟨ga, gs, _, rfl, rfl, (Kp.new (M := []) hq1) _ _ eg8 (by simp), small1000 (by omega), ?_⟩⟩
          have g9 := g8.kp0 (.new (o := .tup [.int (a.fk j), .int 1]) hq1)
          refine ⟨_, _, _, _, rfl, g9.goal ((Kp.new (M := []) hq1) _ _ eg8 (by simp)) ?_⟩
          have e1 : a.b j = ((a.fk j : Int) : Rat) := by
            unfold Wa.b Wa.goal
            rw [if_pos hj2]
          rw [e1]
          exact .int upd_same
    · rintro σ H20 ⟨p8, p9, p10, p11, rfl, gr2⟩
      rw [li] at gr2
      refine ⟨_, rfl, si, vi, rfl, gr2.kp _ _ ei (by simp), for_it (walk_enumT (a := si) (xs := vi)) (fun i σ H' => ∃ o8 o9 o10 o11 : Option V, σ = [some (.ref wa), some (.ref so), some (.ref si), some (.int (a.w : Nat)), some (.ref ra), some (.ref ga), some (.int (a.F : Nat)), some (.int (a.n : Nat)), o8, o9, o10, o11, none, none, none] ∧
      Grow H H' ra ga (a.w + i) (a.w + i) a.n a.A a.b) ⟨p8, p9, p10, p11, rfl, gr2⟩ (fun i σ H' _ ⟨_, _, _, _, _, g⟩ => g.kp _ _ ei (by simp)) ?_ ?_⟩
      · rintro j x σ H2 H3 hj ⟨o8, o9, o10, o11, rfl, g2⟩ ⟨T', x', y', rfl, hT, rfl, ex, ey⟩
        cases ex
        have hj2 : j < a.w := by omega
        obtain ⟨pp, rfl, ep⟩ := xi j y' ey
        have kT : Kp [] H2 (upd H2 T' (.tup [.int ((j : Nat) : Int), .ref pp])) := .new hT
        have pT : upd H2 T' (.tup [.int ((j : Nat) : Int), .ref pp]) T' = some (.tup [.int ((j : Nat) : Int), .ref pp]) := upd_same
        generalize upd H2 T' (.tup [.int ((j : Nat) : Int), .ref pp]) = H3 at kT pT ⊢
        have g3 := g2.kp0 kT
        refine ⟨T', _, rfl, pT, rfl, _, _, rfl, _, _, rfl, pp, _, rfl, g3.kp _ _ ep (by simp), rfl, _, _, rfl, _, _, rfl, rfl, rfl, ?_⟩
        -- entries
        refine ⟨_, rfl, so, vo, rfl, g3.kp _ _ eo (by simp), _, rfl, by omega, by omega, fun D hD => lc_made walk_range (fun i H v => PrI H v ((i * a.w + j : Nat) : Int) (a.di i)) (prI_E (fun i => ((i * a.w + j : Nat) : Int)) a.di) hD (by simp; exact small1000 (by omega)) (fun _ _ => trivial) ?_ (fun _ _ _ _ => gName_mono) ?_⟩
        · rintro i x H4 H5 R hi k4 ⟨rfl, rfl⟩ hR
          obtain ⟨xs, es⟩ : ∃ y, vo[i]? = some y := ⟨_, List.getElem?_eq_getElem (by simpa using hi)⟩
          obtain ⟨ps, rfl, eps⟩ := xo i xs es
          refine ⟨rfl, _, rfl, _, rfl, _, _, rfl, rfl, cmul_small (by omega) (by simp at hi; omega), _, rfl, _, _, rfl, rfl, _, rfl, _, rfl, so, vo, _, .ref ps, rfl, rfl, (g3.kp0 k4).kp _ _ eo (by simp), by rw [Int.zero_add]; exact atI_nat es, ps, _, _, _, rfl, rfl, (g3.kp0 k4).kp _ _ eps (by simp), rfl, by show 2 ≤ sizeLine; decide, fun q hq => hR _ _ (.new hq) ⟨q, rfl, ?_⟩⟩
          rw [Int.zero_add, ← Int.natCast_mul]
          exact upd_same.trans (by rw [Int.natCast_add])
        · intro H4 acc k4 hA hl hx
          have hl2 : acc.length = a.p := by rw [hl]; simp; exact lo
          obtain ⟨ps, kvs, rfl, hps, lk, m1, m2⟩ := pairs_kv (K := K) acc _ _ hx
          rw [hl2] at m1 m2
          have hds := ds_of (c := fun z => decide (z < a.F ∧ z % a.w = j)) (u := fun z => a.di (z / a.w)) m1 m2 (fun i hi => ⟨by omega, by rw [Int.toNat_natCast]; exact decide_eq_true ⟨Wa.lt hi hj2, Wa.md hj2⟩, by rw [Int.toNat_natCast, Wa.dv hj2]⟩) fun z hz => by
            have hz := of_decide_eq_true hz
            exact ⟨z / a.w, Wa.div_lt hz.1, by rw [← hz.2, Nat.div_add_mod']⟩
          refine ⟨D, ps, kvs, rfl, SqL.of hA, hps, fun d hd => ?_⟩
          have g5 := (g3.kp0 k4).kp0 (.new (o := .dK (mergeK [] kvs)) hd)
          have e5 : upd H4 d (.dK (mergeK [] kvs)) d = some (.dK (mergeK [] kvs)) := upd_same
          generalize upd H4 d (.dK (mergeK [] kvs)) = H5 at g5 e5 ⊢
          obtain ⟨rs, er, lr, xr⟩ := id g5.rows
          -- rows.append(whole_row(many, {**entries, flows + j: 1}))
          refine ⟨_, rfl, .inl ⟨rfl, _, SqL.of er⟩, _, rfl, fun d2 hd2 => ?_⟩
          have nd : d ≠ d2 := ne_of_none e5 hd2
          refine ⟨_, rfl, d, mergeK [] kvs, rfl, (upd_ne nd).trans e5, upd_same, nd, Nat.le_trans (length_mergeK kvs []) (by simp; omega), fun b2 hb2 => ?_⟩
          refine ⟨_, rfl, _, rfl, _, _, rfl, rfl, _, rfl, _, _, rfl, rfl, .inl (((a.F : Nat) : Int) + ((a.w : Nat) : Int) + ((j : Nat) : Int)), rfl, upd_same, by rw [upd_ne (ne_of_none upd_same hb2)]; exact upd_same, ?_⟩
          have k6 := kp_star (o3 := .dK []) (o4 := .dK (mergeK [] [(.inl (((a.F : Nat) : Int) + ((a.w : Nat) : Int) + ((j : Nat) : Int)), .int 1)])) (o5 := .dK (mergeK (mergeK [] (mergeK [] kvs)) (mergeK [] [(.inl (((a.F : Nat) : Int) + ((a.w : Nat) : Int) + ((j : Nat) : Int)), .int 1)]))) hd2 hb2
          refine ⟨a.n, d2, _, a.ent (a.w + j), rfl, upd_same, by omega, fun k hk => ?_, fun H7 r r0 k7 rl => ?_⟩
          · rw [ds_star hds]
            refine val_ent (q := a.F + a.w + j) (by rw [Int.natCast_add, Int.natCast_add]) ?_
            unfold Wa.ent
            rw [if_neg (by omega), if_pos (by omega), Nat.add_sub_cancel_left]
            simp only [decide_eq_true_eq]
          · have g7 := (g5.kp0 k6).kp0 k7
            have er7 := k7 _ _ (k6 _ _ er (by simp)) (by simp)
            have n1 : r ≠ ra := (ne_of_none (k6 _ _ er (by simp)) r0).symm
            obtain ⟨gs, eg, lg, xg⟩ := id g5.goals
            have n2 : r ≠ ga := (ne_of_none (k6 _ _ eg (by simp)) r0).symm
            refine ⟨ra, rs, _, rfl, rfl, er7, small1000 (by omega), ?_⟩
            have g8 := g7.row er7 rl n1 n2
            have eg8 : upd H7 ra (.lst (rs ++ [.ref r])) ga = some (.lst gs) := (upd_ne nrg.symm).trans (k7 _ _ (k6 _ _ eg (by simp)) (by simp))
            generalize upd H7 ra (.lst (rs ++ [.ref r])) = H8 at g8 eg8 ⊢
            -- goals.append((flow, 1))
            refine ⟨_, rfl, .inl ⟨rfl, _, SqL.of eg8⟩, _, rfl, _, rfl, _, _, rfl, rfl, cmul_small (by have := ok.fk0 j hj2; omega) (by have := ok.fk0 j hj2; omega), by show 2 ≤ sizeLine; decide, fun q1 hq1 => ⟨ga, gs, _, rfl, rfl, (Kp.new (M := []) hq1) _ _ eg8 (by simp), small1000 (by omega), ?_⟩⟩
            have g9 := g8.kp0 (.new (o := .tup [.int (a.fk j * a.dk j), .int 1]) hq1)
            refine ⟨_, _, _, _, rfl, g9.goal ((Kp.new (M := []) hq1) _ _ eg8 (by simp)) ?_⟩
            have e1 : a.b (a.w + j) = ((a.fk j * a.dk j : Int) : Rat) := by
              unfold Wa.b Wa.goal
              rw [if_neg (by omega), if_pos (by omega), Nat.add_sub_cancel_left]
            rw [e1]
            exact .int upd_same
      · rintro σ H30 ⟨p8, p9, p10, p11, rfl, gr3⟩
        rw [li] at gr3
        refine ⟨_, rfl, so, vo, rfl, gr3.kp _ _ eo (by simp), for_it (walk_enumT (a := so) (xs := vo)) (fun i σ H' => ∃ o8 o9 o10 o11 o12 : Option V, σ = [some (.ref wa), some (.ref so), some (.ref si), some (.int (a.w : Nat)), some (.ref ra), some (.ref ga), some (.int (a.F : Nat)), some (.int (a.n : Nat)), o8, o9, o10, o11, o12, none, none] ∧
      Grow H H' ra ga (a.w + a.w + i) (a.w + a.w + i) a.n a.A a.b) ⟨p8, p9, p10, p11, none, rfl, gr3⟩ (fun i σ H' _ ⟨_, _, _, _, _, _, g⟩ => g.kp _ _ eo (by simp)) ?_ ?_⟩
        · rintro j x σ H2 H3 hj ⟨o8, o9, o10, o11, o12, rfl, g2⟩ ⟨T', x', y', rfl, hT, rfl, ex, ey⟩
          cases ex
          have hj2 : j < a.p := by omega
          obtain ⟨pp, rfl, ep⟩ := xo j y' ey
          have kT : Kp [] H2 (upd H2 T' (.tup [.int ((j : Nat) : Int), .ref pp])) := .new hT
          have pT : upd H2 T' (.tup [.int ((j : Nat) : Int), .ref pp]) T' = some (.tup [.int ((j : Nat) : Int), .ref pp]) := upd_same
          generalize upd H2 T' (.tup [.int ((j : Nat) : Int), .ref pp]) = H3 at kT pT ⊢
          have g3 := g2.kp0 kT
          refine ⟨T', _, rfl, pT, rfl, _, _, rfl, _, _, rfl, pp, _, rfl, g3.kp _ _ ep (by simp), rfl, _, _, rfl, _, _, rfl, rfl, rfl, ?_⟩
          -- entries
          refine ⟨_, rfl, _, rfl, by omega, by omega, fun D hD => lc_made walk_range (fun i H v => PrI H v ((j * a.w + i : Nat) : Int) (1 : Int)) (prI_E (fun i => ((j * a.w + i : Nat) : Int)) fun _ => 1) hD (by simp; exact small1000 (by omega)) (fun _ _ => trivial) ?_ (fun _ _ _ _ => gName_mono) ?_⟩
          · rintro i x H4 H5 R hi k4 ⟨rfl, rfl⟩ hR
            refine ⟨rfl, _, rfl, _, rfl, _, _, rfl, rfl, cmul_small (by omega) (by omega), _, rfl, _, _, rfl, rfl, by show 2 ≤ sizeLine; decide, fun q hq => hR _ _ (.new hq) ⟨q, rfl, ?_⟩⟩
            rw [← Int.natCast_mul]
            exact upd_same.trans (by show some (HO.tup [V.int (((j * a.w : Nat) : Int) + (0 + ((i : Nat) : Int))), V.int 1]) = _; rw [Int.natCast_add, Int.zero_add])
          · intro H4 acc k4 hA hl hx
            have hl2 : acc.length = a.w := by rw [hl]; simp
            obtain ⟨ps, kvs, rfl, hps, lk, m1, m2⟩ := pairs_kv (K := K) acc _ _ hx
            rw [hl2] at m1 m2
            have hds := ds_of (c := fun z => decide (z < a.F ∧ z / a.w = j)) (u := fun _ => 1) m1 m2 (fun i hi => ⟨by omega, by rw [Int.toNat_natCast]; exact decide_eq_true ⟨Wa.lt hj2 hi, Wa.dv hi⟩, rfl⟩) fun z hz => by
              have hz := of_decide_eq_true hz
              exact ⟨z % a.w, Wa.mod_lt ok z, by rw [← hz.2, Nat.div_add_mod']⟩
            refine ⟨D, ps, kvs, rfl, SqL.of hA, hps, fun d hd => ?_⟩
            have g5 := (g3.kp0 k4).kp0 (.new (o := .dK (mergeK [] kvs)) hd)
            have e5 : upd H4 d (.dK (mergeK [] kvs)) d = some (.dK (mergeK [] kvs)) := upd_same
            generalize upd H4 d (.dK (mergeK [] kvs)) = H5 at g5 e5 ⊢
            obtain ⟨rs, er, lr, xr⟩ := id g5.rows
            -- rows.append(whole_row(many, {**entries, flows + j: 1}))
            refine ⟨_, rfl, .inl ⟨rfl, _, SqL.of er⟩, _, rfl, fun d2 hd2 => ?_⟩
            have nd : d ≠ d2 := ne_of_none e5 hd2
            refine ⟨_, rfl, d, mergeK [] kvs, rfl, (upd_ne nd).trans e5, upd_same, nd, Nat.le_trans (length_mergeK kvs []) (by simp; omega), fun b2 hb2 => ?_⟩
            refine ⟨_, rfl, _, rfl, _, _, rfl, rfl, cmul_small (by decide) (by decide), _, _, rfl, rfl, _, rfl, _, _, rfl, rfl, .inl (((a.F : Nat) : Int) + 2 * ((a.w : Nat) : Int) + ((j : Nat) : Int)), rfl, upd_same, by rw [upd_ne (ne_of_none upd_same hb2)]; exact upd_same, ?_⟩
            have k6 := kp_star (o3 := .dK []) (o4 := .dK (mergeK [] [(.inl (((a.F : Nat) : Int) + 2 * ((a.w : Nat) : Int) + ((j : Nat) : Int)), .int 1)])) (o5 := .dK (mergeK (mergeK [] (mergeK [] kvs)) (mergeK [] [(.inl (((a.F : Nat) : Int) + 2 * ((a.w : Nat) : Int) + ((j : Nat) : Int)), .int 1)]))) hd2 hb2
            refine ⟨a.n, d2, _, a.ent (a.w + a.w + j), rfl, upd_same, by omega, fun k hk => ?_, fun H7 r r0 k7 rl => ?_⟩
            · rw [ds_star hds]
              refine val_ent (q := a.F + a.w + a.w + j) (by omega) ?_
              unfold Wa.ent
              rw [if_neg (by omega), if_neg (by omega), Nat.add_sub_cancel_left]
              simp only [decide_eq_true_eq]
            · have g7 := (g5.kp0 k6).kp0 k7
              have er7 := k7 _ _ (k6 _ _ er (by simp)) (by simp)
              have n1 : r ≠ ra := (ne_of_none (k6 _ _ er (by simp)) r0).symm
              obtain ⟨gs, eg, lg, xg⟩ := id g5.goals
              have n2 : r ≠ ga := (ne_of_none (k6 _ _ eg (by simp)) r0).symm
              refine ⟨ra, rs, _, rfl, rfl, er7, small1000 (by omega), ?_⟩
              have g8 := g7.row er7 rl n1 n2
              have eg8 : upd H7 ra (.lst (rs ++ [.ref r])) ga = some (.lst gs) := (upd_ne nrg.symm).trans (k7 _ _ (k6 _ _ eg (by simp)) (by simp))
              generalize upd H7 ra (.lst (rs ++ [.ref r])) = H8 at g8 eg8 ⊢
              -- goals.append((flow, 1))
              refine ⟨_, rfl, .inl ⟨rfl, _, SqL.of eg8⟩, _, rfl, by show 2 ≤ sizeLine; decide, fun q1 hq1 => ⟨ga, gs, _, rfl, rfl, (Kp.new (M := []) hq1) _ _ eg8 (by simp), small1000 (by omega), ?_⟩⟩
              have g9 := g8.kp0 (.new (o := .tup [.int (a.fl j), .int 1]) hq1)
              refine ⟨_, _, _, _, _, rfl, g9.goal ((Kp.new (M := []) hq1) _ _ eg8 (by simp)) ?_⟩
              have e1 : a.b (a.w + a.w + j) = ((a.fl j : Int) : Rat) := by
                unfold Wa.b Wa.goal
                rw [if_neg (by omega), if_neg (by omega), Nat.add_sub_cancel_left]
              rw [e1]
              exact .int upd_same
        · rintro σ H40 ⟨p8, p9, p10, p11, p12, rfl, g4⟩
          rw [lo] at g4
          refine ⟨_, rfl, _, rfl, by omega, by omega, fun D hD => lc_made walk_range (fun k H v => RatAt H v (a.c k)) (ratAt_E a.c) hD (by simp; exact small1000 (by omega)) (fun _ _ => trivial) ?_ (fun _ _ _ _ => gName_mono) ?_⟩
          · rintro k x H5 H6 R hk k5 ⟨rfl, rfl⟩ hR
            have z0 : (0 : Int) + ((k : Nat) : Int) = ((k : Nat) : Int) := Int.zero_add _
            have fin0 : ¬ (a.F ≤ k ∧ k < a.F + a.w) → tTup (tCons (tC (V.int 0)) (tCons (tC (V.int 1)) tNil)) [] H6 R := fun hn => ⟨by show 2 ≤ sizeLine; decide, fun q hq => hR _ _ (.new hq) (by
              have e : a.c k = ((0 : Int) : Rat) := by
                unfold Wa.c Wa.cost
                rw [if_neg hn]
              rw [e]
              exact .int upd_same)⟩
            by_cases h1 : a.F ≤ k
            · refine ⟨rfl, _, rfl, _, rfl, _, _, rfl, rfl, true, by show V.bl (decide _) = _; rw [decide_eq_true (by omega)], ?_⟩
              rw [if_pos rfl]
              by_cases h2 : k < a.F + a.w
              · refine ⟨_, rfl, _, rfl, _, _, rfl, rfl, _, _, rfl, rfl, _, rfl, ?_⟩
                rw [decide_eq_true (show (0 : Int) + ((k : Nat) : Int) < ((a.F : Nat) : Int) + ((a.w : Nat) : Int) by omega)]
                refine iteT ⟨_, rfl, by show 2 ≤ sizeLine; decide, fun q hq => hR _ _ (.new hq) ?_⟩
                have e : a.c k = ((-1 : Int) : Rat) := by
                  unfold Wa.c Wa.cost
                  rw [if_pos ⟨h1, h2⟩]
                rw [e]
                exact .int upd_same
              · refine ⟨_, rfl, _, rfl, _, _, rfl, rfl, _, _, rfl, rfl, _, rfl, ?_⟩
                rw [decide_eq_false (show ¬ (0 : Int) + ((k : Nat) : Int) < ((a.F : Nat) : Int) + ((a.w : Nat) : Int) by omega)]
                exact iteF (fin0 fun z => h2 z.2)
            · refine ⟨rfl, _, rfl, _, rfl, _, _, rfl, rfl, false, by show V.bl (decide _) = _; rw [decide_eq_false (by omega)], ?_⟩
              rw [if_neg (by decide)]
              refine ⟨_, rfl, ?_⟩
              exact iteF (fin0 fun z => h1 z.1)
          · intro H5 acc k5 hA hl hx
            have g5 := g4.kp0 k5
            obtain ⟨rs, er, lr, xr⟩ := g5.rows
            have lp : Lp a.n a.m a.A a.b a.c := ⟨by unfold Wa.m; omega, hm9, hn, ⟨29900, by decide, by decide, fun i k _ _ => ent_ib ok i k, fun i hi => goal_ib ok hi, (big ok).2⟩, fun i hi => goal_nn ok hi, fun k _ => cost_neg k, fun k _ => cost_ib k, own_col, ⟨_, start_nn ok, start_eq⟩⟩
            refine ⟨_, rfl, _, rfl, _, rfl, ra, ga, D, a.n, a.m, a.A, a.b, a.c, rfl, ⟨rs, er, lr, fun j x e => let ⟨r, e1, _, _, e2⟩ := xr j x e; ⟨r, e1, e2⟩⟩, g5.goals, ⟨acc, hA, by rw [hl]; simp, hx⟩, lp, fun H6 t xa ya s k6 et rx ry cl hB top => ?_⟩
            refine q H6 t xa ya _ _ (g5.kp.trans k6) et rx ry (fin_of cl.good cl.feas hB top) (fun k => ?_) fun j hj => ?_
            · by_cases hk : InB a.m s k
              · obtain ⟨j, hj, e⟩ := hk
                rw [← e, amt_bas cl.good hj]
                exact cl.zs.sz j _ hj (by omega)
              · rw [amt_out hk]
                exact ⟨by decide, by decide⟩
            · exact mult_sz (whole0 (by decide) (fun i k _ _ => ent_ib ok i k) fun i hi => goal_ib ok hi) cl.good cl.det cl.one (big ok).2 (big ok).1 (by omega)
end
end Wk

/-! ## WPlan -/
set_option Elab.async false
set_option linter.all false
set_option maxRecDepth 100000
set_option maxHeartbeats 4000000
namespace Wk
open PySem L2 Wt
abbrev dPlan : Stmt := top 24
abbrev dFresh : Stmt := top 25
abbrev dLeast : Stmt := top 26
abbrev dWPlan : Stmt := top 27
abbrev dPaper : Stmt := top 28
/-! ### slices -/
theorem sIx_some {n i d : Nat} (h : i ≤ n) : HT.sIx n d (some ((i : Nat) : Int)) = i := by
  rw [HT.sIx_nat]
  omega
theorem cut_rl {H : Hp} {vs : List V} {n i j : Nat} {f : Nat → Rat} (l : vs.length = n) (r : ∀ (k : Nat) x, vs[k]? = some x → RatAt H x (f k)) {lo hi : Option Int} (h1 : HT.sIx vs.length 0 lo = i) (h2 : HT.sIx vs.length vs.length hi = j) (h : i ≤ j) (hj : j ≤ n) :
    (cutV vs lo hi).length = j - i ∧ ∀ (k : Nat) x, (cutV vs lo hi)[k]? = some x → RatAt H x (f (i + k)) := by
  unfold cutV
  rw [h1, h2]
  refine ⟨by rw [List.length_take, List.length_drop]; omega, fun k x e => ?_⟩
  rw [List.getElem?_take] at e
  split at e
  · rw [List.getElem?_drop] at e
    exact r _ x e
  · cases e
def PlanAt (H : Hp) (v : V) (a : Wa) (x : Nat → Rat) : Prop := ∃ t tt fr ls, v = .ref t ∧ H t = some (.tup [.ref tt, .ref fr]) ∧ H tt = some (.tup ls) ∧ ls.length = a.p ∧ (∀ (i : Nat) y, ls[i]? = some y → ∃ l, y = .ref l ∧ RT H l a.w (fun j => x (i * a.w + j))) ∧ RT H fr a.w (fun j => x (a.F + j))
def PaperAt (H : Hp) (v : V) (a : Wa) (y : Nat → Rat) : Prop := ∃ t f b c, v = .ref t ∧ H t = some (.tup [.ref f, .ref b, .ref c]) ∧ RT H f a.w (fun j => - y j) ∧ RT H b a.w (fun j => y (a.w + j)) ∧ RT H c a.p (fun i => y (a.w + a.w + i))
def spPlan : Sp := fun vs H Q _ => ∃ wa xa a x, vs = [.ref wa, .ref xa] ∧ WaAt H wa a ∧ a.Ok ∧ RL H xa a.n x ∧ ∀ H' v, Kp [] H H' → PlanAt H' v a x → Q v H'
def spFresh : Sp := fun vs H Q _ => ∃ wa a, vs = [.ref wa] ∧ WaAt H wa a ∧ a.Ok ∧ ∀ H' v x y, Kp [] H H' → Fin a x y → (∀ k, Sz 160 (x k)) → RatAt H' v (S a.w (fun j => x (a.F + j))) → Q v H'
def spLeast (P : Addr) : Sp := fun vs H Q _ => ∃ wa a, vs = [.ref wa] ∧ WaAt H wa a ∧ a.Ok ∧ GxR.TabG H P ∧ ∀ H' v x y, Kp [P] H H' → GxR.TabG H' P → Fin a x y → (∀ k, Sz 160 (x k)) → RatAt H' v (S a.w (fun j => x (a.F + j))) → Q v H'
def spWPlan (P : Addr) : Sp := fun vs H Q _ => ∃ wa a, vs = [.ref wa] ∧ WaAt H wa a ∧ a.Ok ∧ GxR.TabG H P ∧ ∀ H' v x y, Kp [P] H H' → GxR.TabG H' P → Fin a x y → (∀ k, Sz 160 (x k)) → PlanAt H' v a x → Q v H'
def spPaper (P : Addr) : Sp := fun vs H Q _ => ∃ wa a, vs = [.ref wa] ∧ WaAt H wa a ∧ a.Ok ∧ GxR.TabG H P ∧ ∀ H' v x y, Kp [P] H H' → GxR.TabG H' P → Fin a x y → (∀ q, q < a.m → Sz 160 (y q)) → PaperAt H' v a y → Q v H'
section
variable {P : Program} {w : World} {K : PySem.W.Frag} {mg : Str → Option Value} {base : Heap} {f C : Addr} {fd : FuncData} {Pt : Addr}
abbrev NPlan : List Str := ["water", "amounts", "wide", "table", "i"]
theorem scPlan : FnScope NPlan ["water", "amounts"] (defScope dPlan) := ⟨rfl, rfl, rfl, by decide +kernel, rfl, by decide +kernel, by decide +kernel⟩
theorem ok_plan (F : Fun K "plan_of" "plan_of" dPlan f fd) (T : Tx K mg) : FnOk P w K mg base CX0 1 f fd ["water", "amounts"] spPlan := by
  refine F.ok scPlan (fun vs H Q E h => ?_) (fun cdv A' outer s H vs Q E hr h => ?_)
  · obtain ⟨wa, xa, a, x, rfl, _⟩ := h
    rfl
  · obtain ⟨wa, xa, a, x, rfl, hw, ok, hx, q⟩ := h
    refine ⟨_, (pss_cons (ps_set (i := 2) scPlan.nd rfl (Or.inr rfl) (pe_callB call_lenT (by rfl) T.len PySem.boot_len (pa_cons (pe_ix ix_tupS (pv 0) pe_int (by intro _ _; rfl)) pa_nil)))
      (pss_cons (ps_setLc (i := 3) (own := [("i", 4)]) (g := gName 4) (tt := tYes) rfl scPlan.nd rfl rfl (sw_true rfl rfl rfl (by decide +kernel)) (pi_range1 (by rfl) T.range (pa_cons (pe_callB call_lenT (by rfl) T.len PySem.boot_len (pa_cons (pe_ix ix_tupS (pv 0) pe_int (by intro _ _; rfl)) pa_nil)) pa_nil)) (blkOk_by (own := [("i", 4)]) (N := NPlan) (sc := defScope dPlan) (by decide +kernel)) (fun _ _ _ _ _ => (pg_name (i := 4) scPlan.nd rfl (Or.inl rfl))) (fun _ _ _ _ _ => by exact pts_nil) (fun _ _ _ _ _ => by exact (pe_callTy call_tupleL (by rfl) T.tuple (by decide +kernel) (pa_cons (pe_slice sl_listS (pv 1) (po_some (pe_op op_mul (pv 4) (pv 2))) (po_some (pe_op op_add (pe_op op_mul (pv 4) (pv 2)) (pv 2)))) pa_nil))))
      (pss_one (ps_ret (pe_tup (pa_cons (pe_callTy call_tupleL (by rfl) T.tuple (by decide +kernel) (pa_cons (pv 3) pa_nil)) (pa_cons (pe_callTy call_tupleL (by rfl) T.tuple (by decide +kernel) (pa_cons (pe_slice sl_listS (pv 1) (po_some (pe_op op_mul (pe_callB call_lenT (by rfl) T.len PySem.boot_len (pa_cons (pe_ix ix_tupS (pv 0) pe_int (by intro _ _; rfl)) pa_nil)) (pv 2))) (po_some (pe_op op_add (pe_op op_mul (pe_callB call_lenT (by rfl) T.len PySem.boot_len (pa_cons (pe_ix ix_tupS (pv 0) pe_int (by intro _ _; rfl)) pa_nil)) (pv 2)) (pv 2)))) pa_nil)) pa_nil))))))), ?_⟩
    obtain ⟨so, si, ew, ⟨vo, eo, lo, xo⟩, vi, ei, li, xi⟩ := id hw
    obtain ⟨av, ea, la, ra⟩ := id hx
    have p3 := ok.p3
    have w3 := ok.w3
    have hF : a.F ≤ 9 := Nat.mul_le_mul p3 w3
    have hn : a.n = a.F + a.w + a.w + a.p := rfl
    refine ⟨_, rfl, wa, _, _, .ref si, rfl, rfl, ew, rfl, si, vi, rfl, ei, ?_⟩
    refine ⟨_, rfl, wa, _, _, .ref so, rfl, rfl, ew, rfl, so, vo, rfl, eo, _, rfl, by omega, by omega, fun D hD => lc_made walk_range (fun i H v => ∃ l, v = .ref l ∧ RT H l a.w (fun j => x (i * a.w + j))) (fun M i H H' v k m h => let ⟨l, e, r⟩ := h; ⟨l, e, r.kp k m⟩) hD (by simp; exact small1000 (by omega)) (fun _ _ => trivial) ?_ (fun _ _ _ _ => gName_mono) ?_⟩
    · rintro i y H1 H2 R hi k1 ⟨rfl, rfl⟩ hR
      have hi2 : i < a.p := by simpa [lo] using hi
      have hlt := Wa.lt (a := a) hi2 (j := a.w - 1) (by have := ok.w0; omega)
      refine ⟨rfl, _, rfl, _, rfl, _, rfl, _, _, rfl, rfl, cmul_small (by omega) (by omega), _, rfl, _, rfl, _, rfl, _, _, rfl, rfl, cmul_small (by omega) (by omega), _, rfl, _, _, rfl, rfl, ?_⟩
      have hFn : a.F ≤ a.n := by omega
      have e1 : (0 + ((i : Nat) : Int)) * ((vi.length : Nat) : Int) = ((i * a.w : Nat) : Int) := by rw [li, Int.zero_add, Int.natCast_mul]
      have e2 : (0 + ((i : Nat) : Int)) * ((vi.length : Nat) : Int) + ((vi.length : Nat) : Int) = ((i * a.w + a.w : Nat) : Int) := by rw [e1, li, Int.natCast_add]
      have w0 := ok.w0
      obtain ⟨c1, c2⟩ := cut_rl la ra (i := i * a.w) (j := i * a.w + a.w) (lo := some ((0 + ((i : Nat) : Int)) * ((vi.length : Nat) : Int))) (hi := some ((0 + ((i : Nat) : Int)) * ((vi.length : Nat) : Int) + ((vi.length : Nat) : Int)))
        (by rw [e1, sIx_some (by omega)]) (by rw [e2, sIx_some (by omega)]) (by omega) (by omega)
      refine ⟨_, rfl, xa, av, rfl, k1 _ _ ea (by simp), fun p1 hp1 => ⟨p1, _, rfl, upd_same, fun l hl => hR _ _ ((Kp.new hp1).trans (.new hl)) ⟨l, rfl, _, upd_same, ?_, fun k y e => ?_⟩⟩⟩
      · exact c1.trans (by omega)
      · exact (c2 k y e).kp0 (k1.trans ((Kp.new hp1).trans (.new hl)))
    · intro H1 acc k1 hA hl hx
      have k2 := k1
      refine ⟨_, rfl, D, acc, rfl, hA, fun tt htt => ?_⟩
      have k2 : Kp [] H1 (upd H1 tt (.tup acc)) := .new htt
      have e2 : upd H1 tt (.tup acc) tt = some (.tup acc) := upd_same
      generalize upd H1 tt (.tup acc) = H2 at k2 e2 ⊢
      have k02 := k1.trans k2
      have e3 : ((vo.length : Nat) : Int) * ((vi.length : Nat) : Int) = ((a.F : Nat) : Int) := by rw [lo, li]; unfold Wa.F; rw [Int.natCast_mul]
      have e4 : ((vo.length : Nat) : Int) * ((vi.length : Nat) : Int) + ((vi.length : Nat) : Int) = ((a.F + a.w : Nat) : Int) := by rw [e3, li, Int.natCast_add]
      obtain ⟨c1, c2⟩ := cut_rl la ra (i := a.F) (j := a.F + a.w) (lo := some (((vo.length : Nat) : Int) * ((vi.length : Nat) : Int))) (hi := some (((vo.length : Nat) : Int) * ((vi.length : Nat) : Int) + ((vi.length : Nat) : Int)))
        (by rw [e3, sIx_some (by omega)]) (by rw [e4, sIx_some (by omega)]) (by omega) (by omega)
      have ew2 := k02 _ _ ew (by simp)
      have eo2 := k02 _ _ eo (by simp)
      refine ⟨_, rfl, _, rfl, wa, _, _, .ref so, rfl, rfl, ew2, rfl, so, vo, rfl, eo2, _, rfl, _, _, rfl, rfl, cmul_small (by omega) (by omega), _, rfl, _, rfl, wa, _, _, .ref so, rfl, rfl, ew2, rfl, so, vo, rfl, eo2, _, rfl, _, _, rfl, rfl, cmul_small (by omega) (by omega), _, rfl, _, _, rfl, rfl, _, rfl, ?_⟩
      refine ⟨xa, av, rfl, k02 _ _ ea (by simp), fun p1 hp1 => ⟨p1, _, rfl, upd_same, fun fr hfr => ⟨by show 2 ≤ sizeLine; decide, fun t ht => ?_⟩⟩⟩
      have k3 := ((Kp.new (M := []) (o := .lst (cutV av (some (((vo.length : Nat) : Int) * ((vi.length : Nat) : Int))) (some (((vo.length : Nat) : Int) * ((vi.length : Nat) : Int) + ((vi.length : Nat) : Int))))) hp1).trans (.new (o := .tup (cutV av (some (((vo.length : Nat) : Int) * ((vi.length : Nat) : Int))) (some (((vo.length : Nat) : Int) * ((vi.length : Nat) : Int) + ((vi.length : Nat) : Int))))) hfr))
      have k4 := k3.trans (.new (o := .tup [.ref tt, .ref fr]) ht)
      have nf : fr ≠ t := ne_of_none upd_same ht
      refine q _ _ (k02.trans k4) ⟨t, tt, fr, acc, rfl, upd_same, k4 _ _ e2 (by simp), by rw [hl]; simp; exact lo, fun i y e => let ⟨l, e1, r⟩ := hx i y e; ⟨l, e1, r.kp0 (k2.trans k4)⟩, _, (upd_ne nf).trans upd_same, c1.trans (by omega), fun k y e => (c2 k y e).kp0 (k02.trans k4)⟩
abbrev NFresh : List Str := ["water"]
theorem scFresh : FnScope NFresh ["water"] (defScope dFresh) := ⟨rfl, rfl, rfl, by decide +kernel, rfl, by decide +kernel, by decide +kernel⟩
theorem ok_fresh (F : Fun K "fresh_of" "fresh_of" dFresh f fd) (T : Tx K mg) (h_total : Has P w K mg base 3 "total" ["some"] spTotal) (h_plan_of : Has P w K mg base 1 "plan_of" ["water", "amounts"] spPlan) (h_program_of : Has P w K mg base 7 "program_of" ["water"] spProg) : FnOk P w K mg base CX0 8 f fd ["water"] spFresh := by
  refine F.ok scFresh (fun vs H Q E h => ?_) (fun cdv A' outer s H vs Q E hr h => ?_)
  · obtain ⟨wa, a, rfl, _⟩ := h
    rfl
  · obtain ⟨wa, a, rfl, hw, ok, q⟩ := h
    have h_total := h_total.mono (show 3 ≤ 7 by decide)
    have h_plan_of := h_plan_of.mono (show 1 ≤ 7 by decide)
    refine ⟨_, (pss_one (ps_ret (pe_callH h_total hr (by rfl) (pa_cons (pe_callTy call_listT (by rfl) T.list (by decide +kernel) (pa_cons (pe_ix ix_tupS (pe_callH h_plan_of hr (by rfl) (pa_cons (pv 0) (pa_cons (pe_ix ix_tupS (pe_callH h_program_of hr (by rfl) (pa_cons (pv 0) pa_nil)) pe_int (by intro _ _; rfl)) pa_nil))) pe_int (by intro _ _; rfl)) pa_nil)) pa_nil)))), ?_⟩
    refine ⟨_, rfl, _, rfl, wa, a, rfl, hw, ok, fun H1 t xa ya x y k1 et rx ry fin zx zy => ?_⟩
    refine ⟨t, _, _, .ref xa, rfl, rfl, et, rfl, wa, xa, a, x, rfl, hw.kp0 k1, ok, rx, fun H2 v k2 pl => ?_⟩
    obtain ⟨pt, tt, fr, ls, rfl, ept, ett, lls, xls, rfr⟩ := pl
    obtain ⟨fs, ef, lf, xf⟩ := rfr
    refine ⟨pt, _, _, .ref fr, rfl, rfl, ept, rfl, fr, fs, rfl, ef, fun l hl => ?_⟩
    have k3 : Kp [] H2 (upd H2 l (.lst fs)) := .new hl
    have w3 := ok.w3
    refine ⟨l, a.w, 160, fun j => x (a.F + j), rfl, ⟨fs, upd_same, lf, fun i z e => (xf i z e).kp0 k3⟩, fun i _ => zx _, by decide, by omega, fun H4 v k4 r4 => q H4 v x y (k1.trans (k2.trans (k3.trans k4))) fin zx r4⟩
abbrev NLeast : List Str := ["water"]
theorem scLeast : FnScope NLeast ["water"] (defScope dLeast) := ⟨rfl, rfl, rfl, by decide +kernel, rfl, by decide +kernel, by decide +kernel⟩
theorem ok_least (F : Fun K "least_fresh" "least_fresh" dLeast f fd) (h_need_water : Has P w K mg base 2 "need_water" ["water"] (spNeed Pt)) (h_fresh_of : Has P w K mg base 8 "fresh_of" ["water"] spFresh) : FnOk P w K mg base CX0 9 f fd ["water"] (spLeast Pt) := by
  refine F.ok scLeast (fun vs H Q E h => ?_) (fun cdv A' outer s H vs Q E hr h => ?_)
  · obtain ⟨wa, a, rfl, _⟩ := h
    rfl
  · obtain ⟨wa, a, rfl, hw, ok, hT, q⟩ := h
    have h_need_water := h_need_water.mono (show 2 ≤ 8 by decide)
    refine ⟨_, (pss_cons (ps_expr (pe_callH h_need_water hr (by rfl) (pa_cons (pv 0) pa_nil)))
      (pss_one (ps_ret (pe_callH h_fresh_of hr (by rfl) (pa_cons (pv 0) pa_nil))))), ?_⟩
    refine ⟨_, rfl, wa, a, rfl, hw, ok, hT, fun H1 k1 hT1 => ?_⟩
    refine ⟨_, rfl, wa, a, rfl, hw.kp k1 (TabG.mu hT), ok, fun H2 v x y k2 fin zx r => q H2 v x y (k1.trans k2.nil) (TabG.kp0 hT1 k2) fin zx r⟩
abbrev NWPlan : List Str := ["water"]
theorem scWPlan : FnScope NWPlan ["water"] (defScope dWPlan) := ⟨rfl, rfl, rfl, by decide +kernel, rfl, by decide +kernel, by decide +kernel⟩
theorem ok_wplan (F : Fun K "water_plan" "water_plan" dWPlan f fd) (h_need_water : Has P w K mg base 2 "need_water" ["water"] (spNeed Pt)) (h_plan_of : Has P w K mg base 1 "plan_of" ["water", "amounts"] spPlan) (h_program_of : Has P w K mg base 7 "program_of" ["water"] spProg) : FnOk P w K mg base CX0 8 f fd ["water"] (spWPlan Pt) := by
  refine F.ok scWPlan (fun vs H Q E h => ?_) (fun cdv A' outer s H vs Q E hr h => ?_)
  · obtain ⟨wa, a, rfl, _⟩ := h
    rfl
  · obtain ⟨wa, a, rfl, hw, ok, hT, q⟩ := h
    have h_need_water := h_need_water.mono (show 2 ≤ 7 by decide)
    have h_plan_of := h_plan_of.mono (show 1 ≤ 7 by decide)
    refine ⟨_, (pss_cons (ps_expr (pe_callH h_need_water hr (by rfl) (pa_cons (pv 0) pa_nil)))
      (pss_one (ps_ret (pe_callH h_plan_of hr (by rfl) (pa_cons (pv 0) (pa_cons (pe_ix ix_tupS (pe_callH h_program_of hr (by rfl) (pa_cons (pv 0) pa_nil)) pe_int (by intro _ _; rfl)) pa_nil)))))), ?_⟩
    refine ⟨_, rfl, wa, a, rfl, hw, ok, hT, fun H1 k1 hT1 => ?_⟩
    have hw1 := hw.kp k1 (TabG.mu hT)
    refine ⟨_, rfl, _, rfl, wa, a, rfl, hw1, ok, fun H2 t xa ya x y k2 et rx ry fin zx zy => ?_⟩
    refine ⟨t, _, _, .ref xa, rfl, rfl, et, rfl, wa, xa, a, x, rfl, hw1.kp0 k2, ok, rx, fun H3 v k3 pl => ?_⟩
    exact q H3 v x y (k1.trans (k2.trans k3).nil) (TabG.kp0 hT1 (k2.trans k3)) fin zx pl
abbrev NPaper : List Str := ["water", "prices", "wide", "first", "one"]
theorem scPaper : FnScope NPaper ["water"] (defScope dPaper) := ⟨rfl, rfl, rfl, by decide +kernel, rfl, by decide +kernel, by decide +kernel⟩
theorem ok_paper (F : Fun K "water_paper" "water_paper" dPaper f fd) (T : Tx K mg) (h_need_water : Has P w K mg base 2 "need_water" ["water"] (spNeed Pt)) (h_program_of : Has P w K mg base 7 "program_of" ["water"] spProg) : FnOk P w K mg base CX0 8 f fd ["water"] (spPaper Pt) := by
  refine F.ok scPaper (fun vs H Q E h => ?_) (fun cdv A' outer s H vs Q E hr h => ?_)
  · obtain ⟨wa, a, rfl, _⟩ := h
    rfl
  · obtain ⟨wa, a, rfl, hw, ok, hT, q⟩ := h
    have h_need_water := h_need_water.mono (show 2 ≤ 7 by decide)
    refine ⟨_, (pss_cons (ps_expr (pe_callH h_need_water hr (by rfl) (pa_cons (pv 0) pa_nil)))
      (pss_cons (ps_par (i := 1) (j := 2) rfl scPaper.nd rfl rfl (by decide) rfl rfl (pa_cons (pe_ix ix_tupS (pe_callH h_program_of hr (by rfl) (pa_cons (pv 0) pa_nil)) pe_int (by intro _ _; rfl)) (pa_cons (pe_callB call_lenT (by rfl) T.len PySem.boot_len (pa_cons (pe_ix ix_tupS (pv 0) pe_int (by intro _ _; rfl)) pa_nil)) pa_nil)) (by rfl))
      (pss_cons (ps_set (i := 3) scPaper.nd rfl (Or.inl rfl) (pe_callTy call_tupleL (by rfl) T.tuple (by decide +kernel) (pa_cons (pe_lc (own := [("one", 4)]) (g := gName 4) (tt := tYes) rfl scPaper.nd (pi_listS (pe_slice sl_listS (pv 1) po_none (po_some (pv 2)))) (blkOk_by (own := [("one", 4)]) (N := NPaper) (sc := defScope dPaper) (by decide +kernel)) (fun _ _ _ _ _ => (pg_name (i := 4) scPaper.nd rfl (Or.inl rfl))) (fun _ _ _ _ _ => by exact pts_nil) (fun _ _ _ _ _ => by exact (pe_tup (pa_cons (pe_op op_sub pe_int (pe_ix ix_tupS (pv 4) pe_int (by intro _ _; rfl))) (pa_cons (pe_ix ix_tupS (pv 4) pe_int (by intro _ _; rfl)) pa_nil))))) pa_nil)))
      (pss_one (ps_ret (pe_tup (pa_cons (pv 3) (pa_cons (pe_callTy call_tupleL (by rfl) T.tuple (by decide +kernel) (pa_cons (pe_slice sl_listS (pv 1) (po_some (pv 2)) (po_some (pe_op op_mul pe_int (pv 2)))) pa_nil)) (pa_cons (pe_callTy call_tupleL (by rfl) T.tuple (by decide +kernel) (pa_cons (pe_slice sl_listS (pv 1) (po_some (pe_op op_mul pe_int (pv 2))) po_none) pa_nil)) pa_nil))))))))), ?_⟩
    refine ⟨_, rfl, wa, a, rfl, hw, ok, hT, fun H1 k1 hT1 => ?_⟩
    have hw1 := hw.kp k1 (TabG.mu hT)
    refine ⟨_, rfl, wa, a, rfl, hw1, ok, fun H2 t xa ya x y k2 et rx ry fin zx zy => ?_⟩
    obtain ⟨so, si, ew, _, vi, ei, li, xi⟩ := hw1.kp0 k2
    refine ⟨t, _, _, .ref ya, rfl, rfl, et, rfl, _, rfl, wa, _, _, .ref si, rfl, rfl, ew, rfl, si, vi, rfl, ei, _, _, rfl, ?_⟩
    obtain ⟨yv, ey, ly, xy⟩ := ry
    have w0 := ok.w0
    have w3 := ok.w3
    have p3 := ok.p3
    have hm : a.m = a.w + a.w + a.p := rfl
    -- first
    refine ⟨_, rfl, _, rfl, _, rfl, ya, yv, rfl, ey, fun l hl => ?_⟩
    obtain ⟨c1, c2⟩ := cut_rl ly xy (i := 0) (j := a.w) (lo := none) (hi := some ((vi.length : Nat) : Int)) rfl (by rw [li, sIx_some (by omega)]) (by omega) (by omega)
    have k3 : Kp [] H2 (upd H2 l (.lst (cutV yv none (some ((vi.length : Nat) : Int))))) := .new hl
    have e3 : upd H2 l (.lst (cutV yv none (some ((vi.length : Nat) : Int)))) l = some (.lst (cutV yv none (some ((vi.length : Nat) : Int)))) := upd_same
    generalize upd H2 l (.lst (cutV yv none (some ((vi.length : Nat) : Int)))) = H3 at k3 e3 ⊢
    refine ⟨l, rfl, ⟨_, e3⟩, fun D hD => lc_made (walk_list (K := K) (a := l) (xs := cutV yv none (some ((vi.length : Nat) : Int)))) (fun j H v => RatAt H v (- y j)) (ratAt_E fun j => - y j) hD (by rw [c1]; exact small1000 (by omega)) (fun H k => SqL.of (k _ _ e3 (by simp))) ?_ (fun _ _ _ _ => gName_mono) ?_⟩
    · rintro j z H4 H5 R hj k4 ⟨rfl, hz⟩ hR
      have rz := (c2 j z hz).kp0 (k3.trans k4)
      rw [Nat.zero_add] at rz
      obtain ⟨p, rfl, ep⟩ := rz
      refine ⟨rfl, _, rfl, p, _, 0, _, rfl, rfl, ep, rfl, _, _, rfl, rfl, _, rfl, p, _, 1, _, rfl, rfl, ep, rfl, by show 2 ≤ sizeLine; decide, fun q1 hq1 => hR _ _ (.new hq1) (.new ?_)⟩
      refine upd_same.trans ?_
      unfold qt
      rw [Rat.neg_num, Rat.neg_den]
      show some (HO.tup [V.int (0 - (y j).num), _]) = _
      rw [Int.zero_sub]
    · intro H4 acc k4 hA hl4 hx4
      refine ⟨D, acc, rfl, hA, fun ff hff => ?_⟩
      have k5 : Kp [] H4 (upd H4 ff (.tup acc)) := .new hff
      have e5 : upd H4 ff (.tup acc) ff = some (.tup acc) := upd_same
      generalize upd H4 ff (.tup acc) = H5 at k5 e5 ⊢
      have k25 := k3.trans (k4.trans k5)
      have rf5 : RT H5 ff a.w (fun j => - y j) := ⟨acc, e5, by rw [hl4, c1]; omega, fun i z e => (hx4 i z e).kp0 k5⟩
      have ey5 := k25 _ _ ey (by simp)
      have e2w : (2 : Int) * ((vi.length : Nat) : Int) = ((a.w + a.w : Nat) : Int) := by rw [li]; omega
      obtain ⟨b1, b2⟩ := cut_rl ly xy (i := a.w) (j := a.w + a.w) (lo := some ((vi.length : Nat) : Int)) (hi := some ((2 : Int) * ((vi.length : Nat) : Int))) (by rw [li, sIx_some (by omega)]) (by rw [e2w, sIx_some (by omega)]) (by omega) (by omega)
      obtain ⟨d1, d2⟩ := cut_rl ly xy (i := a.w + a.w) (j := a.m) (lo := some ((2 : Int) * ((vi.length : Nat) : Int))) (hi := none) (by rw [e2w, sIx_some (by omega)]) (by rw [HT.sIx_none]; exact ly) (by omega) (by omega)
      refine ⟨_, rfl, _, rfl, _, rfl, _, rfl, _, rfl, _, _, rfl, rfl, cmul_small (by decide) (by decide), _, rfl, ya, yv, rfl, ey5, fun l1 hl1 => ⟨l1, _, rfl, upd_same, fun bb hbb => ?_⟩⟩
      generalize hB : cutV yv (some ((vi.length : Nat) : Int)) (some ((2 : Int) * ((vi.length : Nat) : Int))) = B at b1 b2 hl1 hbb ⊢
      have k6 : Kp [] H5 (upd (upd H5 l1 (.lst B)) bb (.tup B)) := (Kp.new hl1).trans (.new hbb)
      have e6 : upd (upd H5 l1 (.lst B)) bb (.tup B) bb = some (.tup B) := upd_same
      generalize upd (upd H5 l1 (.lst B)) bb (.tup B) = H6 at k6 e6 ⊢
      refine ⟨_, rfl, _, rfl, _, _, rfl, rfl, cmul_small (by decide) (by decide), _, rfl, ya, yv, rfl, k6 _ _ ey5 (by simp), fun l2 hl2 => ⟨l2, _, rfl, upd_same, fun cc hcc => ⟨by show 3 ≤ sizeLine; decide, fun tt htt => ?_⟩⟩⟩
      generalize hC : cutV yv (some ((2 : Int) * ((vi.length : Nat) : Int))) none = Cc at d1 d2 hl2 hcc htt ⊢
      have k7 : Kp [] H6 (upd (upd H6 l2 (.lst Cc)) cc (.tup Cc)) := (Kp.new hl2).trans (.new hcc)
      have e7 : upd (upd H6 l2 (.lst Cc)) cc (.tup Cc) cc = some (.tup Cc) := upd_same
      generalize upd (upd H6 l2 (.lst Cc)) cc (.tup Cc) = H7 at k7 e7 htt ⊢
      have k8 : Kp [] H7 (upd H7 tt (.tup [.ref ff, .ref bb, .ref cc])) := .new htt
      have kall := k25.trans (k6.trans (k7.trans k8))
      refine q _ _ x y (k1.trans (k2.trans kall).nil) (TabG.kp0 hT1 (k2.trans kall)) fin zy ⟨tt, ff, bb, cc, rfl, upd_same, rf5.kp0 (k6.trans (k7.trans k8)), ⟨B, (k7.trans k8) _ _ e6 (by simp), b1.trans (by omega), fun i z e => (b2 i z e).kp0 kall⟩, Cc, k8 _ _ e7 (by simp), d1.trans (by omega), fun i z e => (d2 i z e).kp0 kall⟩
end
end Wk

/-! ## WLaw1 -/
set_option Elab.async false
set_option linter.all false
set_option maxRecDepth 100000
set_option maxHeartbeats 4000000
namespace Wk
open PySem L2 Wt
abbrev dTaken : Stmt := top 30
abbrev dPick : Stmt := top 31
abbrev dAlike : Stmt := top 32
abbrev dLR : Stmt := top 33
abbrev dLPlus : Stmt := top 34
abbrev dLBy : Stmt := top 35
abbrev dLSum : Stmt := top 36
abbrev dLWater : Stmt := top 37
abbrev dAre : Stmt := top 38
abbrev dLFresh : Stmt := top 39
abbrev dBound : Stmt := top 40
abbrev dLaw : Stmt := top 41
section
variable {P : Program} {w : World} {K : PySem.W.Frag} {mg : Str → Option Value} {base : Heap} {f C : Addr} {fd : FuncData} {Pt : Addr}
abbrev NLR : List Str := ["_law_top", "_law_bottom", "_law_one", "_law_other"]
theorem scLR : FnScope NLR ["_law_top", "_law_bottom"] (defScope dLR) := ⟨rfl, rfl, rfl, by decide +kernel, rfl, by decide +kernel, by decide +kernel⟩
theorem ratio_negL {t b : Int} (hb : b < 0) : ([.int (0 - t.fdiv ((Nat.gcd t.natAbs b.natAbs : Nat) : Int)), .int (0 - b.fdiv ((Nat.gcd t.natAbs b.natAbs : Nat) : Int))] : List V) = qt (Rat.divInt t b) := by
  have g0 : (0 : Int) ≤ ((Nat.gcd t.natAbs b.natAbs : Nat) : Int) := Int.natCast_nonneg _
  have d1 : ((Nat.gcd t.natAbs b.natAbs : Nat) : Int) ∣ t := Int.ofNat_dvd_left.mpr (Nat.gcd_dvd_left _ _)
  have d2 : ((Nat.gcd t.natAbs b.natAbs : Nat) : Int) ∣ b := Int.ofNat_dvd_left.mpr (Nat.gcd_dvd_right _ _)
  rw [← ratio_neg hb]
  have e : ∀ x : Int, ((Nat.gcd t.natAbs b.natAbs : Nat) : Int) ∣ x → x.fdiv (0 - ((Nat.gcd t.natAbs b.natAbs : Nat) : Int)) = 0 - x.fdiv ((Nat.gcd t.natAbs b.natAbs : Nat) : Int) := fun x hx => by
    have h := Int.neg_fdiv_neg (-x) ((Nat.gcd t.natAbs b.natAbs : Nat) : Int)
    rw [Int.neg_neg] at h
    rw [Int.zero_sub, h, Int.fdiv_eq_ediv_of_nonneg _ g0, Int.fdiv_eq_ediv_of_nonneg _ g0, Int.zero_sub, Int.neg_ediv_of_dvd hx]
  rw [e t d1, e b d2]
theorem ok_lratio (F : Fun K "_law_ratio" "_law_ratio" dLR f fd) (T : Tx K mg) : FnOk P w K mg base CX0 1 f fd ["_law_top", "_law_bottom"] spRatio := by
  refine F.ok scLR (fun vs H Q E h => ?_) (fun cdv A' outer s H vs Q E hr h => ?_)
  · obtain ⟨t, b, rfl, _⟩ := h
    rfl
  · obtain ⟨t, b, rfl, hb, hz, k⟩ := h
    refine ⟨_, (pss_cons (ps_par (i := 2) (j := 3) rfl scLR.nd rfl rfl (by decide) rfl rfl (pa_cons (pe_callB call_abs (by rfl) T.abs (by decide +kernel) (pa_cons (pv 0) pa_nil)) (pa_cons (pe_callB call_abs (by rfl) T.abs (by decide +kernel) (pa_cons (pv 1) pa_nil)) pa_nil)) (by rfl))
      (pss_cons (ps_while PassesOwn.never (pt_cmpR op_ne (pv 3) pe_int (nomark _))
        (pss_one (ps_par (i := 2) (j := 3) rfl scLR.nd rfl rfl (by decide) rfl rfl (pa_cons (pv 3) (pa_cons (pe_op op_mod (pe_callTy call_int1 (by rfl) T.int (by decide +kernel) (pa_cons (pv 2) pa_nil)) (pv 3)) pa_nil)) (by rfl))))
      (pss_one (ps_ret (pe_ifExp (pt_cmpR op_gt (pv 1) pe_int (nomark _)) (pe_tup (pa_cons (pe_op op_fdivX (pv 0) (pv 2)) (pa_cons (pe_op op_fdivX (pv 1) (pv 2)) pa_nil))) (pe_tup (pa_cons (pe_op op_sub pe_int (pe_op op_fdivX (pv 0) (pv 2))) (pa_cons (pe_op op_sub pe_int (pe_op op_fdivX (pv 1) (pv 2))) pa_nil)))))))), ?_⟩
    have ab : ∀ x : Int, (if x < 0 then -x else x) = ((x.natAbs : Nat) : Int) := fun x => by
      by_cases h : x < 0
      · rw [if_pos h]; omega
      · rw [if_neg h]; omega
    refine ⟨_, rfl, _, rfl, _, rfl, _, rfl, _, _, rfl, ?_⟩
    rw [ab, ab]
    refine ⟨fun m σ H' => H' = H ∧ ∃ x y : Nat, m = y ∧ σ = [some (.int t), some (.int b), some (.int (x : Nat)), some (.int (y : Nat))] ∧ Nat.gcd x y = Nat.gcd t.natAbs b.natAbs, ⟨_, rfl, _, _, rfl, rfl, rfl⟩, ?_⟩
    rintro m σ H' ⟨rfl, x, y, hm, rfl, hg⟩
    have hm' := hm.symm
    subst hm'
    refine ⟨_, rfl, rfl, _, rfl, ?_⟩
    by_cases hy : y = 0
    · subst hy
      rw [decide_eq_true (show V.int ((0 : Nat) : Int) = V.int 0 from rfl)]
      refine iteF ?_
      rw [Nat.gcd_zero_right] at hg
      subst hg
      have g0 : Nat.gcd t.natAbs b.natAbs ≤ b.natAbs := Nat.gcd_le_right _ (by omega)
      have g1 : 0 < Nat.gcd t.natAbs b.natAbs := Nat.gcd_pos_of_pos_right _ (by omega)
      have c : ∀ i, CDivX i ((Nat.gcd t.natAbs b.natAbs : Nat) : Int) := fun i => cdivX (b := 9000) (by omega) (by omega) (by decide) (by decide)
      refine ⟨_, rfl, _, _, rfl, rfl, _, rfl, ?_⟩
      by_cases h0 : 0 < b
      · rw [decide_eq_true h0]
        refine iteT ⟨_, rfl, _, rfl, _, _, rfl, rfl, c _, _, rfl, _, rfl, _, _, rfl, rfl, c _, by show 2 ≤ sizeLine; decide, fun p hp => ?_⟩
        rw [ratio_pos h0]
        exact k _ _ (.new hp) (.new upd_same)
      · rw [decide_eq_false h0]
        refine iteF ⟨_, rfl, _, rfl, _, _, rfl, rfl, c _, _, _, rfl, rfl, _, rfl, _, rfl, _, _, rfl, rfl, c _, _, _, rfl, rfl, by show 2 ≤ sizeLine; decide, fun p hp => ?_⟩
        refine k _ _ (.new hp) (.new (upd_same.trans ?_))
        rw [← ratio_negL (by omega)]
    · rw [decide_eq_false (show ¬ V.int ((y : Nat) : Int) = V.int 0 from fun z => hy (by injection z with z; omega))]
      refine iteT ⟨_, fun σ' H' z => z, ?_⟩
      refine ⟨_, rfl, _, rfl, .inl ⟨_, rfl, _, rfl, _, _, rfl, rfl, by omega, _, _, rfl, ?_⟩⟩
      refine ⟨x % y, Nat.mod_lt _ (by omega), rfl, y, x % y, rfl, by rw [Int.natCast_emod]; rfl, ?_⟩
      rw [← hg, Nat.gcd_comm x y, Nat.gcd_comm y (x % y), ← Nat.gcd_rec]
abbrev NLPlus : List Str := ["_law_one", "_law_other"]
theorem scLPlus : FnScope NLPlus ["_law_one", "_law_other"] (defScope dLPlus) := ⟨rfl, rfl, rfl, by decide +kernel, rfl, by decide +kernel, by decide +kernel⟩
theorem ok_lplus (F : Fun K "_law_plus" "_law_plus" dLPlus f fd) (h_law_ratio : Has P w K mg base 1 "_law_ratio" ["_law_top", "_law_bottom"] spRatio) : FnOk P w K mg base CX0 2 f fd ["_law_one", "_law_other"] (spTwo (fun _ _ => True) (· + ·)) := by
  refine F.ok scLPlus (fun vs H Q E h => ?_) (fun cdv A outer s H vs Q E hr h => ?_)
  · obtain ⟨x, y, p, q, a, b, rfl, _⟩ := h
    rfl
  · obtain ⟨x, y, p, q, a, b, rfl, ⟨ax, rfl, sx⟩, ⟨ay, rfl, sy⟩, zx, zy, a0, b0, hab, _, k⟩ := h
    refine ⟨_, (pss_one (ps_ret (pe_callH h_law_ratio hr (by rfl) (pa_cons (pe_op op_add (pe_op op_mulW (pe_ix ix_tupS (pv 0) pe_int (by intro _ _; rfl)) (pe_ix ix_tupS (pv 1) pe_int (by intro _ _; rfl))) (pe_op op_mulW (pe_ix ix_tupS (pv 1) pe_int (by intro _ _; rfl)) (pe_ix ix_tupS (pv 0) pe_int (by intro _ _; rfl)))) (pa_cons (pe_op op_mulW (pe_ix ix_tupS (pv 0) pe_int (by intro _ _; rfl)) (pe_ix ix_tupS (pv 1) pe_int (by intro _ _; rfl))) pa_nil))))), ?_⟩
    refine ⟨_, rfl, _, _, _, _, rfl, rfl, sx, rfl, _, rfl, _, _, _, _, rfl, rfl, sy, rfl, _, _, rfl, rfl, wide_mul zx.1 (sz_den zy) a0 b0 (by omega), ?_⟩
    refine ⟨_, rfl, _, _, _, _, rfl, rfl, sy, rfl, _, rfl, _, _, _, _, rfl, rfl, sx, rfl, _, _, rfl, rfl, wide_mul zy.1 (sz_den zx) b0 a0 (by omega), _, _, rfl, rfl, ?_⟩
    refine ⟨_, rfl, _, _, _, _, rfl, rfl, sx, rfl, _, rfl, _, _, _, _, rfl, rfl, sy, rfl, _, _, rfl, rfl, wide_mul (sz_den zx) (sz_den zy) a0 b0 (by omega), ?_⟩
    refine ⟨_, _, rfl, mul_ne (den_ne _) (den_ne _), prod_lt (sz_den zx) (sz_den zy) hab, fun H' v k1 r => k H' v k1 ?_⟩
    rw [rat_add] at r
    exact r
abbrev NLBy : List Str := ["_law_one", "_law_other"]
theorem scLBy : FnScope NLBy ["_law_one", "_law_other"] (defScope dLBy) := ⟨rfl, rfl, rfl, by decide +kernel, rfl, by decide +kernel, by decide +kernel⟩
theorem ok_lby (F : Fun K "_law_by" "_law_by" dLBy f fd) (h_law_ratio : Has P w K mg base 1 "_law_ratio" ["_law_top", "_law_bottom"] spRatio) : FnOk P w K mg base CX0 2 f fd ["_law_one", "_law_other"] (spTwo (fun _ _ => True) (· * ·)) := by
  refine F.ok scLBy (fun vs H Q E h => ?_) (fun cdv A outer s H vs Q E hr h => ?_)
  · obtain ⟨x, y, p, q, a, b, rfl, _⟩ := h
    rfl
  · obtain ⟨x, y, p, q, a, b, rfl, ⟨ax, rfl, sx⟩, ⟨ay, rfl, sy⟩, zx, zy, a0, b0, hab, _, k⟩ := h
    refine ⟨_, (pss_one (ps_ret (pe_callH h_law_ratio hr (by rfl) (pa_cons (pe_op op_mulW (pe_ix ix_tupS (pv 0) pe_int (by intro _ _; rfl)) (pe_ix ix_tupS (pv 1) pe_int (by intro _ _; rfl))) (pa_cons (pe_op op_mulW (pe_ix ix_tupS (pv 0) pe_int (by intro _ _; rfl)) (pe_ix ix_tupS (pv 1) pe_int (by intro _ _; rfl))) pa_nil))))), ?_⟩
    refine ⟨_, rfl, _, _, _, _, rfl, rfl, sx, rfl, _, rfl, _, _, _, _, rfl, rfl, sy, rfl, _, _, rfl, rfl, wide_mul zx.1 zy.1 a0 b0 (by omega), ?_⟩
    refine ⟨_, rfl, _, _, _, _, rfl, rfl, sx, rfl, _, rfl, _, _, _, _, rfl, rfl, sy, rfl, _, _, rfl, rfl, wide_mul (sz_den zx) (sz_den zy) a0 b0 (by omega), ?_⟩
    refine ⟨_, _, rfl, mul_ne (den_ne _) (den_ne _), prod_lt (sz_den zx) (sz_den zy) hab, fun H' v k1 r => k H' v k1 ?_⟩
    rw [rat_mul] at r
    exact r
abbrev NLSum : List Str := ["_law_some", "_law_found", "_law_one"]
theorem scLSum : FnScope NLSum ["_law_some"] (defScope dLSum) := ⟨rfl, rfl, rfl, by decide +kernel, rfl, by decide +kernel, by decide +kernel⟩
theorem ok_lsum (F : Fun K "_law_sum" "_law_sum" dLSum f fd) (h_law_plus : Has P w K mg base 2 "_law_plus" ["_law_one", "_law_other"] (spTwo (fun _ _ => True) (· + ·))) : FnOk P w K mg base CX0 3 f fd ["_law_some"] spTotal := by
  refine F.ok scLSum (fun vs H Q E h => ?_) (fun cdv A outer s H vs Q E hr h => ?_)
  · obtain ⟨a, n, z, g, rfl, _⟩ := h
    rfl
  · obtain ⟨a, n, z, g, rfl, ⟨xs, hL, hn, hx⟩, hz, z0, hb, k⟩ := h
    refine ⟨_, (pss_cons (ps_set (i := 1) scLSum.nd rfl (Or.inl rfl) (pe_tup (pa_cons pe_int (pa_cons pe_int pa_nil))))
      (pss_cons (ps_for PassesOwn.never rfl (pi_listS (pv 0)) (pg_name (i := 2) scLSum.nd rfl (Or.inl rfl))
        (pss_one (ps_set (i := 1) scLSum.nd rfl (Or.inl rfl) (pe_callH h_law_plus hr (by rfl) (pa_cons (pv 1) (pa_cons (pv 2) pa_nil))))))
      (pss_one (ps_ret (pv 1))))), ?_⟩
    refine ⟨by show 2 ≤ sizeLine; decide, fun p hp => ?_⟩
    have k0 : Kp [] H (upd H p (.tup [.int 0, .int 1])) := .new hp
    refine ⟨_, rfl, a, rfl, ⟨_, k0 _ _ hL (by simp)⟩, for_list (K := K) (a := a) (xs := xs) (fun i σ H' => ∃ (x : V) (o : Option V), σ = [some (.ref a), some x, o] ∧ Kp [] H H' ∧ RatAt H' x (S i g))
      ⟨_, _, rfl, k0, .new upd_same⟩ (fun i σ H' _ ⟨_, _, _, kk, _⟩ => SqL.of (kk _ _ hL (by simp))) ?_ ?_⟩
    · rintro i y σ H' hi ⟨x, o, rfl, kk, rx⟩
      have hin : i < n := by
        have := (List.getElem?_eq_some_iff.mp hi).1
        omega
      have ry : RatAt H' y (g i) := (hx i y hi).kp0 kk
      have hm := mul_mono_l (z := z + 1) (Nat.le_of_lt hin)
      refine ⟨_, rfl, _, rfl, _, _, _, _, i * (z + 1) + 1, z, rfl, rx, ry, sz_S' i fun j hj => hz j (by omega), hz i hin, by omega, z0, by omega, trivial, fun H2 v k2 r2 => ?_⟩
      exact ⟨v, some y, rfl, kk.trans k2, r2⟩
    · rintro σ H' ⟨x, o, rfl, kk, rx⟩
      rw [hn] at rx
      exact ⟨_, rfl, k _ _ kk rx⟩
end
end Wk

/-! ## WLaw2 -/
set_option Elab.async false
set_option linter.all false
set_option maxRecDepth 100000
set_option maxHeartbeats 4000000
namespace Wk
open PySem L2 Wt
/-! ### the row of draws -/
/-- the script is not the row (or a thing of the written part) -/
def Far (K : PySem.W.Frag) (ro sa : Addr) (xs : List V) : Prop := sa ≠ ro ∨ ∃ (o : Obj) (its : Array Value) (n : Nat), K.lookup sa = some o ∧ o.cls = .type "list" ∧ o.dict = none ∧ o.data = .seq its n ∧ its.size ≤ sizeLine ∧ Vals xs its.toList
def RowAt (K : PySem.W.Frag) (H : Hp) (ro sa : Addr) (ns : List Int) : Prop := ∃ p sd rest : Int, H ro = some (.lst [.ref sa, .int p, .int sd, .int rest]) ∧ 0 ≤ p ∧ SqL K H sa (ns.map V.int) ∧ Far K ro sa (ns.map V.int)
theorem sqL_kp {K : PySem.W.Frag} {M : List Addr} {H H' : Hp} {a : Addr} {xs : List V} (h : SqL K H a xs) (k : Kp M H H') (n : a ∉ M) : SqL K H' a xs :=
  h.elim (fun h => .inl (h.elim (fun h => .inl (k _ _ h n)) fun ⟨o, h⟩ => .inr ⟨o, k _ _ h n⟩)) fun h => .inr h
theorem sqL_far {K : PySem.W.Frag} {H H' : Hp} {ro a : Addr} {xs : List V} (h : SqL K H a xs) (f : Far K ro a xs) (k : Kp [ro] H H') : SqL K H' a xs :=
  f.elim (fun n => sqL_kp h k (by simp; exact n)) fun z => .inr z
theorem far_of {K : PySem.W.Frag} {H : Hp} {ro a : Addr} {xs : List V} (h : SqL K H a xs) (n : H ro = none) : Far K ro a xs :=
  h.elim (fun h => .inl (h.elim (fun h => ne_of_none h n) fun ⟨o, h⟩ => ne_of_none h n)) fun z => .inr z
theorem RowAt.kp0 {K : PySem.W.Frag} {H H' : Hp} {ro sa : Addr} {ns : List Int} (h : RowAt K H ro sa ns) (k : Kp [] H H') : RowAt K H' ro sa ns :=
  let ⟨p, sd, rest, e, hp, hs, n⟩ := h
  ⟨p, sd, rest, k _ _ e (by simp), hp, sqL_kp hs k (by simp), n⟩
theorem RowAt.mu {K : PySem.W.Frag} {H : Hp} {ro sa : Addr} {ns : List Int} (h : RowAt K H ro sa ns) : Mu [ro] H := let ⟨p, sd, rest, e, _⟩ := h; .one e trivial
theorem RowAt.wr {K : PySem.W.Frag} {H : Hp} {ro sa : Addr} {ns : List Int} {p sd rest : Int} (hs : SqL K H sa (ns.map V.int)) (n : Far K ro sa (ns.map V.int)) (hp : 0 ≤ p) : RowAt K (upd H ro (.lst [.ref sa, .int p, .int sd, .int rest])) ro sa ns :=
  ⟨p, sd, rest, upd_same, hp, sqL_far hs n (.wr (M := [ro]) (by simp)), n⟩
def spTaken (K : PySem.W.Frag) : Sp := fun vs H Q _ => ∃ (ro sa : Addr) (ns : List Int) (m : Int), vs = [.ref ro, .int m] ∧ 1 ≤ m ∧ m ≤ 1000 ∧ RowAt K H ro sa ns ∧ ∀ H' v, 0 ≤ v → v < m → Kp [ro] H H' → RowAt K H' ro sa ns → Q (.int v) H'
def spPick (K : PySem.W.Frag) : Sp := fun vs H Q _ => ∃ (ro sa th : Addr) (ns : List Int) (xs : List V), vs = [.ref ro, .ref th] ∧ H th = some (.lst xs) ∧ th ≠ ro ∧ 1 ≤ xs.length ∧ xs.length ≤ 1000 ∧ RowAt K H ro sa ns ∧ ∀ H' v, v ∈ xs → Kp [ro] H H' → RowAt K H' ro sa ns → Q v H'
section
variable {P : Program} {w : World} {K : PySem.W.Frag} {mg : Str → Option Value} {base : Heap} {f C : Addr} {fd : FuncData} {Pt : Addr}
abbrev NTaken : List Str := ["_law_row", "_law_many", "_law_found", "_law_cell"]
theorem scTaken : FnScope NTaken ["_law_row", "_law_many"] (defScope dTaken) := ⟨rfl, rfl, rfl, by decide +kernel, rfl, by decide +kernel, by decide +kernel⟩
theorem ok_taken (F : Fun K "_law_taken" "_law_taken" dTaken f fd) (T : Tx K mg) : FnOk P w K mg base CX0 1 f fd ["_law_row", "_law_many"] (spTaken K) := by
  refine F.ok scTaken (fun vs H Q E h => ?_) (fun cdv A' outer s H vs Q E hr h => ?_)
  · obtain ⟨ro, sa, ns, m, rfl, _⟩ := h
    rfl
  · obtain ⟨ro, sa, ns, m, rfl, m1, m2, hR, q⟩ := h
    refine ⟨_, (pss_cons (ps_if (pt_cmpR op_gt (pe_ix ix_listS (pv 0) pe_int (by intro _ _; rfl)) pe_int (nomark _))
        (pss_cons (ps_set (i := 2) scTaken.nd rfl (Or.inl rfl) (pe_op op_mod (pe_callTy call_int1 (by rfl) T.int (by decide +kernel) (pa_cons (pe_ix ix_listS (pv 0) pe_int (by intro _ _; rfl)) pa_nil)) (pv 1)))
        (pss_cons (ps_asg (pe_op op_fdiv (pe_ix ix_listS (pv 0) pe_int (by intro _ _; rfl)) (pv 1)) (pg_sub (pv 0) pe_int set_list))
        (pss_one (ps_ret (pv 2)))))
        pss_nil)
      (pss_cons (ps_asg (pe_op op_add (pe_ix ix_listS (pv 0) pe_int (by intro _ _; rfl)) pe_int) (pg_sub (pv 0) pe_int set_list))
      (pss_cons (ps_if (pt_cmpR op_gt (pe_ix ix_listS (pv 0) pe_int (by intro _ _; rfl)) (pe_callB call_len_seq (by rfl) T.len PySem.boot_len (pa_cons (pe_ix ix_listS (pv 0) pe_int (by intro _ _; rfl)) pa_nil)) (nomark _))
        (pss_cons (ps_asg (pe_op op_mod (pe_callTy call_int1 (by rfl) T.int (by decide +kernel) (pa_cons (pe_op op_add (pe_op op_mul (pe_ix ix_listS (pv 0) pe_int (by intro _ _; rfl)) pe_int) pe_int) pa_nil)) pe_int) (pg_sub (pv 0) pe_int set_list))
        (pss_one (ps_ret (pe_op op_mod (pe_callTy call_int1 (by rfl) T.int (by decide +kernel) (pa_cons (pe_op op_fdiv (pe_ix ix_listS (pv 0) pe_int (by intro _ _; rfl)) pe_int) pa_nil)) (pv 1)))))
        pss_nil)
      (pss_cons (ps_set (i := 3) scTaken.nd rfl (Or.inl rfl) (pe_ix ix_list (pe_ix ix_listS (pv 0) pe_int (by intro _ _; rfl)) (pe_op op_sub (pe_ix ix_listS (pv 0) pe_int (by intro _ _; rfl)) pe_int) (by intro _ _; rfl)))
      (pss_cons (ps_asg (pe_op op_mod (pe_callTy call_int1 (by rfl) T.int (by decide +kernel) (pa_cons (pe_op op_add (pe_op op_add (pe_op op_mul (pe_ix ix_listS (pv 0) pe_int (by intro _ _; rfl)) pe_int) (pv 3)) pe_int) pa_nil)) pe_int) (pg_sub (pv 0) pe_int set_list))
      (pss_cons (ps_if (pt_cmpR op_ge (pv 3) (pe_op op_pow pe_int pe_int) (nomark _))
        (pss_one (ps_asg (pe_op op_fdiv (pv 3) (pv 1)) (pg_sub (pv 0) pe_int set_list)))
        pss_nil)
      (pss_one (ps_ret (pe_op op_mod (pe_callTy call_int1 (by rfl) T.int (by decide +kernel) (pa_cons (pv 3) pa_nil)) (pv 1)))))))))), ?_⟩
    obtain ⟨p, sd, rest, er, hp, hs, ns0⟩ := id hR
    have nn : ∀ z : Int, 0 ≤ z % m ∧ z % m < m := fun z => ⟨Int.emod_nonneg _ (by omega), Int.emod_lt_of_pos _ (by omega)⟩
    refine ⟨_, rfl, ro, _, _, _, rfl, rfl, er, rfl, _, _, rfl, rfl, _, rfl, ?_⟩
    by_cases h0 : rest > 0
    · rw [decide_eq_true h0]
      refine iteT ?_
      refine ⟨_, rfl, ro, _, _, _, rfl, rfl, er, rfl, .inl ⟨_, rfl, _, rfl, _, _, rfl, rfl, by omega, ?_⟩⟩
      refine ⟨_, rfl, ro, _, _, _, rfl, rfl, er, rfl, _, rfl, _, _, rfl, rfl, ⟨by omega, by omega⟩, _, rfl, ro, _, _, 3, rfl, rfl, er, rfl, ?_⟩
      refine ⟨_, rfl, q _ _ (nn _).1 (nn _).2 (.wr (by simp)) (.wr hs ns0 hp)⟩
    · rw [decide_eq_false h0]
      refine iteF ?_
      refine ⟨_, rfl, ro, _, _, _, rfl, rfl, er, rfl, _, _, rfl, rfl, _, rfl, ro, _, _, 1, rfl, rfl, er, rfl, ?_⟩
      have kw : Kp [ro] H (upd H ro (.lst [.ref sa, .int (p + 1), .int sd, .int rest])) := .wr (by simp)
      have ew : upd H ro (.lst [.ref sa, .int (p + 1), .int sd, .int rest]) ro = some (.lst [.ref sa, .int (p + 1), .int sd, .int rest]) := upd_same
      have hs1 : SqL K (upd H ro (.lst [.ref sa, .int (p + 1), .int sd, .int rest])) sa (ns.map V.int) := sqL_far hs ns0 kw
      have g : ∀ (H1 : Hp), Kp [ro] H H1 → H1 ro = some (.lst [.ref sa, .int (p + 1), .int sd, .int rest]) → SqL K H1 sa (ns.map V.int) → True := fun _ _ _ _ => trivial
      refine ⟨_, rfl, ro, _, _, _, rfl, rfl, ew, rfl, _, rfl, ro, _, _, _, rfl, rfl, ew, rfl, sa, _, rfl, .inl hs1, _, _, rfl, rfl, _, rfl, ?_⟩
      by_cases h1 : p + 1 > ((ns.map V.int).length : Nat)
      · rw [decide_eq_true h1]
        refine iteT ?_
        refine ⟨_, rfl, ro, _, _, _, rfl, rfl, ew, rfl, _, _, rfl, rfl, .inr ⟨by decide, by decide⟩, _, _, rfl, rfl, .inl ⟨_, rfl, _, _, rfl, rfl, (show (0 : Int) < 2147483647 by decide), _, rfl, ro, _, _, 2, rfl, rfl, ew, rfl, ?_⟩⟩
        have k2 := kw.trans (.wr (M := [ro]) (p := ro) (o := .lst [.ref sa, .int (p + 1), .int ((sd * 48271 + 11) % 2147483647), .int rest]) (by simp))
        have e2 : upd (upd H ro (.lst [.ref sa, .int (p + 1), .int sd, .int rest])) ro (.lst [.ref sa, .int (p + 1), .int ((sd * 48271 + 11) % 2147483647), .int rest]) ro = _ := upd_same
        refine ⟨_, rfl, ro, _, _, _, rfl, rfl, e2, rfl, _, _, rfl, rfl, ⟨by decide, by decide⟩, .inl ⟨_, rfl, _, rfl, _, _, rfl, rfl, by omega, q _ _ (nn _).1 (nn _).2 k2 (.wr hs1 ns0 (by omega))⟩⟩
      · rw [decide_eq_false h1]
        refine iteF ?_
        have hi : p.toNat < ns.length := by rw [List.length_map] at h1; omega
        obtain ⟨z, hz⟩ : ∃ z, ns[p.toNat]? = some z := ⟨_, List.getElem?_eq_getElem hi⟩
        have at1 : atI (ns.map V.int) (p + 1 - 1) = some (V.int z) := by
          have e : p + 1 - 1 = ((p.toNat : Nat) : Int) := by omega
          rw [e]
          exact atI_nat (by rw [List.getElem?_map, hz]; rfl)
        refine ⟨_, rfl, ro, _, _, _, rfl, rfl, ew, rfl, _, rfl, ro, _, _, _, rfl, rfl, ew, rfl, _, _, rfl, rfl, sa, _, _, _, rfl, rfl, hs1, at1, ?_⟩
        refine ⟨_, rfl, ro, _, _, _, rfl, rfl, ew, rfl, _, _, rfl, rfl, .inr ⟨by decide, by decide⟩, _, rfl, _, _, rfl, rfl, _, _, rfl, rfl, .inl ⟨_, rfl, _, _, rfl, rfl, (show (0 : Int) < 2147483647 by decide), _, rfl, ro, _, _, 2, rfl, rfl, ew, rfl, ?_⟩⟩
        have k2 := kw.trans (.wr (M := [ro]) (p := ro) (o := .lst [.ref sa, .int (p + 1), .int ((sd * 48271 + z + 11) % 2147483647), .int rest]) (by simp))
        have e2 : upd (upd H ro (.lst [.ref sa, .int (p + 1), .int sd, .int rest])) ro (.lst [.ref sa, .int (p + 1), .int ((sd * 48271 + z + 11) % 2147483647), .int rest]) ro = some (.lst [.ref sa, .int (p + 1), .int ((sd * 48271 + z + 11) % 2147483647), .int rest]) := upd_same
        have r2 : RowAt K (upd (upd H ro (.lst [.ref sa, .int (p + 1), .int sd, .int rest])) ro (.lst [.ref sa, .int (p + 1), .int ((sd * 48271 + z + 11) % 2147483647), .int rest])) ro sa ns := .wr hs1 ns0 (by omega)
        have hs2 := r2.choose_spec.choose_spec.choose_spec.2.2.1
        refine ⟨_, rfl, _, _, rfl, rfl, ⟨by decide, by decide, by decide⟩, _, _, rfl, rfl, _, rfl, ?_⟩
        by_cases h2 : z ≥ 10 ^ (18 : Int).toNat
        · rw [decide_eq_true h2]
          refine iteT ?_
          refine ⟨_, rfl, _, rfl, _, _, rfl, rfl, ⟨by omega, by omega⟩, _, rfl, ro, _, _, 3, rfl, rfl, e2, rfl, ?_⟩
          refine ⟨_, rfl, .inl ⟨_, rfl, _, rfl, _, _, rfl, rfl, by omega, q _ _ (nn _).1 (nn _).2 (k2.trans (.wr (by simp))) (.wr hs2 ns0 (by omega))⟩⟩
        · rw [decide_eq_false h2]
          refine iteF ?_
          exact ⟨_, rfl, .inl ⟨_, rfl, _, rfl, _, _, rfl, rfl, by omega, q _ _ (nn _).1 (nn _).2 k2 r2⟩⟩
abbrev NPick : List Str := ["_law_row", "_law_things"]
theorem scPick : FnScope NPick ["_law_row", "_law_things"] (defScope dPick) := ⟨rfl, rfl, rfl, by decide +kernel, rfl, by decide +kernel, by decide +kernel⟩
theorem ok_pick (F : Fun K "_law_pick" "_law_pick" dPick f fd) (T : Tx K mg) (h_law_taken : Has P w K mg base 1 "_law_taken" ["_law_row", "_law_many"] (spTaken K)) : FnOk P w K mg base CX0 2 f fd ["_law_row", "_law_things"] (spPick K) := by
  refine F.ok scPick (fun vs H Q E h => ?_) (fun cdv A' outer s H vs Q E hr h => ?_)
  · obtain ⟨ro, sa, th, ns, xs, rfl, _⟩ := h
    rfl
  · obtain ⟨ro, sa, th, ns, xs, rfl, et, nt, l1, l2, hR, q⟩ := h
    refine ⟨_, (pss_one (ps_ret (pe_ix ix_listS (pv 1) (pe_callH h_law_taken hr (by rfl) (pa_cons (pv 0) (pa_cons (pe_callB call_lenL (by rfl) T.len PySem.boot_len (pa_cons (pv 1) pa_nil)) pa_nil))) (by intro _ _; rfl)))), ?_⟩
    refine ⟨_, rfl, _, rfl, _, rfl, th, xs, rfl, et, ro, sa, ns, _, rfl, by omega, by omega, hR, fun H1 v v0 v1 k1 r1 => ?_⟩
    have hv : v.toNat < xs.length := by omega
    have hx : xs[v.toNat]? = some xs[v.toNat] := List.getElem?_eq_getElem hv
    have hat : atI xs v = some xs[v.toNat] := by
      have e : v = ((v.toNat : Nat) : Int) := by omega
      have e2 := atI_nat hx
      rw [← e] at e2
      exact e2
    exact ⟨th, xs, _, xs[v.toNat], rfl, rfl, k1 _ _ et (by simp; exact nt), hat, q _ _ (List.getElem_mem hv) k1 r1⟩
end
end Wk

/-! ## WLaw3 -/
set_option Elab.async false
set_option linter.all false
set_option maxRecDepth 100000
set_option maxHeartbeats 4000000
namespace Wk
open PySem L2 Wt
/-- a comprehension whose test says no to each thing -/
theorem lc_skip {J : It} {n : Nat} {G : Hp → Prop} {Y : Nat → Hp → V → Hp → Prop} (w : Walk J n G Y) {g : TG} {tt : TT} {te : TE} {vs : List Nat} {σ : St} {H1 : Hp} {D : Addr} {Qd : Hp → Prop}
    (hD : H1 D = none) (hG : ∀ H, Kp [] H1 H → G H)
    (hs : ∀ i x H H' (R : St → Bool → Hp → Prop), i < n → Kp [] H1 H → Y i H x H' → (∀ σ2 H4, Kp [] H H4 → R σ2 false H4) → g x (wipe σ vs) H' fun σ2 H2 => wipe σ2 vs = wipe σ vs ∧ tt σ2 H2 (R σ2))
    (hd : ∀ H, Kp [] H1 H → H D = some (.lst []) → Qd H) :
    ∃ W : Nat → Nat → Hp → Prop, (∃ m, W 0 m (upd H1 D (.lst []))) ∧ ∀ i m H, W i m H →
      (J.stop i H ∧ Qd H) ∨ (J.go i H ∧ ∃ Nx : Hp → Prop, (∀ H', Nx H' → ∃ m', m' < m ∧ W (i + 1) m' H') ∧ ∀ x H', J.yld i H x H' → g x (wipe σ vs) H' fun σ2 H2 => wipe σ2 vs = wipe σ vs ∧ tt σ2 H2 fun b H3 =>
        if b = true then te σ2 H3 fun y H4 => ∃ acc, H4 D = some (.lst acc) ∧ acc.length < sizeLine ∧ Nx (upd H4 D (.lst (acc ++ [y]))) else Nx H3) := by
  refine lc_it w (fun _ H => Kp [] H1 H ∧ H D = some (.lst [])) ⟨.new hD, upd_same⟩ (fun i H _ p => hG H p.1) ?_ (fun H p => hd H p.1 p.2)
  rintro i x H H' hi ⟨k, e⟩ hy
  refine hs i x H H' (fun σ2 b H3 => if b = true then te σ2 H3 fun y H4 => ∃ acc, H4 D = some (.lst acc) ∧ acc.length < sizeLine ∧ (Kp [] H1 (upd H4 D (.lst (acc ++ [y]))) ∧ upd H4 D (.lst (acc ++ [y])) D = some (.lst [])) else (Kp [] H1 H3 ∧ H3 D = some (.lst []))) hi k hy fun σ2 H4 k4 => ?_
  rw [if_neg (by decide)]
  exact ⟨k.trans k4, k4 _ _ e (by simp)⟩
def spAI : Sp := fun vs H Q _ => ∃ x : Int, vs = [.int x, .int x] ∧ ∀ H', Kp [] H H' → Q (.bl true) H'
def spAQ : Sp := fun vs H Q _ => ∃ (u v : V) (q : Rat), vs = [u, v] ∧ RatAt H u q ∧ RatAt H v q ∧ ∀ H', Kp [] H H' → Q (.bl true) H'
def spNo : Sp := fun _ _ _ _ => False
def spAre : Sp := fun vs H Q _ => ∃ (a : Addr) (n : Nat) (sg : Bool) (f : Nat → Rat), vs = [.ref a, .int (n : Nat), .bl sg] ∧ RT H a n f ∧ (∀ i, i < n → Sz 8999 (f i)) ∧ (sg = false → ∀ i, i < n → 0 ≤ f i) ∧ ∀ H', Kp [] H H' → Q (.bl true) H'
section
variable {P : Program} {w : World} {K : PySem.W.Frag} {mg : Str → Option Value} {base : Heap} {f C : Addr} {fd : FuncData} {Pt : Addr}
theorem ok_no {ps : List Str} : FnOk P w K mg base CX0 0 f fd ps spNo := ⟨fun _ _ _ _ h => h.elim, fun _ _ _ _ _ _ _ _ _ _ _ _ _ h => h.elim⟩
abbrev NAlike : List Str := ["_law_found", "_law_due", "_law_k"]
theorem scAlike : FnScope NAlike ["_law_found", "_law_due"] (defScope dAlike) := ⟨rfl, rfl, rfl, by decide +kernel, rfl, by decide +kernel, by decide +kernel⟩
theorem ok_alikeI (F : Fun K "_law_alike" "_law_alike" dAlike f fd) (T : Tx K mg) (h_law_alike : Has P w K mg base 0 "_law_alike" ["_law_found", "_law_due"] spNo) : FnOk P w K mg base CX0 1 f fd ["_law_found", "_law_due"] spAI := by
  refine F.ok scAlike (fun vs H Q E h => ?_) (fun cdv A' outer s H vs Q E hr h => ?_)
  · obtain ⟨x, rfl, _⟩ := h
    rfl
  · obtain ⟨x, rfl, q⟩ := h
    refine ⟨_, (pss_cons (ps_if (pt_val (pe_callB call_isiTS (by rfl) T.isinstance (by decide +kernel) (pa_cons (pv 1) (pa_cons (pe_tup (pa_cons (pe_bltn (v := .ty "tuple") (by rfl) T.tuple (by decide +kernel) rfl) (pa_cons (pe_bltn (v := .ty "list") (by rfl) T.list (by decide +kernel) rfl) pa_nil))) pa_nil))))
        (pss_cons (ps_if (PW.pt (pw_or (pt_not (pt_val (pe_callB call_isiTS (by rfl) T.isinstance (by decide +kernel) (pa_cons (pv 0) (pa_cons (pe_tup (pa_cons (pe_bltn (v := .ty "tuple") (by rfl) T.tuple (by decide +kernel) rfl) (pa_cons (pe_bltn (v := .ty "list") (by rfl) T.list (by decide +kernel) rfl) pa_nil))) pa_nil))))) (pw_or1 (pt_cmpR op_ne (pe_callB call_isiS (by rfl) T.isinstance (by decide +kernel) (pa_cons (pv 0) (pa_cons (pe_bltn (v := .ty "list") (by rfl) T.list (by decide +kernel) rfl) pa_nil))) (pe_callB call_isiS (by rfl) T.isinstance (by decide +kernel) (pa_cons (pv 1) (pa_cons (pe_bltn (v := .ty "list") (by rfl) T.list (by decide +kernel) rfl) pa_nil))) (nomark _)))))
          (pss_one (ps_ret pe_bl))
          pss_nil)
        (pss_cons (ps_if (pt_cmpR op_ne (pe_callB call_lenT (by rfl) T.len PySem.boot_len (pa_cons (pv 0) pa_nil)) (pe_callB call_lenT (by rfl) T.len PySem.boot_len (pa_cons (pv 1) pa_nil)) (nomark _))
          (pss_one (ps_ret pe_bl))
          pss_nil)
        (pss_one (ps_ret (pe_cmpR (op_eqD hr.units) (pe_lc (own := [("_law_k", 2)]) (g := gName 2)  rfl scAlike.nd (pi_range1 (by rfl) T.range (pa_cons (pe_callB call_lenT (by rfl) T.len PySem.boot_len (pa_cons (pv 1) pa_nil)) pa_nil)) (blkOk_by (own := [("_law_k", 2)]) (N := NAlike) (sc := defScope dAlike) (by decide +kernel)) (fun _ _ _ _ _ => (pg_name (i := 2) scAlike.nd rfl (Or.inl rfl))) (fun _ _ _ _ _ => by exact (pts_one (pt_not (pt_val (pe_callH h_law_alike hr (by rfl) (pa_cons (pe_ix ix_tupS (pv 0) (pv 2) (by intro _ _; rfl)) (pa_cons (pe_ix ix_tupS (pv 1) (pv 2) (by intro _ _; rfl)) pa_nil))))))) (fun _ _ _ _ _ => by exact (pv 2))) (pe_lst pa_nil) (nomark _))))))
        pss_nil)
      (pss_cons (ps_if (PW.pt (pw_or (pt_cmpR op_isN (pv 1) pe_non (nomark _)) (pw_or1 (pt_val (pe_callB call_isiS (by rfl) T.isinstance (by decide +kernel) (pa_cons (pv 1) (pa_cons (pe_bltn (v := .ty "str") (by rfl) T.str (by decide +kernel) rfl) pa_nil)))))))
        (pss_one (ps_ret (pe_and (pe_cmpR op_eq (pv 0) (pv 1) (nomark _)) (pe_one (pe_cmpR op_eq (pe_callB call_isiS (by rfl) T.isinstance (by decide +kernel) (pa_cons (pv 0) (pa_cons (pe_bltn (v := .ty "str") (by rfl) T.str (by decide +kernel) rfl) pa_nil))) (pe_callB call_isiS (by rfl) T.isinstance (by decide +kernel) (pa_cons (pv 1) (pa_cons (pe_bltn (v := .ty "str") (by rfl) T.str (by decide +kernel) rfl) pa_nil))) (nomark _))))))
        pss_nil)
      (pss_one (ps_ret (pe_and (pe_callB call_isiS (by rfl) T.isinstance (by decide +kernel) (pa_cons (pv 0) (pa_cons (pe_bltn (v := .ty "int") (by rfl) T.int (by decide +kernel) rfl) pa_nil))) (pe_and (pe_cmpR op_eq (pe_callB call_isiS (by rfl) T.isinstance (by decide +kernel) (pa_cons (pv 0) (pa_cons (pe_bltn (v := .ty "bool") (by rfl) T.bool (by decide +kernel) rfl) pa_nil))) (pe_callB call_isiS (by rfl) T.isinstance (by decide +kernel) (pa_cons (pv 1) (pa_cons (pe_bltn (v := .ty "bool") (by rfl) T.bool (by decide +kernel) rfl) pa_nil))) (nomark _)) (pe_one (pe_cmpR op_eq (pv 0) (pv 1) (nomark _))))))))), ?_⟩
    refine ⟨_, rfl, by show 2 ≤ sizeLine; decide, fun tp htp => ⟨_, _, _, _, false, false, tp, rfl, upd_same, rfl, by decide +kernel, by decide +kernel, false, rfl, iteF ?_⟩⟩
    refine ⟨_, rfl, rfl, _, rfl, iteB (c := false) (by simp) (iteF ?_)⟩
    refine ⟨_, rfl, _, _, _, false, rfl, rfl, by decide +kernel, false, rfl, iteF ?_⟩
    refine ⟨_, rfl, _, _, _, true, rfl, rfl, by decide +kernel, true, rfl, iteT ?_⟩
    refine ⟨_, rfl, _, _, _, false, rfl, rfl, by decide +kernel, _, rfl, _, _, _, false, rfl, rfl, by decide +kernel, rfl, _, rfl, iteB (c := true) (by simp) (iteT ?_)⟩
    refine ⟨_, rfl, _, rfl, rfl, ?_⟩
    rw [decide_eq_true rfl]
    exact q _ (.new htp)
theorem ok_alikeQ (F : Fun K "_law_alike" "_law_alike" dAlike f fd) (T : Tx K mg) (h_law_alike : Has P w K mg base 1 "_law_alike" ["_law_found", "_law_due"] spAI) : FnOk P w K mg base CX0 2 f fd ["_law_found", "_law_due"] spAQ := by
  refine F.ok scAlike (fun vs H Q E h => ?_) (fun cdv A' outer s H vs Q E hr h => ?_)
  · obtain ⟨u, v, r, rfl, _⟩ := h
    rfl
  · obtain ⟨u, v, r, rfl, ⟨ua, rfl, eu⟩, ⟨va, rfl, ev⟩, q⟩ := h
    refine ⟨_, (pss_cons (ps_if (pt_val (pe_callB call_isiTS (by rfl) T.isinstance (by decide +kernel) (pa_cons (pv 1) (pa_cons (pe_tup (pa_cons (pe_bltn (v := .ty "tuple") (by rfl) T.tuple (by decide +kernel) rfl) (pa_cons (pe_bltn (v := .ty "list") (by rfl) T.list (by decide +kernel) rfl) pa_nil))) pa_nil))))
        (pss_cons (ps_if (PW.pt (pw_or (pt_not (pt_val (pe_callB call_isiTS (by rfl) T.isinstance (by decide +kernel) (pa_cons (pv 0) (pa_cons (pe_tup (pa_cons (pe_bltn (v := .ty "tuple") (by rfl) T.tuple (by decide +kernel) rfl) (pa_cons (pe_bltn (v := .ty "list") (by rfl) T.list (by decide +kernel) rfl) pa_nil))) pa_nil))))) (pw_or1 (pt_cmpR op_ne (pe_callB call_isiS (by rfl) T.isinstance (by decide +kernel) (pa_cons (pv 0) (pa_cons (pe_bltn (v := .ty "list") (by rfl) T.list (by decide +kernel) rfl) pa_nil))) (pe_callB call_isiS (by rfl) T.isinstance (by decide +kernel) (pa_cons (pv 1) (pa_cons (pe_bltn (v := .ty "list") (by rfl) T.list (by decide +kernel) rfl) pa_nil))) (nomark _)))))
          (pss_one (ps_ret pe_bl))
          pss_nil)
        (pss_cons (ps_if (pt_cmpR op_ne (pe_callB call_lenT (by rfl) T.len PySem.boot_len (pa_cons (pv 0) pa_nil)) (pe_callB call_lenT (by rfl) T.len PySem.boot_len (pa_cons (pv 1) pa_nil)) (nomark _))
          (pss_one (ps_ret pe_bl))
          pss_nil)
        (pss_one (ps_ret (pe_cmpR (op_eqD hr.units) (pe_lc (own := [("_law_k", 2)]) (g := gName 2)  rfl scAlike.nd (pi_range1 (by rfl) T.range (pa_cons (pe_callB call_lenT (by rfl) T.len PySem.boot_len (pa_cons (pv 1) pa_nil)) pa_nil)) (blkOk_by (own := [("_law_k", 2)]) (N := NAlike) (sc := defScope dAlike) (by decide +kernel)) (fun _ _ _ _ _ => (pg_name (i := 2) scAlike.nd rfl (Or.inl rfl))) (fun _ _ _ _ _ => by exact (pts_one (pt_not (pt_val (pe_callH h_law_alike hr (by rfl) (pa_cons (pe_ix ix_tupS (pv 0) (pv 2) (by intro _ _; rfl)) (pa_cons (pe_ix ix_tupS (pv 1) (pv 2) (by intro _ _; rfl)) pa_nil))))))) (fun _ _ _ _ _ => by exact (pv 2))) (pe_lst pa_nil) (nomark _))))))
        pss_nil)
      (pss_cons (ps_if (PW.pt (pw_or (pt_cmpR op_isN (pv 1) pe_non (nomark _)) (pw_or1 (pt_val (pe_callB call_isiS (by rfl) T.isinstance (by decide +kernel) (pa_cons (pv 1) (pa_cons (pe_bltn (v := .ty "str") (by rfl) T.str (by decide +kernel) rfl) pa_nil)))))))
        (pss_one (ps_ret (pe_and (pe_cmpR op_eq (pv 0) (pv 1) (nomark _)) (pe_one (pe_cmpR op_eq (pe_callB call_isiS (by rfl) T.isinstance (by decide +kernel) (pa_cons (pv 0) (pa_cons (pe_bltn (v := .ty "str") (by rfl) T.str (by decide +kernel) rfl) pa_nil))) (pe_callB call_isiS (by rfl) T.isinstance (by decide +kernel) (pa_cons (pv 1) (pa_cons (pe_bltn (v := .ty "str") (by rfl) T.str (by decide +kernel) rfl) pa_nil))) (nomark _))))))
        pss_nil)
      (pss_one (ps_ret (pe_and (pe_callB call_isiS (by rfl) T.isinstance (by decide +kernel) (pa_cons (pv 0) (pa_cons (pe_bltn (v := .ty "int") (by rfl) T.int (by decide +kernel) rfl) pa_nil))) (pe_and (pe_cmpR op_eq (pe_callB call_isiS (by rfl) T.isinstance (by decide +kernel) (pa_cons (pv 0) (pa_cons (pe_bltn (v := .ty "bool") (by rfl) T.bool (by decide +kernel) rfl) pa_nil))) (pe_callB call_isiS (by rfl) T.isinstance (by decide +kernel) (pa_cons (pv 1) (pa_cons (pe_bltn (v := .ty "bool") (by rfl) T.bool (by decide +kernel) rfl) pa_nil))) (nomark _)) (pe_one (pe_cmpR op_eq (pv 0) (pv 1) (nomark _))))))))), ?_⟩
    refine ⟨_, rfl, by show 2 ≤ sizeLine; decide, fun tp htp => ⟨_, _, _, _, true, false, tp, rfl, upd_same, .inl ⟨rfl, _, (Kp.new (M := []) htp) _ _ ev (by simp)⟩, by decide +kernel, by decide +kernel, true, rfl, iteT ?_⟩⟩
    have k1 : Kp [] H (upd H tp (.tup [.ty "tuple", .ty "list"])) := .new htp
    generalize upd H tp (.tup [.ty "tuple", .ty "list"]) = H1 at k1 ⊢
    refine ⟨_, rfl, by show 2 ≤ sizeLine; decide, fun tp2 htp2 => ⟨_, _, _, _, true, false, tp2, rfl, upd_same, .inl ⟨rfl, _, (k1.trans (Kp.new (M := []) htp2)) _ _ eu (by simp)⟩, by decide +kernel, by decide +kernel, true, rfl, iteF ?_⟩⟩
    have k2 := k1.trans (.new (o := .tup [.ty "tuple", .ty "list"]) htp2)
    generalize upd H1 tp2 (.tup [.ty "tuple", .ty "list"]) = H2 at k2 ⊢
    have eu2 := k2 _ _ eu (by simp)
    have ev2 := k2 _ _ ev (by simp)
    refine ⟨_, rfl, _, _, _, false, rfl, .inl ⟨rfl, _, eu2⟩, by decide +kernel, _, rfl, _, _, _, false, rfl, .inl ⟨rfl, _, ev2⟩, by decide +kernel, rfl, _, rfl, iteB (c := false) (by simp) (iteF ?_)⟩
    refine ⟨_, rfl, ua, _, rfl, eu2, _, rfl, va, _, rfl, ev2, rfl, _, rfl, iteB (c := false) (by simp) (iteF ?_)⟩
    refine ⟨_, rfl, va, _, rfl, ev2, _, rfl, (show -(2 ^ 62) ≤ ((2 : Nat) : Int) by decide), (show ((2 : Nat) : Int) < 2 ^ 62 by decide), fun D hD => lc_skip walk_range hD (fun _ _ => trivial) ?_ ?_⟩
    · rintro i x H3 H4 R hi k3 ⟨rfl, rfl⟩ hR
      have hi2 : i < 2 := hi
      have eu3 := k3 _ _ eu2 (by simp)
      have ev3 := k3 _ _ ev2 (by simp)
      obtain ⟨z, hz⟩ : ∃ z : Int, (qt r)[i]? = some (V.int z) := by
        rcases (show i = 0 ∨ i = 1 by omega) with e | e
        · rw [e]; exact ⟨_, rfl⟩
        · rw [e]; exact ⟨_, rfl⟩
      have ha : atI (qt r) (0 + ((i : Nat) : Int)) = some (V.int z) := by rw [Int.zero_add]; exact atI_nat hz
      exact ⟨rfl, _, rfl, _, rfl, ua, _, _, _, rfl, rfl, eu3, ha, _, rfl, _, rfl, va, _, _, _, rfl, rfl, ev3, ha, z, rfl, fun H5 k5 => ⟨true, rfl, hR _ _ k5⟩⟩
    · intro H3 k3 e3
      refine ⟨Nat.zero_le _, fun l hl => ?_⟩
      have nl : D ≠ l := ne_of_none e3 hl
      refine ⟨_, _, .lst (SqL.of ((upd_ne nl).trans e3)) .nil, .lst (SqL.of upd_same) .nil, rfl, rfl, ?_⟩
      exact q _ (k2.trans (k3.trans (.new hl)))
abbrev NAre : List Str := ["_law_value", "_law_many", "_law_is_signed", "_law_one", "_law_k"]
theorem scAre : FnScope NAre ["_law_value", "_law_many", "_law_is_signed"] (defScope dAre) := ⟨rfl, rfl, rfl, by decide +kernel, rfl, by decide +kernel, by decide +kernel⟩
theorem ok_are (F : Fun K "_law_are_ratios" "_law_are_ratios" dAre f fd) (T : Tx K mg) (h_law_ratio : Has P w K mg base 1 "_law_ratio" ["_law_top", "_law_bottom"] spRatio) : FnOk P w K mg base CX0 2 f fd ["_law_value", "_law_many", "_law_is_signed"] spAre := by
  refine F.ok scAre (fun vs H Q E h => ?_) (fun cdv A' outer s H vs Q E hr h => ?_)
  · obtain ⟨a, n, sg, g, rfl, _⟩ := h
    rfl
  · obtain ⟨a, n, sg, g, rfl, ⟨vs, ea, la, xa⟩, hz, hn, q⟩ := h
    refine ⟨_, (pss_cons (ps_if (PW.pt (pw_or (pt_not (pt_val (pe_callB call_isiS (by rfl) T.isinstance (by decide +kernel) (pa_cons (pv 0) (pa_cons (pe_bltn (v := .ty "tuple") (by rfl) T.tuple (by decide +kernel) rfl) pa_nil))))) (pw_or1 (pt_cmpR op_ne (pe_callB call_lenT (by rfl) T.len PySem.boot_len (pa_cons (pv 0) pa_nil)) (pv 1) (nomark _)))))
        (pss_one (ps_ret pe_bl))
        pss_nil)
      (pss_cons (ps_for PassesOwn.never rfl (pi_tupS (pv 0)) (pg_name (i := 3) scAre.nd rfl (Or.inl rfl))
        (pss_cons (ps_if (PW.pt (pw_or (pt_not (pt_val (pe_callB call_isiS (by rfl) T.isinstance (by decide +kernel) (pa_cons (pv 3) (pa_cons (pe_bltn (v := .ty "tuple") (by rfl) T.tuple (by decide +kernel) rfl) pa_nil))))) (pw_or (pt_cmpR op_ne (pe_callB call_lenT (by rfl) T.len PySem.boot_len (pa_cons (pv 3) pa_nil)) pe_int (nomark _)) (pw_or1 (pt_cmpR (op_neD hr.units) (pe_lc (own := [("_law_k", 4)]) (g := gName 4)  rfl scAre.nd (pi_tupS (pv 3)) (blkOk_by (own := [("_law_k", 4)]) (N := NAre) (sc := defScope dAre) (by decide +kernel)) (fun _ _ _ _ _ => (pg_name (i := 4) scAre.nd rfl (Or.inl rfl))) (fun _ _ _ _ _ => by exact (pts_one (PW.pt (pw_or (pt_not (pt_val (pe_callB call_isiS (by rfl) T.isinstance (by decide +kernel) (pa_cons (pv 4) (pa_cons (pe_bltn (v := .ty "int") (by rfl) T.int (by decide +kernel) rfl) pa_nil))))) (pw_or1 (pt_val (pe_callB call_isiS (by rfl) T.isinstance (by decide +kernel) (pa_cons (pv 4) (pa_cons (pe_bltn (v := .ty "bool") (by rfl) T.bool (by decide +kernel) rfl) pa_nil))))))))) (fun _ _ _ _ _ => by exact (pv 4))) (pe_lst pa_nil) (nomark _))))))
          (pss_one (ps_ret pe_bl))
          pss_nil)
        (pss_one (ps_if (PW.pt (pw_or (pt_cmpR op_lt (pe_ix ix_tupS (pv 3) pe_int (by intro _ _; rfl)) pe_int (nomark _)) (pw_or (pt_cmpR (op_neQ hr.units) (pe_callH h_law_ratio hr (by rfl) (pa_cons (pe_ix ix_tupS (pv 3) pe_int (by intro _ _; rfl)) (pa_cons (pe_ix ix_tupS (pv 3) pe_int (by intro _ _; rfl)) pa_nil))) (pv 3) (nomark _)) (pw_or1 (PW.pt (pw_and (pt_cmpR op_lt (pe_ix ix_tupS (pv 3) pe_int (by intro _ _; rfl)) pe_int (nomark _)) (pw_and1 (pt_not (pt_val (pv 2))))))))))
          (pss_one (ps_ret pe_bl))
          pss_nil))))
      (pss_one (ps_ret pe_bl)))), ?_⟩
    refine ⟨_, rfl, _, _, _, true, rfl, .inl ⟨rfl, _, ea⟩, by decide +kernel, true, rfl, iteF ?_⟩
    refine ⟨_, rfl, a, vs, rfl, ea, _, rfl, rfl, _, rfl, iteB (c := false) (by rw [la, decide_eq_true rfl]; rfl) (iteF ?_)⟩
    refine ⟨_, rfl, a, rfl, ⟨_, ea⟩, for_it (walk_tup (K := K) (a := a) (xs := vs)) (fun i σ H' => ∃ o : Option V, σ = [some (.ref a), some (.int (n : Nat)), some (.bl sg), o, none] ∧ Kp [] H H') ⟨none, rfl, .refl⟩ (fun i σ H' _ ⟨_, _, k⟩ => SqT.of (k _ _ ea (by simp))) ?_ ?_⟩
    · rintro i x σ H1 H2 hi ⟨o, rfl, k1⟩ ⟨rfl, hx⟩
      have hi2 : i < n := by omega
      obtain ⟨p, rfl, ep⟩ := (xa i x hx).kp0 k1
      refine ⟨_, rfl, _, _, _, true, rfl, .inl ⟨rfl, _, ep⟩, by decide +kernel, true, rfl, iteF ?_⟩
      refine ⟨_, rfl, p, _, rfl, ep, rfl, _, rfl, iteB (c := false) (by simp [qt]) (iteF ?_)⟩
      refine ⟨_, rfl, p, rfl, ⟨_, ep⟩, fun D hD => lc_skip (walk_tup (K := K) (a := p) (xs := qt (g i))) hD (fun H k => SqT.of (k _ _ ep (by simp))) ?_ ?_⟩
      · rintro j y H3 H4 R hj k3 ⟨rfl, hy⟩ hR
        obtain ⟨z, rfl⟩ : ∃ z : Int, y = V.int z := by
          rcases (show j = 0 ∨ j = 1 by have : j < 2 := hj; omega) with e | e
          · subst e; cases hy; exact ⟨_, rfl⟩
          · subst e; cases hy; exact ⟨_, rfl⟩
        exact ⟨rfl, _, rfl, _, _, _, true, rfl, rfl, by decide +kernel, true, rfl, iteF ⟨_, rfl, _, _, _, false, rfl, rfl, by decide +kernel, false, rfl, hR _ _ .refl⟩⟩
      · intro H3 k3 e3
        refine ⟨Nat.zero_le _, fun l hl => ?_⟩
        have nl : D ≠ l := ne_of_none e3 hl
        refine ⟨_, _, .lst (SqL.of ((upd_ne nl).trans e3)) .nil, .lst (SqL.of upd_same) .nil, rfl, rfl, _, rfl, iteB (c := false) rfl (iteF ?_)⟩
        have k4 := k3.trans (.new (o := .lst []) hl)
        generalize upd H3 l (.lst []) = H4 at k4 ⊢
        have ep4 := k4 _ _ ep (by simp)
        refine ⟨_, rfl, p, _, _, _, rfl, rfl, ep4, rfl, _, _, rfl, rfl, _, rfl, iteB (c := false) (decide_eq_false (by have := den_pos' (g i); omega)) (iteF ?_)⟩
        refine ⟨_, rfl, p, _, 0, _, rfl, rfl, ep4, rfl, _, rfl, p, _, 1, _, rfl, rfl, ep4, rfl, (g i).num, ((g i).den : Nat), rfl, den_ne _, Nat.lt_trans (sz_den (hz i hi2)) (Nat.pow_lt_pow_right (by decide) (by decide)), fun H5 v k5 r5 => ?_⟩
        rw [q_eq] at r5
        have ep5 := k5 _ _ ep4 (by simp)
        refine ⟨_, rfl, g i, g i, r5, ⟨p, rfl, ep5⟩, _, rfl, iteB (c := false) (by rw [decide_eq_true rfl]; rfl) (iteF ?_)⟩
        refine ⟨_, rfl, p, _, 0, _, rfl, rfl, ep5, rfl, _, _, rfl, rfl, _, rfl, ?_⟩
        have fin : ∃ o : Option V, [some (V.ref a), some (.int ((n : Nat) : Int)), some (.bl sg), some (.ref p), none] = [some (V.ref a), some (.int ((n : Nat) : Int)), some (.bl sg), o, none] ∧ Kp [] H H5 := ⟨_, rfl, k1.trans (k4.trans k5)⟩
        by_cases h0 : (g i).num < 0
        · rw [decide_eq_true h0]
          refine iteT ⟨_, rfl, sg, rfl, ?_⟩
          cases sg with
          | true => exact iteF fin
          | false =>
            have := Rat.num_nonneg.mpr (hn rfl i hi2)
            omega
        · rw [decide_eq_false h0]
          exact iteF (iteF fin)
    · rintro σ H1 ⟨o, rfl, k1⟩
      exact q H1 k1
end
end Wk

/-! ## WLaw4 -/
set_option Elab.async false
set_option linter.all false
set_option maxRecDepth 100000
set_option maxHeartbeats 4000000
namespace Wk
open PySem L2 Wt
def PrB (H : Hp) (v : V) : Prop := ∃ a b : Int, PrI H v a b ∧ (1 ≤ a ∧ a ≤ 100) ∧ 0 ≤ b ∧ b ≤ 299
def SideOk (H : Hp) (v : V) : Prop := ∃ x vs, v = .ref x ∧ H x = some (.tup vs) ∧ 1 ≤ vs.length ∧ vs.length ≤ 3 ∧ ∀ (i : Nat) y, vs[i]? = some y → PrB H y
theorem PrB.kp {M : List Addr} {H H' : Hp} {v : V} (h : PrB H v) (k : Kp M H H') (m : Mu M H) : PrB H' v := let ⟨a, b, p, r⟩ := h; ⟨a, b, p.kp k m, r⟩
theorem SideOk.kp {M : List Addr} {H H' : Hp} {v : V} (h : SideOk H v) (k : Kp M H H') (m : Mu M H) : SideOk H' v := let ⟨x, vs, e, t, l1, l2, r⟩ := h; ⟨x, vs, e, tup_kp t k m, l1, l2, fun i y q => (r i y q).kp k m⟩
theorem side_fn {H : Hp} {v : V} (h : SideOk H v) : ∃ x n f d, v = .ref x ∧ Side H x n f d ∧ 1 ≤ n ∧ n ≤ 3 ∧ ∀ i, i < n → (1 ≤ f i ∧ f i ≤ 100) ∧ 0 ≤ d i ∧ d i ≤ 299 := by
  obtain ⟨x, vs, e, t, l1, l2, r⟩ := h
  have c : ∀ i : Nat, ∃ ab : Int × Int, ∀ y, vs[i]? = some y → PrI H y ab.1 ab.2 ∧ (1 ≤ ab.1 ∧ ab.1 ≤ 100) ∧ 0 ≤ ab.2 ∧ ab.2 ≤ 299 := fun i => by
    cases q : vs[i]? with
    | none => exact ⟨(0, 0), fun y z => by cases z⟩
    | some y =>
      obtain ⟨a, b, p⟩ := r i y q
      exact ⟨(a, b), fun y' z => by cases z; exact p⟩
  obtain ⟨F, hF⟩ := Classical.axiomOfChoice c
  refine ⟨x, vs.length, fun i => (F i).1, fun i => (F i).2, e, ⟨vs, t, rfl, fun i y q => (hF i y q).1⟩, l1, l2, fun i hi => (hF i vs[i] (List.getElem?_eq_getElem hi)).2⟩
/-- one thing more at the end of a list -/
theorem all_snoc {p : V → Prop} {vs : List V} {v : V} (h : ∀ (i : Nat) y, vs[i]? = some y → p y) (hv : p v) : ∀ (i : Nat) y, (vs ++ [v])[i]? = some y → p y := fun i y q => by
  rcases List.mem_append.mp (List.mem_of_getElem? q) with h1 | h1
  · obtain ⟨j, hj⟩ := List.mem_iff_getElem?.mp h1
    exact h j y hj
  · rw [List.mem_singleton.mp h1]
    exact hv
theorem row_new {K : PySem.W.Frag} {H0 H1 H2 : Hp} {ro sa pa : Addr} {ns : List Int} (h0 : RowAt K H0 ro sa ns) (hp : H0 pa = none) (h1 : RowAt K H1 ro sa ns) (n : pa ≠ ro) (k : Kp [pa] H1 H2) : RowAt K H2 ro sa ns := by
  obtain ⟨_, _, _, _, _, hs0, _⟩ := h0
  obtain ⟨p, sd, rest, e, hp1, hs, nr⟩ := h1
  refine ⟨p, sd, rest, k _ _ e (by simp; exact n.symm), hp1, ?_, nr⟩
  rcases hs0 with (h | ⟨o, h⟩) | h
  · exact sqL_kp hs k (by simp; exact ne_of_none h hp)
  · exact sqL_kp hs k (by simp; exact ne_of_none h hp)
  · exact .inr h
theorem list2 {α : Type} : ∀ {l : List α}, l.length = 2 → ∃ a b, l = [a, b]
  | [a, b], _ => ⟨a, b, rfl⟩
def spLWater (K : PySem.W.Frag) : Sp := fun vs H Q _ => ∃ (ro sa : Addr) (ns : List Int), vs = [.ref ro] ∧ RowAt K H ro sa ns ∧ ∀ H' wa a, Kp [ro] H H' → RowAt K H' ro sa ns → WaAt H' wa a → a.Ok → Q (.ref wa) H'
section
variable {P : Program} {w : World} {K : PySem.W.Frag} {mg : Str → Option Value} {base : Heap} {f C : Addr} {fd : FuncData} {Pt : Addr}
abbrev NLWater : List Str := ["_law_row", "_law_found", "_law_side", "_law_part", "_law_k"]
theorem scLWater : FnScope NLWater ["_law_row"] (defScope dLWater) := ⟨rfl, rfl, rfl, by decide +kernel, rfl, by decide +kernel, by decide +kernel⟩
theorem ok_lwater (F : Fun K "_law_water" "_law_water" dLWater f fd) (T : Tx K mg) (h_law_taken : Has P w K mg base 1 "_law_taken" ["_law_row", "_law_many"] (spTaken K)) (h_law_pick : Has P w K mg base 2 "_law_pick" ["_law_row", "_law_things"] (spPick K)) : FnOk P w K mg base CX0 3 f fd ["_law_row"] (spLWater K) := by
  refine F.ok scLWater (fun vs H Q E h => ?_) (fun cdv A' outer s H vs Q E hr h => ?_)
  · obtain ⟨ro, sa, ns, rfl, _⟩ := h
    rfl
  · obtain ⟨ro, sa, ns, rfl, hR, q⟩ := h
    have h_law_taken := h_law_taken.mono (show 1 ≤ 2 by decide)
    refine ⟨_, (pss_cons (ps_set (i := 1) scLWater.nd rfl (Or.inl rfl) (pe_lst pa_nil))
      (pss_cons (ps_for PassesOwn.never rfl (pi_range1 (by rfl) T.range (pa_cons pe_int pa_nil)) (pg_name (i := 2) scLWater.nd rfl (Or.inl rfl))
        (pss_cons (ps_set (i := 3) scLWater.nd rfl (Or.inl rfl) (pe_lst pa_nil))
        (pss_cons (ps_for PassesOwn.never rfl (pi_range1 (by rfl) T.range (pa_cons (pe_op op_add pe_int (pe_callH h_law_taken hr (by rfl) (pa_cons (pv 0) (pa_cons pe_int pa_nil)))) pa_nil)) (pg_name (i := 4) scLWater.nd rfl (Or.inl rfl))
          (pss_one (ps_expr (pe_bm PySem.F.plainAttrs_list PySem.F.slot_list_append PySem.F.type_list_append mt_append (pv 3) (pa_cons (pe_tup (pa_cons (pe_callH h_law_pick hr (by rfl) (pa_cons (pv 0) (pa_cons (pe_lst (pa_cons pe_int (pa_cons pe_int (pa_cons pe_int (pa_cons (pe_op op_add pe_int (pe_callH h_law_taken hr (by rfl) (pa_cons (pv 0) (pa_cons pe_int pa_nil)))) pa_nil))))) pa_nil))) (pa_cons (pe_callH h_law_pick hr (by rfl) (pa_cons (pv 0) (pa_cons (pe_lst (pa_cons pe_int (pa_cons pe_int (pa_cons pe_int (pa_cons pe_int (pa_cons (pe_callH h_law_taken hr (by rfl) (pa_cons (pv 0) (pa_cons pe_int pa_nil))) pa_nil)))))) pa_nil))) pa_nil))) pa_nil)))))
        (pss_one (ps_expr (pe_bm PySem.F.plainAttrs_list PySem.F.slot_list_append PySem.F.type_list_append mt_append (pv 1) (pa_cons (pe_callTy call_tupleL (by rfl) T.tuple (by decide +kernel) (pa_cons (pv 3) pa_nil)) pa_nil)))))))
      (pss_one (ps_ret (pe_callTy call_tupleL (by rfl) T.tuple (by decide +kernel) (pa_cons (pv 1) pa_nil)))))), ?_⟩
    have mR := hR.mu
    obtain ⟨_, _, _, er, _⟩ := id hR
    refine ⟨Nat.zero_le _, fun fa hfa => ?_⟩
    have nfr : fa ≠ ro := (ne_of_none er hfa).symm
    have k1 : Kp [] H (upd H fa (.lst [])) := .new hfa
    refine ⟨_, rfl, by decide, by decide, for_it walk_range (fun i σ H' => ∃ o2 o3 o4 : Option V, σ = [some (.ref ro), some (.ref fa), o2, o3, o4] ∧ Kp [ro] H H' ∧ RowAt K H' ro sa ns ∧ ∃ fs, H' fa = some (.lst fs) ∧ fs.length = i ∧ ∀ (j : Nat) y, fs[j]? = some y → SideOk H' y)
      ⟨none, none, none, rfl, k1.nil, hR.kp0 k1, [], upd_same, rfl, fun j y e => by simp at e⟩ (fun _ _ _ _ _ => trivial) ?_ ?_⟩
    · rintro i x σ H1 H2 hi ⟨o2, o3, o4, rfl, k2, r2, fs, ef, lf, xf⟩ ⟨rfl, rfl⟩
      refine ⟨Nat.zero_le _, fun pa hpa => ?_⟩
      have npr : pa ≠ ro := by
        obtain ⟨_, _, _, e2, _⟩ := id r2
        exact (ne_of_none e2 hpa).symm
      have npf : pa ≠ fa := (ne_of_none ef hpa).symm
      have pa0 : H pa = none := k2.none hpa (by simp; exact npr)
      have k3 : Kp [] H2 (upd H2 pa (.lst [])) := .new hpa
      have e3 : upd H2 pa (.lst []) pa = some (.lst []) := upd_same
      generalize upd H2 pa (.lst []) = H3 at k3 e3 ⊢
      have r3 := r2.kp0 k3
      refine ⟨_, rfl, ro, sa, ns, 3, rfl, by decide, by decide, r3, fun H4 v v0 v1 k4 r4 => ?_⟩
      have e4 := k4 _ _ e3 (by simp; exact npr)
      have ef4 := k4 _ _ (k3 _ _ ef (by simp)) (by simp; exact nfr)
      have k14 : Kp [ro] H H4 := k2.trans (k3.nil.trans k4)
      have xf4 : ∀ (j : Nat) y, fs[j]? = some y → SideOk H4 y := fun j y e => ((xf j y e).kp k3 .nil).kp k4 r3.mu
      refine ⟨_, _, rfl, rfl, _, rfl, by omega, by omega, for_it walk_range (fun i σ H' => ∃ o2 o4 : Option V, σ = [some (.ref ro), some (.ref fa), o2, some (.ref pa), o4] ∧ Kp [ro] H H' ∧ RowAt K H' ro sa ns ∧ H' fa = some (.lst fs) ∧ (∀ (j : Nat) y, fs[j]? = some y → SideOk H' y) ∧ ∃ ps, H' pa = some (.lst ps) ∧ ps.length = i ∧ ∀ (j : Nat) y, ps[j]? = some y → PrB H' y)
        ⟨_, _, rfl, k14, r4, ef4, xf4, [], e4, rfl, fun j y e => by simp at e⟩ (fun _ _ _ _ _ => trivial) ?_ ?_⟩
      · rintro j x σ H5 H6 hj ⟨p2, p4, rfl, k5, r5, ef5, xf5, ps, ep5, lp5, xp5⟩ ⟨rfl, rfl⟩
        have hj2 : j < 3 := by
          have : j < (1 + v).toNat := hj
          omega
        -- part.append((pick(row, [..]), pick(row, [..])))
        refine ⟨_, rfl, .inl ⟨rfl, _, SqL.of ep5⟩, _, rfl, _, rfl, ro, sa, ns, 100, rfl, by decide, by decide, r5, fun H7 u u0 u1 k7 r7 => ⟨_, _, rfl, rfl, by show 4 ≤ sizeLine; decide, fun l hl => ?_⟩⟩
        have nlr : l ≠ ro := by
          obtain ⟨_, _, _, e, _⟩ := id r7
          exact (ne_of_none e hl).symm
        have k8 : Kp [] H7 (upd H7 l (.lst [.int 1, .int 10, .int 50, .int (1 + u)])) := .new hl
        have e8 : upd H7 l (.lst [.int 1, .int 10, .int 50, .int (1 + u)]) l = some (.lst [.int 1, .int 10, .int 50, .int (1 + u)]) := upd_same
        have r8 := r7.kp0 k8
        refine ⟨ro, sa, l, ns, _, rfl, e8, nlr, by simp, by simp, r8, fun H9 v9 m9 k9 r9 => ?_⟩
        obtain ⟨a, rfl, a1, a2⟩ : ∃ a : Int, v9 = .int a ∧ 1 ≤ a ∧ a ≤ 100 := by
          simp only [List.mem_cons, List.mem_nil_iff, or_false] at m9
          rcases m9 with e | e | e | e
          · exact ⟨_, e, by decide, by decide⟩
          · exact ⟨_, e, by decide, by decide⟩
          · exact ⟨_, e, by decide, by decide⟩
          · exact ⟨_, e, by omega, by omega⟩
        refine ⟨_, rfl, _, rfl, ro, sa, ns, 300, rfl, by decide, by decide, r9, fun H10 t t0 t1 k10 r10 => ⟨by show 5 ≤ sizeLine; decide, fun l2 hl2 => ?_⟩⟩
        have nlr2 : l2 ≠ ro := by
          obtain ⟨_, _, _, e, _⟩ := id r10
          exact (ne_of_none e hl2).symm
        have k11 : Kp [] H10 (upd H10 l2 (.lst [.int 0, .int 10, .int 100, .int 20, .int t])) := .new hl2
        have e11 : upd H10 l2 (.lst [.int 0, .int 10, .int 100, .int 20, .int t]) l2 = some (.lst [.int 0, .int 10, .int 100, .int 20, .int t]) := upd_same
        have r11 := r10.kp0 k11
        refine ⟨ro, sa, l2, ns, _, rfl, e11, nlr2, by simp, by simp, r11, fun H12 v12 m12 k12 r12 => ?_⟩
        obtain ⟨b, rfl, b1, b2⟩ : ∃ b : Int, v12 = .int b ∧ 0 ≤ b ∧ b ≤ 299 := by
          simp only [List.mem_cons, List.mem_nil_iff, or_false] at m12
          rcases m12 with e | e | e | e | e
          · exact ⟨_, e, by decide, by decide⟩
          · exact ⟨_, e, by decide, by decide⟩
          · exact ⟨_, e, by decide, by decide⟩
          · exact ⟨_, e, by decide, by decide⟩
          · exact ⟨_, e, by omega, by omega⟩
        have kall : Kp [ro] H6 H12 := k7.trans (k8.nil.trans (k9.trans (k10.trans (k11.nil.trans k12))))
        have ep12 := kall _ _ ep5 (by simp; exact npr)
        refine ⟨by show 2 ≤ sizeLine; decide, fun tp htp => ⟨pa, ps, _, rfl, rfl, (Kp.new (M := []) htp) _ _ ep12 (by simp), small1000 (by omega), ?_⟩⟩
        have k13 : Kp [] H12 (upd H12 tp (.tup [.int a, .int b])) := .new htp
        have e13 : upd H12 tp (.tup [.int a, .int b]) tp = some (.tup [.int a, .int b]) := upd_same
        generalize upd H12 tp (.tup [.int a, .int b]) = H13 at k13 e13 ⊢
        have ep13 := k13 _ _ ep12 (by simp)
        have k513 : Kp [ro] H6 H13 := kall.trans k13.nil
        have kw : Kp [pa] H13 (upd H13 pa (.lst (ps ++ [.ref tp]))) := .wr (by simp)
        have mw : Mu [pa] H13 := .one ep13 trivial
        have rw13 : RowAt K (upd H13 pa (.lst (ps ++ [.ref tp]))) ro sa ns := row_new hR pa0 (r12.kp0 k13) npr kw
        refine ⟨_, _, rfl, (k5.trans k513).wr0 pa0, rw13, kw _ _ (k513 _ _ ef5 (by simp; exact nfr)) (by simp; exact npf.symm), fun j y e => ((xf5 j y e).kp k513 r5.mu).kp kw mw, _, upd_same, by rw [List.length_append, lp5]; rfl, ?_⟩
        exact all_snoc (fun j y e => ((xp5 j y e).kp k513 r5.mu).kp kw mw) ⟨a, b, ⟨tp, rfl, kw _ _ e13 (by simp; exact ne_of e13 ep13 (by simp))⟩, ⟨a1, a2⟩, b1, b2⟩
      · rintro σ H5 ⟨p2, p4, rfl, k5, r5, ef5, xf5, ps, ep5, lp5, xp5⟩
        -- found.append(tuple(part))
        refine ⟨_, rfl, .inl ⟨rfl, _, SqL.of ef5⟩, _, rfl, pa, ps, rfl, ep5, fun sd hsd => ⟨fa, fs, _, rfl, rfl, (Kp.new (M := []) hsd) _ _ ef5 (by simp), small1000 (by omega), ?_⟩⟩
        have k6 : Kp [] H5 (upd H5 sd (.tup ps)) := .new hsd
        have e6 : upd H5 sd (.tup ps) sd = some (.tup ps) := upd_same
        generalize upd H5 sd (.tup ps) = H6 at k6 e6 ⊢
        have ef6 := k6 _ _ ef5 (by simp)
        have kw : Kp [fa] H6 (upd H6 fa (.lst (fs ++ [.ref sd]))) := .wr (by simp)
        have mw : Mu [fa] H6 := .one ef6 trivial
        refine ⟨_, _, _, rfl, (k5.trans k6.nil).wr0 hfa, row_new hR hfa (r5.kp0 k6) nfr kw, _, upd_same, by rw [List.length_append, lf]; rfl, ?_⟩
        have hv : ps.length = (1 + v).toNat := lp5
        exact all_snoc (fun j y e => ((xf5 j y e).kp k6 .nil).kp kw mw) ⟨sd, ps, rfl, kw _ _ e6 (by simp; exact ne_of e6 ef6 (by simp)), by omega, by omega, fun j y e => ((xp5 j y e).kp k6 .nil).kp kw mw⟩
    · rintro σ H1 ⟨o2, o3, o4, rfl, k2, r2, fs, ef, lf, xf⟩
      refine ⟨_, rfl, fa, fs, rfl, ef, fun wa hwa => ?_⟩
      have k3 : Kp [] H1 (upd H1 wa (.tup fs)) := .new hwa
      have e3 : upd H1 wa (.tup fs) wa = some (.tup fs) := upd_same
      generalize upd H1 wa (.tup fs) = H2 at k3 e3 ⊢
      obtain ⟨u, v, rfl⟩ := list2 (show fs.length = 2 from lf)
      obtain ⟨x0, n0, f0, d0, h0, s0, a0, b0, c0⟩ := side_fn ((xf 0 u rfl).kp k3 .nil)
      obtain ⟨x1, n1, f1, d1, h1, s1, a1, b1, c1⟩ := side_fn ((xf 1 v rfl).kp k3 .nil)
      rw [h0, h1] at e3
      exact q H2 wa ⟨n0, n1, f0, d0, f1, d1⟩ (k2.trans k3.nil) (r2.kp0 k3) ⟨x0, x1, e3, s0, s1⟩ ⟨a0, b0, a1, b1, fun i hi => (c0 i hi).1, fun i hi => (c0 i hi).2, fun i hi => (c1 i hi).1, fun i hi => (c1 i hi).2⟩
end
end Wk

/-! ## WDual -/
set_option Elab.async false
set_option linter.all false
set_option maxRecDepth 100000
set_option maxHeartbeats 4000000
namespace Wk
open PySem L2 Wt
theorem gt_no {p q : Rat} (h : p ≤ q) : ¬ p.num * ((q.den : Nat) : Int) > q.num * ((p.den : Nat) : Int) := fun z => by
  have : q < p := (Rat.lt_iff q p).mpr z
  exact absurd h (Rat.not_le.mpr this)
theorem gt_noI {p : Rat} {z : Int} (h : p ≤ (z : Rat)) : ¬ p.num > z * ((p.den : Nat) : Int) := fun y => by
  have g := gt_no h
  rw [Rat.num_intCast, Rat.den_intCast] at g
  omega
/-- what a plan takes of fresh water is at least what a paper says -/
theorem weak {a : Wa} {x1 y1 x2 y2 : Nat → Rat} (o : a.Ok) (f1 : Fin a x1 y1) (f2 : Fin a x2 y2) : S a.w (fun j => x1 (a.F + j)) ≤ S a.w (fun j => x2 (a.F + j)) := by
  rw [← f1.same]
  -- fk j = Σ_i x2 ij + x2 Fj
  have h1 : ∀ j, j < a.w → (a.fk j : Rat) * (- y1 j) + ((0 - a.fk j * a.dk j : Int) : Rat) * y1 (a.w + j) ≤ S a.p (fun i => y1 (a.w + a.w + i) * x2 (i * a.w + j)) + x2 (a.F + j) := fun j hj => by
    have s := f2.sink j hj
    have d := f2.dirt j hj
    have bn := f1.bnn j hj
    have o1 := f1.one j hj
    have nnF := f2.nn (a.F + j)
    -- Σ_i x2 ij * (-y j) ≤ Σ_i x2 ij * (di β + γ)
    have e1 : S a.p (fun i => x2 (i * a.w + j)) * (- y1 j) ≤ S a.p (fun i => (a.di i : Rat) * x2 (i * a.w + j)) * y1 (a.w + j) + S a.p (fun i => y1 (a.w + a.w + i) * x2 (i * a.w + j)) := by
      rw [← S_mulr, ← S_mulr, ← S_add]
      refine S_le fun i hi => ?_
      have du := f1.dual i j hi hj
      have nx := f2.nn (i * a.w + j)
      have := Rat.mul_le_mul_of_nonneg_left du nx
      grind
    have e2 : x2 (a.F + j) * (- y1 j) ≤ x2 (a.F + j) := by
      have := Rat.mul_le_mul_of_nonneg_left o1 nnF
      grind
    have e3 : S a.p (fun i => (a.di i : Rat) * x2 (i * a.w + j)) * y1 (a.w + j) ≤ ((a.fk j * a.dk j : Int) : Rat) * y1 (a.w + j) := Rat.mul_le_mul_of_nonneg_right d bn
    have e4 : ((0 - a.fk j * a.dk j : Int) : Rat) = - ((a.fk j * a.dk j : Int) : Rat) := by rw [Int.zero_sub, Rat.intCast_neg]
    rw [← s, e4]
    generalize ((a.fk j * a.dk j : Int) : Rat) = D at *
    grind
  have h2 := S_le (n := a.w) (f := fun j => (a.fk j : Rat) * (- y1 j) + ((0 - a.fk j * a.dk j : Int) : Rat) * y1 (a.w + j)) (g := fun j => S a.p (fun i => y1 (a.w + a.w + i) * x2 (i * a.w + j)) + x2 (a.F + j)) h1
  rw [S_add (fun j => S a.p (fun i => y1 (a.w + a.w + i) * x2 (i * a.w + j))) (fun j => x2 (a.F + j)) a.w] at h2
  have h3 : S a.w (fun j => S a.p (fun i => y1 (a.w + a.w + i) * x2 (i * a.w + j))) + S a.p (fun i => ((0 - a.fl i : Int) : Rat) * y1 (a.w + a.w + i)) ≤ 0 := by
    rw [S_swap, ← S_add]
    have : S a.p (fun i => S a.w (fun j => y1 (a.w + a.w + i) * x2 (i * a.w + j)) + ((0 - a.fl i : Int) : Rat) * y1 (a.w + a.w + i)) ≤ S a.p (fun _ => 0) := S_le fun i hi => by
      rw [S_mul, Int.zero_sub, Rat.intCast_neg]
      have c := f1.cnn i hi
      have := Rat.mul_le_mul_of_nonneg_left (f2.src i hi) c
      grind
    rw [S_zero (fun _ _ => rfl)] at this
    exact this
  clear h1
  revert h2 h3
  generalize S a.w (fun j => x2 (a.F + j)) = u1
  generalize S a.w (fun j => S a.p (fun i => y1 (a.w + a.w + i) * x2 (i * a.w + j))) = u2
  generalize S a.p (fun i => ((0 - a.fl i : Int) : Rat) * y1 (a.w + a.w + i)) = u3
  generalize S a.w (fun j => (a.fk j : Rat) * (- y1 j) + ((0 - a.fk j * a.dk j : Int) : Rat) * y1 (a.w + j)) = u4
  intro h2 h3
  grind
theorem same {a : Wa} {x1 y1 x2 y2 : Nat → Rat} (o : a.Ok) (f1 : Fin a x1 y1) (f2 : Fin a x2 y2) : S a.w (fun j => x1 (a.F + j)) = S a.w (fun j => x2 (a.F + j)) := Rat.le_antisymm (weak o f1 f2) (weak o f2 f1)
end Wk

/-! ## WLaw5 -/
set_option Elab.async false
set_option linter.all false
set_option maxRecDepth 100000
set_option maxHeartbeats 4000000
namespace Wk
open PySem L2 Wt
def spLFresh : Sp := fun vs H Q _ => ∃ wa v a x y, vs = [.ref wa, v] ∧ WaAt H wa a ∧ a.Ok ∧ PlanAt H v a x ∧ Fin a x y ∧ (∀ k, Sz 160 (x k)) ∧ ∀ H' u, Kp [] H H' → RatAt H' u (S a.w (fun j => x (a.F + j))) → Q u H'
theorem PlanAt.kp0 {H H' : Hp} {v : V} {a : Wa} {x : Nat → Rat} (h : PlanAt H v a x) (k : Kp [] H H') : PlanAt H' v a x :=
  let ⟨t, tt, fr, ls, e1, e2, e3, e4, e5, e6⟩ := h
  ⟨t, tt, fr, ls, e1, k _ _ e2 (by simp), k _ _ e3 (by simp), e4, fun i y q => let ⟨l, r1, r2⟩ := e5 i y q; ⟨l, r1, r2.kp0 k⟩, e6.kp0 k⟩
theorem PaperAt.kp0 {H H' : Hp} {v : V} {a : Wa} {y : Nat → Rat} (h : PaperAt H v a y) (k : Kp [] H H') : PaperAt H' v a y :=
  let ⟨t, f, b, c, e1, e2, e3, e4, e5⟩ := h
  ⟨t, f, b, c, e1, k _ _ e2 (by simp), e3.kp0 k, e4.kp0 k, e5.kp0 k⟩
theorem Side.at {H : Hp} {x : Addr} {n i : Nat} {f d : Nat → Int} (h : Side H x n f d) (hi : i < n) : ∃ vs p, H x = some (.tup vs) ∧ atI vs (i : Int) = some (.ref p) ∧ H p = some (.tup [.int (f i), .int (d i)]) := by
  obtain ⟨vs, e, l, r⟩ := h
  have q : vs[i]? = some vs[i] := List.getElem?_eq_getElem (by omega)
  obtain ⟨p, ep, hp⟩ := r i _ q
  exact ⟨vs, p, e, by rw [atI_nat q, ep], hp⟩
theorem sz_int {z : Int} (h : z.natAbs < 2 ^ 16) : Sz 16 (z : Rat) := by
  refine ⟨?_, ?_⟩
  · rw [Rat.num_intCast]
    exact h
  · rw [Rat.den_intCast]
    decide
section
variable {P : Program} {w : World} {K : PySem.W.Frag} {mg : Str → Option Value} {base : Heap} {f C : Addr} {fd : FuncData} {Pt : Addr}
abbrev NLFresh : List Str := ["_law_water_here", "_law_value", "_law_sources", "_law_sinks", "_law_line", "_law_j", "_law_flow", "_law_most", "_law_dirt", "_law_i", "_law_used"]
theorem scLFresh : FnScope NLFresh ["_law_water_here", "_law_value"] (defScope dLFresh) := ⟨rfl, rfl, rfl, by decide +kernel, rfl, by decide +kernel, by decide +kernel⟩
theorem ok_lfresh (F : Fun K "_law_fresh" "_law_fresh" dLFresh f fd) (T : Tx K mg) (h_law_are_ratios : Has P w K mg base 2 "_law_are_ratios" ["_law_value", "_law_many", "_law_is_signed"] spAre) (h_law_sum : Has P w K mg base 3 "_law_sum" ["_law_some"] spTotal)
    (h_law_by : Has P w K mg base 2 "_law_by" ["_law_one", "_law_other"] (spTwo (fun _ _ => True) (· * ·))) : FnOk P w K mg base CX0 4 f fd ["_law_water_here", "_law_value"] spLFresh := by
  refine F.ok scLFresh (fun vs H Q E h => ?_) (fun cdv A' outer s H vs Q E hr h => ?_)
  · obtain ⟨wa, v, a, x, y, rfl, _⟩ := h
    rfl
  · obtain ⟨wa, v, a, x, y, rfl, hw, ok, ⟨t, tt, fr, ls, rfl, et, ett, lls, xls, rfr⟩, fin, zx, q⟩ := h
    have h_law_are_ratios := h_law_are_ratios.mono (show 2 ≤ 3 by decide)
    have h_law_by := h_law_by.mono (show 2 ≤ 3 by decide)
    refine ⟨_, (pss_cons (ps_asg (pv 0) (pg_tupS (pgs_cons (pg_name (i := 2) scLFresh.nd rfl (Or.inr rfl)) (pgs_cons (pg_name (i := 3) scLFresh.nd rfl (Or.inl rfl)) pgs_nil))))
      (pss_cons (ps_if (PW.pt (pw_or (pt_not (pt_val (pe_callB call_isiS (by rfl) T.isinstance (by decide +kernel) (pa_cons (pv 1) (pa_cons (pe_bltn (v := .ty "tuple") (by rfl) T.tuple (by decide +kernel) rfl) pa_nil))))) (pw_or (pt_cmpR op_ne (pe_callB call_lenT (by rfl) T.len PySem.boot_len (pa_cons (pv 1) pa_nil)) pe_int (nomark _)) (pw_or (pt_not (pt_val (pe_callB call_isiS (by rfl) T.isinstance (by decide +kernel) (pa_cons (pe_ix ix_tupS (pv 1) pe_int (by intro _ _; rfl)) (pa_cons (pe_bltn (v := .ty "tuple") (by rfl) T.tuple (by decide +kernel) rfl) pa_nil))))) (pw_or1 (pt_cmpR op_ne (pe_callB call_lenT (by rfl) T.len PySem.boot_len (pa_cons (pe_ix ix_tupS (pv 1) pe_int (by intro _ _; rfl)) pa_nil)) (pe_callB call_lenT (by rfl) T.len PySem.boot_len (pa_cons (pv 2) pa_nil)) (nomark _)))))))
        (pss_one (ps_ret pe_non))
        pss_nil)
      (pss_cons (ps_for PassesOwn.never rfl (pi_tupS (pe_op op_catA (pe_ix ix_tupS (pv 1) pe_int (by intro _ _; rfl)) (pe_tup (pa_cons (pe_ix ix_tupS (pv 1) pe_int (by intro _ _; rfl)) pa_nil)))) (pg_name (i := 4) scLFresh.nd rfl (Or.inl rfl))
        (pss_one (ps_if (pt_not (pt_val (pe_callH h_law_are_ratios hr (by rfl) (pa_cons (pv 4) (pa_cons (pe_callB call_lenT (by rfl) T.len PySem.boot_len (pa_cons (pv 3) pa_nil)) (pa_cons pe_bl pa_nil))))))
          (pss_one (ps_ret pe_non))
          pss_nil)))
      (pss_cons (ps_for PassesOwn.never rfl (pi_range1 (by rfl) T.range (pa_cons (pe_callB call_lenT (by rfl) T.len PySem.boot_len (pa_cons (pv 3) pa_nil)) pa_nil)) (pg_name (i := 5) scLFresh.nd rfl (Or.inr rfl))
        (pss_cons (ps_asg (pe_ix ix_tupS (pv 3) (pv 5) (by intro _ _; rfl)) (pg_tupS (pgs_cons (pg_name (i := 6) scLFresh.nd rfl (Or.inl rfl)) (pgs_cons (pg_name (i := 7) scLFresh.nd rfl (Or.inl rfl)) pgs_nil))))
        (pss_cons (ps_if (pt_cmpR (op_neQ hr.units) (pe_callH h_law_sum hr (by rfl) (pa_cons (pe_op op_cat (pe_lst (pa_cons (pe_ix ix_tupS (pe_ix ix_tupS (pv 1) pe_int (by intro _ _; rfl)) (pv 5) (by intro _ _; rfl)) pa_nil)) (pe_lc (own := [("_law_line", 4)]) (g := gName 4) (tt := tYes) rfl scLFresh.nd (pi_tupS (pe_ix ix_tupS (pv 1) pe_int (by intro _ _; rfl))) (blkOk_by (own := [("_law_line", 4)]) (N := NLFresh) (sc := defScope dLFresh) (by decide +kernel)) (fun _ _ _ _ _ => (pg_name (i := 4) scLFresh.nd rfl (Or.inl rfl))) (fun _ _ _ _ _ => by exact pts_nil) (fun _ _ _ _ _ => by exact (pe_ix ix_tupS (pv 4) (pv 5) (by intro _ _; rfl))))) pa_nil)) (pe_tup (pa_cons (pv 6) (pa_cons pe_int pa_nil))) (nomark _))
          (pss_one (ps_ret pe_non))
          pss_nil)
        (pss_cons (ps_set (i := 8) scLFresh.nd rfl (Or.inl rfl) (pe_callH h_law_sum hr (by rfl) (pa_cons (pe_lc (own := [("_law_i", 9)]) (g := gName 9) (tt := tYes) rfl scLFresh.nd (pi_range1 (by rfl) T.range (pa_cons (pe_callB call_lenT (by rfl) T.len PySem.boot_len (pa_cons (pv 2) pa_nil)) pa_nil)) (blkOk_by (own := [("_law_i", 9)]) (N := NLFresh) (sc := defScope dLFresh) (by decide +kernel)) (fun _ _ _ _ _ => (pg_name (i := 9) scLFresh.nd rfl (Or.inl rfl))) (fun _ _ _ _ _ => by exact pts_nil) (fun _ _ _ _ _ => by exact (pe_callH h_law_by hr (by rfl) (pa_cons (pe_tup (pa_cons (pe_ix ix_tupS (pe_ix ix_tupS (pv 2) (pv 9) (by intro _ _; rfl)) pe_int (by intro _ _; rfl)) (pa_cons pe_int pa_nil))) (pa_cons (pe_ix ix_tupS (pe_ix ix_tupS (pe_ix ix_tupS (pv 1) pe_int (by intro _ _; rfl)) (pv 9) (by intro _ _; rfl)) (pv 5) (by intro _ _; rfl)) pa_nil))))) pa_nil)))
        (pss_one (ps_if (pt_cmpR op_gt (pe_ix ix_tupS (pv 8) pe_int (by intro _ _; rfl)) (pe_op op_mul (pe_op op_mul (pv 6) (pv 7)) (pe_ix ix_tupS (pv 8) pe_int (by intro _ _; rfl))) (nomark _))
          (pss_one (ps_ret pe_non))
          pss_nil))))))
      (pss_cons (ps_for PassesOwn.never rfl (pi_range1 (by rfl) T.range (pa_cons (pe_callB call_lenT (by rfl) T.len PySem.boot_len (pa_cons (pv 2) pa_nil)) pa_nil)) (pg_name (i := 9) scLFresh.nd rfl (Or.inl rfl))
        (pss_cons (ps_set (i := 10) scLFresh.nd rfl (Or.inl rfl) (pe_callH h_law_sum hr (by rfl) (pa_cons (pe_callTy call_listT (by rfl) T.list (by decide +kernel) (pa_cons (pe_ix ix_tupS (pe_ix ix_tupS (pv 1) pe_int (by intro _ _; rfl)) (pv 9) (by intro _ _; rfl)) pa_nil)) pa_nil)))
        (pss_one (ps_if (pt_cmpR op_gt (pe_ix ix_tupS (pv 10) pe_int (by intro _ _; rfl)) (pe_op op_mul (pe_ix ix_tupS (pe_ix ix_tupS (pv 2) (pv 9) (by intro _ _; rfl)) pe_int (by intro _ _; rfl)) (pe_ix ix_tupS (pv 10) pe_int (by intro _ _; rfl))) (nomark _))
          (pss_one (ps_ret pe_non))
          pss_nil))))
      (pss_one (ps_ret (pe_callH h_law_sum hr (by rfl) (pa_cons (pe_callTy call_listT (by rfl) T.list (by decide +kernel) (pa_cons (pe_ix ix_tupS (pv 1) pe_int (by intro _ _; rfl)) pa_nil)) pa_nil))))))))), ?_⟩
    obtain ⟨so, si, ew, sO, sI⟩ := id hw
    obtain ⟨vo, eo, lo, xo⟩ := id sO
    obtain ⟨vi, ei, li, xi⟩ := id sI
    obtain ⟨fs, ef, lf, xf⟩ := id rfr
    have p3 := ok.p3
    have w3 := ok.w3
    have w0 := ok.w0
    refine ⟨_, rfl, wa, _, rfl, ew, rfl, _, _, rfl, _, _, rfl, rfl, ?_⟩
    refine ⟨_, rfl, _, _, _, true, rfl, .inl ⟨rfl, _, et⟩, by decide +kernel, true, rfl, iteF ?_⟩
    refine ⟨_, rfl, t, _, rfl, et, rfl, _, rfl, iteB (c := false) (by simp) (iteF ?_)⟩
    refine ⟨_, rfl, t, _, _, .ref tt, rfl, rfl, et, rfl, _, _, _, true, rfl, .inl ⟨rfl, _, ett⟩, by decide +kernel, true, rfl, iteF ?_⟩
    refine ⟨_, rfl, t, _, _, .ref tt, rfl, rfl, et, rfl, tt, ls, rfl, ett, _, rfl, so, vo, rfl, eo, rfl, _, rfl, iteB (c := false) (by rw [lls, lo]; simp) (iteF ?_)⟩
    -- for line in value[0] + (value[1],)
    have nls : ls ≠ [] := fun z => by
      rw [z] at lls
      have := ok.p0
      simp at lls
      omega
    refine ⟨_, rfl, t, _, _, .ref tt, rfl, rfl, et, rfl, _, rfl, t, _, _, .ref fr, rfl, rfl, et, rfl, by show 1 ≤ sizeLine; decide, fun q1 hq1 => ?_⟩
    have k1 : Kp [] H (upd H q1 (.tup [.ref fr])) := .new hq1
    have e1 : upd H q1 (.tup [.ref fr]) q1 = some (.tup [.ref fr]) := upd_same
    generalize upd H q1 (.tup [.ref fr]) = H1 at k1 e1 ⊢
    refine ⟨tt, q1, ls, [.ref fr], rfl, rfl, SqT.of (k1 _ _ ett (by simp)), SqT.of e1, by rw [lls]; exact Nat.le_of_lt (small1000 (by simp; omega)), fun z => absurd z nls, fun _ z => by simp at z, fun _ _ q2 hq2 => ?_⟩
    have k2 : Kp [] H (upd H1 q2 (.tup (ls ++ [.ref fr]))) := k1.trans (.new hq2)
    have e2 : upd H1 q2 (.tup (ls ++ [.ref fr])) q2 = some (.tup (ls ++ [.ref fr])) := upd_same
    generalize upd H1 q2 (.tup (ls ++ [.ref fr])) = H2 at k2 e2 ⊢
    have hlines : ∀ (i : Nat) z, (ls ++ [.ref fr])[i]? = some z → ∃ l g, z = .ref l ∧ RT H l a.w g ∧ (∀ j, Sz 160 (g j)) ∧ ∀ j, 0 ≤ g j := fun i z hz => by
      rcases List.mem_append.mp (List.mem_of_getElem? hz) with h | h
      · obtain ⟨j, hj⟩ := List.mem_iff_getElem?.mp h
        obtain ⟨l, e, r⟩ := xls j z hj
        exact ⟨l, _, e, r, fun _ => zx _, fun _ => fin.nn _⟩
      · exact ⟨fr, _, List.mem_singleton.mp h, rfr, fun _ => zx _, fun _ => fin.nn _⟩
    refine ⟨q2, rfl, ⟨_, e2⟩, for_it (walk_tup (K := K) (a := q2) (xs := ls ++ [.ref fr])) (fun i σ H' => ∃ o4 : Option V, σ = [some (.ref wa), some (.ref t), some (.ref so), some (.ref si), o4, none, none, none, none, none, none] ∧ Kp [] H H' ∧ Kp [] H2 H') ⟨none, rfl, k2, .refl⟩ (fun i σ H' _ ⟨_, _, _, k⟩ => SqT.of (k _ _ e2 (by simp))) ?_ ?_⟩
    · rintro i z σ H3 H4 hi ⟨o4, rfl, k3, k4⟩ ⟨rfl, hz⟩
      obtain ⟨l, g, rfl, rl, sg, ng⟩ := hlines i z hz
      refine ⟨_, rfl, _, rfl, si, vi, rfl, k3 _ _ ei (by simp), l, a.w, false, g, by rw [li]; rfl, rl.kp0 k3, fun j _ => (sg j).mono (by decide), fun _ j _ => ng j, fun H5 k5 => ⟨true, rfl, iteF ⟨_, rfl, k3.trans k5, k4.trans k5⟩⟩⟩
    · rintro σ H3 ⟨o4, rfl, k3, _⟩
      -- for j in range(len(sinks))
      refine ⟨_, rfl, si, vi, rfl, k3 _ _ ei (by simp), _, rfl, by omega, by omega, for_it walk_range (fun i σ H' => ∃ o4 o5 o6 o7 o8 : Option V, σ = [some (.ref wa), some (.ref t), some (.ref so), some (.ref si), o4, o5, o6, o7, o8, none, none] ∧ Kp [] H H') ⟨_, _, _, _, _, rfl, k3⟩ (fun _ _ _ _ _ => trivial) ?_ ?_⟩
      · rintro j z σ H4 H5 hj ⟨o4, o5, o6, o7, o8, rfl, k4⟩ ⟨rfl, rfl⟩
        have hj2 : j < a.w := by
          have : j < ((vi.length : Nat) : Int).toNat := hj
          omega
        obtain ⟨vi', p, ei', ai, ep⟩ := sI.at hj2
        rw [ei] at ei'
        cases ei'
        have z0 : ∀ n : Nat, (0 : Int) + ((n : Nat) : Int) = ((n : Nat) : Int) := fun n => Int.zero_add _
        refine ⟨_, rfl, _, rfl, si, vi, _, .ref p, rfl, rfl, k4 _ _ ei (by simp), by rw [z0]; exact ai, p, _, rfl, k4 _ _ ep (by simp), rfl, _, _, rfl, _, _, rfl, rfl, ?_⟩
        -- the sum at the sink
        obtain ⟨fs', xj, ef', aj, rj⟩ := rfr.at hj2
        rw [ef] at ef'
        cases ef'
        refine ⟨_, rfl, t, _, _, .ref fr, rfl, rfl, k4 _ _ et (by simp), rfl, _, rfl, fr, fs, _, xj, rfl, rfl, k4 _ _ ef (by simp), by rw [z0]; exact aj, by show 1 ≤ sizeLine; decide, fun l hl => ?_⟩
        have k5 : Kp [] H5 (upd H5 l (.lst [xj])) := .new hl
        have e5 : upd H5 l (.lst [xj]) l = some (.lst [xj]) := upd_same
        generalize upd H5 l (.lst [xj]) = H6 at k5 e5 ⊢
        have k6 := k4.trans k5
        have ett6 := k6 _ _ ett (by simp)
        refine ⟨_, rfl, t, _, _, .ref tt, rfl, rfl, k6 _ _ et (by simp), rfl, tt, rfl, ⟨_, ett6⟩, fun D hD => lc_made (walk_tup (K := K) (a := tt) (xs := ls)) (fun i H v => RatAt H v (x (i * a.w + j))) (ratAt_E fun i => x (i * a.w + j)) hD (by rw [lls]; exact small1000 (by omega)) (fun H k => SqT.of (k _ _ ett6 (by simp))) ?_ (fun _ _ _ _ => gName_mono) ?_⟩
        · rintro i z H7 H8 R hi k7 ⟨rfl, hz⟩ hR
          obtain ⟨l1, rfl, r1⟩ := xls i z hz
          obtain ⟨lv, lx, elv, alv, rlv⟩ := (r1.kp0 (k6.trans k7)).at hj2
          exact ⟨rfl, _, rfl, _, rfl, l1, lv, _, lx, rfl, rfl, elv, by rw [z0]; exact alv, hR _ _ .refl rlv⟩
        · intro H7 acc k7 hA hl7 hx7
          refine ⟨l, D, [xj], acc, rfl, rfl, k7 _ _ e5 (by simp), hA, by rw [hl7, lls]; exact Nat.le_of_lt (small1000 (by simp; omega)), fun l2 hl2 => ?_⟩
          have k8 : Kp [] H7 (upd H7 l2 (.lst ([xj] ++ acc))) := .new hl2
          have e8 : upd H7 l2 (.lst ([xj] ++ acc)) l2 = some (.lst ([xj] ++ acc)) := upd_same
          generalize upd H7 l2 (.lst ([xj] ++ acc)) = H8 at k8 e8 ⊢
          have k08 := k6.trans (k7.trans k8)
          have rA : RLs H8 [xj] 1 (fun _ => x (a.F + j)) := .one (rj.kp0 k08)
          have rB : RLs H8 acc a.p (fun i => x (i * a.w + j)) := ⟨by rw [hl7, lls], fun i z e => (hx7 i z e).kp0 k8⟩
          refine ⟨l2, 1 + a.p, 160, _, rfl, ⟨_, e8, rA.app rB⟩, fun i _ => by show Sz 160 (if i < 1 then x (a.F + j) else x ((i - 1) * a.w + j)); split <;> exact zx _, by decide, by omega, fun H9 v k9 r9 => ?_⟩
          have eS : S (1 + a.p) (fun i => if i < 1 then x (a.F + j) else x ((i - 1) * a.w + j)) = ((a.fk j : Int) : Rat) := by
            rw [← fin.sink j hj2, S_split]
            have h1 : S 1 (fun i => if i < 1 then x (a.F + j) else x ((i - 1) * a.w + j)) = x (a.F + j) := by
              show (0 : Rat) + (if 0 < 1 then x (a.F + j) else _) = _
              rw [if_pos (by decide), Rat.zero_add]
            have h2 : S a.p (fun k => (fun i => if i < 1 then x (a.F + j) else x ((i - 1) * a.w + j)) (1 + k)) = S a.p (fun i => x (i * a.w + j)) := S_congr fun k _ => by
              show (if 1 + k < 1 then _ else x ((1 + k - 1) * a.w + j)) = _
              rw [if_neg (by omega), Nat.add_sub_cancel_left]
            rw [h1, h2, Rat.add_comm]
          rw [eS] at r9
          refine ⟨_, rfl, by show 2 ≤ sizeLine; decide, fun tp htp => ?_⟩
          have k10 : Kp [] H9 (upd H9 tp (.tup [.int (a.fk j), .int 1])) := .new htp
          have e10 : upd H9 tp (.tup [.int (a.fk j), .int 1]) tp = some (.tup [.int (a.fk j), .int 1]) := upd_same
          generalize upd H9 tp (.tup [.int (a.fk j), .int 1]) = H10 at k10 e10 ⊢
          refine ⟨_, _, r9.kp0 k10, .int e10, _, rfl, iteB (c := false) (by rw [decide_eq_true rfl]; rfl) (iteF ?_)⟩
          have k010 := k08.trans (k9.trans k10)
          -- the dirt
          have eo10 := k010 _ _ eo (by simp)
          refine ⟨_, rfl, so, vo, rfl, eo10, _, rfl, by omega, by omega, fun D2 hD2 => lc_made walk_range (fun i H v => RatAt H v (((a.di i : Int) : Rat) * x (i * a.w + j))) (ratAt_E fun i => ((a.di i : Int) : Rat) * x (i * a.w + j)) hD2 (by simp; exact small1000 (by omega)) (fun _ _ => trivial) ?_ (fun _ _ _ _ => gName_mono) ?_⟩
          · rintro i z H11 H12 R hi k11 ⟨rfl, rfl⟩ hR
            have hi2 : i < a.p := by
              have : i < ((vo.length : Nat) : Int).toNat := hi
              omega
            obtain ⟨vo', po, eo', ao, epo⟩ := sO.at hi2
            rw [eo] at eo'
            cases eo'
            have k011 := k010.trans k11
            refine ⟨rfl, _, rfl, _, rfl, so, vo, _, .ref po, rfl, rfl, k011 _ _ eo (by simp), by rw [z0]; exact ao, po, _, _, _, rfl, rfl, k011 _ _ epo (by simp), rfl, by show 2 ≤ sizeLine; decide, fun tp2 htp2 => ?_⟩
            have k12 : Kp [] H12 (upd H12 tp2 (.tup [.int (a.di i), .int 1])) := .new htp2
            have e12 : upd H12 tp2 (.tup [.int (a.di i), .int 1]) tp2 = some (.tup [.int (a.di i), .int 1]) := upd_same
            generalize upd H12 tp2 (.tup [.int (a.di i), .int 1]) = H13 at k12 e12 ⊢
            have k013 := k011.trans k12
            obtain ⟨zl, hzl⟩ : ∃ zl, ls[i]? = some zl := ⟨_, List.getElem?_eq_getElem (by omega)⟩
            obtain ⟨l1, rfl, r1⟩ := xls i zl hzl
            obtain ⟨lv, lx, elv, alv, rlv⟩ := (r1.kp0 k013).at hj2
            have bd := ok.di0 i hi2
            refine ⟨_, rfl, t, _, _, .ref tt, rfl, rfl, k013 _ _ et (by simp), rfl, _, rfl, tt, ls, _, .ref l1, rfl, rfl, k013 _ _ ett (by simp), by rw [z0]; exact atI_nat hzl, _, rfl, l1, lv, _, lx, rfl, rfl, elv, by rw [z0]; exact alv, ?_⟩
            exact ⟨.ref tp2, lx, _, _, 16, 160, rfl, .int e12, rlv, sz_int (by omega), zx _, by decide, by decide, by decide, trivial, fun H14 v k14 r14 => hR _ _ (k12.trans k14) r14⟩
          · intro H11 ac11 k11 hA11 hl11 hx11
            have hp : ac11.length = a.p := by rw [hl11]; simp; exact lo
            have k011 := k010.trans k11
            refine ⟨D2, a.p, 176, _, rfl, ⟨_, hA11, hp, hx11⟩, fun i hi => sz_mul (sz_int (by have := ok.di0 i hi; omega)) (zx _), by decide, by omega, fun H12 v12 k12 r12 => ?_⟩
            obtain ⟨dp, rfl, edp⟩ := r12
            have gno := gt_noI (fin.dirt j hj2)
            have b1 := ok.fk0 j hj2
            have b2 := mul_100 (x := a.fk j) (y := a.dk j) (by omega) (by omega) (ok.dk0 j hj2).1 (ok.dk0 j hj2).2
            refine ⟨_, rfl, dp, _, 0, _, rfl, rfl, edp, rfl, _, rfl, _, rfl, _, _, rfl, rfl, cmul_small (by omega) (by omega), _, rfl, dp, _, 1, _, rfl, rfl, edp, rfl, _, _, rfl, rfl, cmul_small (by omega) (by omega), _, _, rfl, rfl, _, rfl, iteB (c := false) (decide_eq_false gno) (iteF ?_)⟩
            exact ⟨_, _, _, _, _, rfl, k011.trans k12⟩
      · rintro σ H4 ⟨o4, o5, o6, o7, o8, rfl, k4⟩
        -- for i in range(len(sources))
        refine ⟨_, rfl, so, vo, rfl, k4 _ _ eo (by simp), _, rfl, by omega, by omega, for_it walk_range (fun i σ H' => ∃ o4 o5 o6 o7 o8 o9 o10 : Option V, σ = [some (.ref wa), some (.ref t), some (.ref so), some (.ref si), o4, o5, o6, o7, o8, o9, o10] ∧ Kp [] H H') ⟨_, _, _, _, _, _, _, rfl, k4⟩ (fun _ _ _ _ _ => trivial) ?_ ?_⟩
        · rintro i z σ H5 H6 hi ⟨o4, o5, o6, o7, o8, o9, o10, rfl, k5⟩ ⟨rfl, rfl⟩
          have hi2 : i < a.p := by
            have : i < ((vo.length : Nat) : Int).toNat := hi
            omega
          have z0 : ∀ n : Nat, (0 : Int) + ((n : Nat) : Int) = ((n : Nat) : Int) := fun n => Int.zero_add _
          obtain ⟨vo', po, eo', ao, epo⟩ := sO.at hi2
          rw [eo] at eo'
          cases eo'
          obtain ⟨zl, hzl⟩ : ∃ zl, ls[i]? = some zl := ⟨_, List.getElem?_eq_getElem (by omega)⟩
          obtain ⟨l1, rfl, r1⟩ := xls i zl hzl
          obtain ⟨lv, elv, llv, xlv⟩ := r1.kp0 k5
          refine ⟨_, rfl, t, _, _, .ref tt, rfl, rfl, k5 _ _ et (by simp), rfl, _, rfl, tt, ls, _, .ref l1, rfl, rfl, k5 _ _ ett (by simp), by rw [z0]; exact atI_nat hzl, l1, lv, rfl, elv, fun l hl => ?_⟩
          have k6 : Kp [] H6 (upd H6 l (.lst lv)) := .new hl
          refine ⟨l, a.w, 160, _, rfl, ⟨lv, upd_same, llv, fun n z e => (xlv n z e).kp0 k6⟩, fun n _ => zx _, by decide, by omega, fun H7 v7 k7 r7 => ?_⟩
          obtain ⟨up, rfl, eup⟩ := r7
          have k07 := k5.trans (k6.trans k7)
          have gno := gt_noI (fin.src i hi2)
          have b1 := ok.fl0 i hi2
          refine ⟨_, rfl, up, _, 0, _, rfl, rfl, eup, rfl, _, rfl, _, rfl, so, vo, _, .ref po, rfl, rfl, k07 _ _ eo (by simp), by rw [z0]; exact ao, po, _, 0, _, rfl, rfl, k07 _ _ epo (by simp), rfl, _, rfl, up, _, 1, _, rfl, rfl, eup, rfl, _, _, rfl, rfl, cmul_small (by omega) (by omega), _, _, rfl, rfl, _, rfl, iteB (c := false) (decide_eq_false gno) (iteF ?_)⟩
          exact ⟨_, _, _, _, _, _, _, rfl, k07⟩
        · rintro σ H5 ⟨o4, o5, o6, o7, o8, o9, o10, rfl, k5⟩
          refine ⟨_, rfl, t, _, _, .ref fr, rfl, rfl, k5 _ _ et (by simp), rfl, fr, fs, rfl, k5 _ _ ef (by simp), fun l hl => ?_⟩
          have k6 : Kp [] H5 (upd H5 l (.lst fs)) := .new hl
          exact ⟨l, a.w, 160, fun j => x (a.F + j), rfl, ⟨fs, upd_same, lf, fun n z e => (xf n z e).kp0 (k5.trans k6)⟩, fun n _ => zx _, by decide, by omega, fun H7 v7 k7 r7 => q _ _ (k5.trans (k6.trans k7)) r7⟩
end
end Wk

/-! ## WLaw6 -/
set_option Elab.async false
set_option linter.all false
set_option maxRecDepth 100000
set_option maxHeartbeats 4000000
namespace Wk
open PySem L2 Wt
def spBound : Sp := fun vs H Q _ => ∃ wa v a x y, vs = [.ref wa, v] ∧ WaAt H wa a ∧ a.Ok ∧ PaperAt H v a y ∧ Fin a x y ∧ (∀ q, q < a.m → Sz 160 (y q)) ∧ ∀ H' u, Kp [] H H' → RatAt H' u (S a.w (fun j => x (a.F + j))) → Q u H'
theorem sz_neg {n : Nat} {q : Rat} (h : Sz n q) : Sz n (- q) := by
  refine ⟨?_, ?_⟩
  · rw [Rat.neg_num, Int.natAbs_neg]
    exact h.1
  · rw [Rat.neg_den]
    exact h.2
section
variable {P : Program} {w : World} {K : PySem.W.Frag} {mg : Str → Option Value} {base : Heap} {f C : Addr} {fd : FuncData} {Pt : Addr}
abbrev NBound : List Str := ["_law_water_here", "_law_value", "_law_sources", "_law_sinks", "_law_found", "_law_j", "_law_a", "_law_b", "_law_i", "_law_most"]
theorem scBound : FnScope NBound ["_law_water_here", "_law_value"] (defScope dBound) := ⟨rfl, rfl, rfl, by decide +kernel, rfl, by decide +kernel, by decide +kernel⟩
theorem ok_bound (F : Fun K "_law_bound" "_law_bound" dBound f fd) (T : Tx K mg) (h_law_are_ratios : Has P w K mg base 2 "_law_are_ratios" ["_law_value", "_law_many", "_law_is_signed"] spAre) (h_law_sum : Has P w K mg base 3 "_law_sum" ["_law_some"] spTotal)
    (h_law_plus : Has P w K mg base 2 "_law_plus" ["_law_one", "_law_other"] (spTwo (fun _ _ => True) (· + ·))) (h_law_by : Has P w K mg base 2 "_law_by" ["_law_one", "_law_other"] (spTwo (fun _ _ => True) (· * ·))) : FnOk P w K mg base CX0 4 f fd ["_law_water_here", "_law_value"] spBound := by
  refine F.ok scBound (fun vs H Q E h => ?_) (fun cdv A' outer s H vs Q E hr h => ?_)
  · obtain ⟨wa, v, a, x, y, rfl, _⟩ := h
    rfl
  · obtain ⟨wa, v, a, x, y, rfl, hw, ok, ⟨t, ff, bb, cc, rfl, et, rf, rb, rc⟩, fin, zy, q⟩ := h
    have h_law_are_ratios := h_law_are_ratios.mono (show 2 ≤ 3 by decide)
    have h_law_by := h_law_by.mono (show 2 ≤ 3 by decide)
    have h_law_plus := h_law_plus.mono (show 2 ≤ 3 by decide)
    refine ⟨_, (pss_cons (ps_asg (pv 0) (pg_tupS (pgs_cons (pg_name (i := 2) scBound.nd rfl (Or.inr rfl)) (pgs_cons (pg_name (i := 3) scBound.nd rfl (Or.inl rfl)) pgs_nil))))
      (pss_cons (ps_if (PW.pt (pw_or (pt_not (pt_val (pe_callB call_isiS (by rfl) T.isinstance (by decide +kernel) (pa_cons (pv 1) (pa_cons (pe_bltn (v := .ty "tuple") (by rfl) T.tuple (by decide +kernel) rfl) pa_nil))))) (pw_or (pt_cmpR op_ne (pe_callB call_lenT (by rfl) T.len PySem.boot_len (pa_cons (pv 1) pa_nil)) pe_int (nomark _)) (pw_or1 (pt_not (pt_val (pe_callH h_law_are_ratios hr (by rfl) (pa_cons (pe_ix ix_tupS (pv 1) pe_int (by intro _ _; rfl)) (pa_cons (pe_callB call_lenT (by rfl) T.len PySem.boot_len (pa_cons (pv 3) pa_nil)) (pa_cons pe_bl pa_nil))))))))))
        (pss_one (ps_ret pe_non))
        pss_nil)
      (pss_cons (ps_if (PW.pt (pw_or (pt_not (pt_val (pe_callH h_law_are_ratios hr (by rfl) (pa_cons (pe_ix ix_tupS (pv 1) pe_int (by intro _ _; rfl)) (pa_cons (pe_callB call_lenT (by rfl) T.len PySem.boot_len (pa_cons (pv 3) pa_nil)) (pa_cons pe_bl pa_nil)))))) (pw_or1 (pt_not (pt_val (pe_callH h_law_are_ratios hr (by rfl) (pa_cons (pe_ix ix_tupS (pv 1) pe_int (by intro _ _; rfl)) (pa_cons (pe_callB call_lenT (by rfl) T.len PySem.boot_len (pa_cons (pv 2) pa_nil)) (pa_cons pe_bl pa_nil)))))))))
        (pss_one (ps_ret pe_non))
        pss_nil)
      (pss_cons (ps_set (i := 4) scBound.nd rfl (Or.inl rfl) (pe_tup (pa_cons pe_int (pa_cons pe_int pa_nil))))
      (pss_cons (ps_for PassesOwn.never rfl (pi_range1 (by rfl) T.range (pa_cons (pe_callB call_lenT (by rfl) T.len PySem.boot_len (pa_cons (pv 3) pa_nil)) pa_nil)) (pg_name (i := 5) scBound.nd rfl (Or.inl rfl))
        (pss_cons (ps_par (i := 6) (j := 7) rfl scBound.nd rfl rfl (by decide) rfl rfl (pa_cons (pe_ix ix_tupS (pe_ix ix_tupS (pv 1) pe_int (by intro _ _; rfl)) (pv 5) (by intro _ _; rfl)) (pa_cons (pe_ix ix_tupS (pe_ix ix_tupS (pv 1) pe_int (by intro _ _; rfl)) (pv 5) (by intro _ _; rfl)) pa_nil)) (by rfl))
        (pss_cons (ps_if (pt_cmpR op_gt (pe_ix ix_tupS (pv 6) pe_int (by intro _ _; rfl)) (pe_ix ix_tupS (pv 6) pe_int (by intro _ _; rfl)) (nomark _))
          (pss_one (ps_ret pe_non))
          pss_nil)
        (pss_cons (ps_for PassesOwn.never rfl (pi_range1 (by rfl) T.range (pa_cons (pe_callB call_lenT (by rfl) T.len PySem.boot_len (pa_cons (pv 2) pa_nil)) pa_nil)) (pg_name (i := 8) scBound.nd rfl (Or.inl rfl))
          (pss_cons (ps_set (i := 9) scBound.nd rfl (Or.inl rfl) (pe_callH h_law_plus hr (by rfl) (pa_cons (pe_callH h_law_by hr (by rfl) (pa_cons (pe_tup (pa_cons (pe_ix ix_tupS (pe_ix ix_tupS (pv 2) (pv 8) (by intro _ _; rfl)) pe_int (by intro _ _; rfl)) (pa_cons pe_int pa_nil))) (pa_cons (pv 7) pa_nil))) (pa_cons (pe_ix ix_tupS (pe_ix ix_tupS (pv 1) pe_int (by intro _ _; rfl)) (pv 8) (by intro _ _; rfl)) pa_nil))))
          (pss_one (ps_if (pt_cmpR op_gt (pe_op op_mulW (pe_ix ix_tupS (pv 6) pe_int (by intro _ _; rfl)) (pe_ix ix_tupS (pv 9) pe_int (by intro _ _; rfl))) (pe_op op_mulW (pe_ix ix_tupS (pv 9) pe_int (by intro _ _; rfl)) (pe_ix ix_tupS (pv 6) pe_int (by intro _ _; rfl))) (nomark _))
            (pss_one (ps_ret pe_non))
            pss_nil))))
        (pss_one (ps_set (i := 4) scBound.nd rfl (Or.inl rfl) (pe_callH h_law_plus hr (by rfl) (pa_cons (pv 4) (pa_cons (pe_callH h_law_plus hr (by rfl) (pa_cons (pe_callH h_law_by hr (by rfl) (pa_cons (pe_tup (pa_cons (pe_ix ix_tupS (pe_ix ix_tupS (pv 3) (pv 5) (by intro _ _; rfl)) pe_int (by intro _ _; rfl)) (pa_cons pe_int pa_nil))) (pa_cons (pv 6) pa_nil))) (pa_cons (pe_callH h_law_by hr (by rfl) (pa_cons (pe_tup (pa_cons (pe_op op_sub pe_int (pe_op op_mulW (pe_ix ix_tupS (pe_ix ix_tupS (pv 3) (pv 5) (by intro _ _; rfl)) pe_int (by intro _ _; rfl)) (pe_ix ix_tupS (pe_ix ix_tupS (pv 3) (pv 5) (by intro _ _; rfl)) pe_int (by intro _ _; rfl)))) (pa_cons pe_int pa_nil))) (pa_cons (pv 7) pa_nil))) pa_nil))) pa_nil)))))))))
      (pss_one (ps_ret (pe_callH h_law_plus hr (by rfl) (pa_cons (pv 4) (pa_cons (pe_callH h_law_sum hr (by rfl) (pa_cons (pe_lc (own := [("_law_i", 8)]) (g := gName 8) (tt := tYes) rfl scBound.nd (pi_range1 (by rfl) T.range (pa_cons (pe_callB call_lenT (by rfl) T.len PySem.boot_len (pa_cons (pv 2) pa_nil)) pa_nil)) (blkOk_by (own := [("_law_i", 8)]) (N := NBound) (sc := defScope dBound) (by decide +kernel)) (fun _ _ _ _ _ => (pg_name (i := 8) scBound.nd rfl (Or.inl rfl))) (fun _ _ _ _ _ => by exact pts_nil) (fun _ _ _ _ _ => by exact (pe_callH h_law_by hr (by rfl) (pa_cons (pe_tup (pa_cons (pe_op op_sub pe_int (pe_ix ix_tupS (pe_ix ix_tupS (pv 2) (pv 8) (by intro _ _; rfl)) pe_int (by intro _ _; rfl))) (pa_cons pe_int pa_nil))) (pa_cons (pe_ix ix_tupS (pe_ix ix_tupS (pv 1) pe_int (by intro _ _; rfl)) (pv 8) (by intro _ _; rfl)) pa_nil))))) pa_nil)) pa_nil)))))))))), ?_⟩
    obtain ⟨so, si, ew, sO, sI⟩ := id hw
    obtain ⟨vo, eo, lo, xo⟩ := id sO
    obtain ⟨vi, ei, li, xi⟩ := id sI
    have p3 := ok.p3
    have w3 := ok.w3
    have w0 := ok.w0
    have hm : a.m = a.w + a.w + a.p := rfl
    have z0 : ∀ n : Nat, (0 : Int) + ((n : Nat) : Int) = ((n : Nat) : Int) := fun n => Int.zero_add _
    refine ⟨_, rfl, wa, _, rfl, ew, rfl, _, _, rfl, _, _, rfl, rfl, ?_⟩
    refine ⟨_, rfl, _, _, _, true, rfl, .inl ⟨rfl, _, et⟩, by decide +kernel, true, rfl, iteF ?_⟩
    refine ⟨_, rfl, t, _, rfl, et, rfl, _, rfl, iteB (c := false) (by simp) (iteF ?_)⟩
    refine ⟨_, rfl, t, _, _, .ref ff, rfl, rfl, et, rfl, _, rfl, si, vi, rfl, ei, ff, a.w, true, _, by rw [li]; rfl, rf, fun j hj => (sz_neg (zy j (by omega))).mono (by decide), fun z => (Bool.noConfusion z), fun H1 k1 => ⟨true, rfl, iteF ?_⟩⟩
    refine ⟨_, rfl, t, _, _, .ref bb, rfl, rfl, k1 _ _ et (by simp), rfl, _, rfl, si, vi, rfl, k1 _ _ ei (by simp), bb, a.w, false, _, by rw [li]; rfl, rb.kp0 k1, fun j hj => (zy _ (by omega)).mono (by decide), fun _ j hj => fin.bnn j hj, fun H2 k2 => ⟨true, rfl, iteF ?_⟩⟩
    have k12 := k1.trans k2
    refine ⟨_, rfl, t, _, _, .ref cc, rfl, rfl, k12 _ _ et (by simp), rfl, _, rfl, so, vo, rfl, k12 _ _ eo (by simp), cc, a.p, false, _, by rw [lo]; rfl, rc.kp0 k12, fun j hj => (zy _ (by omega)).mono (by decide), fun _ j hj => fin.cnn j hj, fun H3 k3 => ⟨true, rfl, iteF ?_⟩⟩
    have k03 := k12.trans k3
    clear k1 k2 k3 k12
    -- found = (0, 1)
    refine ⟨by show 2 ≤ sizeLine; decide, fun fp hfp => ?_⟩
    have k4 : Kp [] H (upd H3 fp (.tup [.int 0, .int 1])) := k03.trans (.new hfp)
    have r4 : RatAt (upd H3 fp (.tup [.int 0, .int 1])) (.ref fp) 0 := .new upd_same
    generalize upd H3 fp (.tup [.int 0, .int 1]) = H4 at k4 r4 ⊢
    clear k03 hfp
    have zg : ∀ j, j < a.w → Sz 353 ((a.fk j : Rat) * (- y j) + ((0 - a.fk j * a.dk j : Int) : Rat) * y (a.w + j)) := fun j hj => by
      have b1 := ok.fk0 j hj
      have b2 := mul_100 (x := a.fk j) (y := a.dk j) (by omega) (by omega) (ok.dk0 j hj).1 (ok.dk0 j hj).2
      exact sz_add (sz_mul (sz_int (by omega)) (sz_neg (zy j (by omega)))) (sz_mul (sz_int (by omega)) (zy (a.w + j) (by omega)))
    refine ⟨_, rfl, si, vi, rfl, k4 _ _ ei (by simp), _, rfl, by omega, by omega, for_it walk_range (fun i σ H' => ∃ (vf : V) (o5 o6 o7 o8 o9 : Option V), σ = [some (.ref wa), some (.ref t), some (.ref so), some (.ref si), some vf, o5, o6, o7, o8, o9] ∧ Kp [] H H' ∧ RatAt H' vf (S i (fun j => (a.fk j : Rat) * (- y j) + ((0 - a.fk j * a.dk j : Int) : Rat) * y (a.w + j))))
      ⟨_, _, _, _, _, _, rfl, k4, r4⟩ (fun _ _ _ _ _ => trivial) ?_ ?_⟩
    · rintro j z σ H5 H6 hj ⟨vf, o5, o6, o7, o8, o9, rfl, k6, rvf⟩ ⟨rfl, rfl⟩
      have hj2 : j < a.w := by
        have : j < ((vi.length : Nat) : Int).toNat := hj
        omega
      obtain ⟨vi', pi, ei', ai, epi⟩ := sI.at hj2
      rw [ei] at ei'
      cases ei'
      obtain ⟨fv, va, efv, afv, ra⟩ := rf.at hj2
      obtain ⟨bv, vb, ebv, abv, rb'⟩ := rb.at hj2
      refine ⟨_, rfl, t, _, _, .ref ff, rfl, rfl, k6 _ _ et (by simp), rfl, _, rfl, ff, fv, _, va, rfl, rfl, k6 _ _ efv (by simp), by rw [z0]; exact afv, _, rfl, t, _, _, .ref bb, rfl, rfl, k6 _ _ et (by simp), rfl, _, rfl, bb, bv, _, vb, rfl, rfl, k6 _ _ ebv (by simp), by rw [z0]; exact abv, va, vb, rfl, ?_⟩
      obtain ⟨ap, rfl, eap⟩ := id ra
      have gno1 := gt_noI (z := 1) (p := - y j) (fin.one j hj2)
      have eap6 := k6 _ _ eap (by simp)
      refine ⟨_, rfl, ap, _, 0, _, rfl, rfl, eap6, rfl, _, rfl, ap, _, 1, _, rfl, rfl, eap6, rfl, _, _, rfl, rfl, _, rfl, iteB (c := false) (decide_eq_false (by omega)) (iteF ?_)⟩
      -- for i in range(len(sources))
      refine ⟨_, rfl, so, vo, rfl, k6 _ _ eo (by simp), _, rfl, by omega, by omega, for_it walk_range (fun i σ H' => ∃ (o8 o9 : Option V), σ = [some (.ref wa), some (.ref t), some (.ref so), some (.ref si), some vf, some (.int (0 + (j : Nat))), some (.ref ap), some vb, o8, o9] ∧ Kp [] H H' ∧ Kp [] H6 H')
        ⟨_, _, rfl, k6, .refl⟩ (fun _ _ _ _ _ => trivial) ?_ ?_⟩
      · rintro i z σ H7 H8 hi ⟨p8, p9, rfl, k8, k68⟩ ⟨rfl, rfl⟩
        have hi2 : i < a.p := by
          have : i < ((vo.length : Nat) : Int).toNat := hi
          omega
        obtain ⟨vo', po, eo', ao, epo⟩ := sO.at hi2
        rw [eo] at eo'
        cases eo'
        have bd := ok.di0 i hi2
        refine ⟨_, rfl, _, rfl, so, vo, _, .ref po, rfl, rfl, k8 _ _ eo (by simp), by rw [z0]; exact ao, po, _, 1, _, rfl, rfl, k8 _ _ epo (by simp), rfl, by show 2 ≤ sizeLine; decide, fun tp htp => ?_⟩
        have k9 : Kp [] H8 (upd H8 tp (.tup [.int (a.di i), .int 1])) := .new htp
        have e9 : upd H8 tp (.tup [.int (a.di i), .int 1]) tp = some (.tup [.int (a.di i), .int 1]) := upd_same
        generalize upd H8 tp (.tup [.int (a.di i), .int 1]) = H9 at k9 e9 ⊢
        have k09 := k8.trans k9
        refine ⟨_, rfl, .ref tp, vb, _, _, 16, 160, rfl, .int e9, rb'.kp0 k09, sz_int (by omega), zy _ (by omega), by decide, by decide, by decide, trivial, fun H10 v10 k10 r10 => ?_⟩
        have k010 := k09.trans k10
        obtain ⟨cv, vc, ecv, acv, rvc⟩ := (rc.kp0 k010).at hi2
        refine ⟨_, rfl, t, _, _, .ref cc, rfl, rfl, k010 _ _ et (by simp), rfl, _, rfl, cc, cv, _, vc, rfl, rfl, ecv, by rw [z0]; exact acv, v10, vc, _, _, 176, 160, rfl, r10, rvc, sz_mul (sz_int (by omega)) (zy _ (by omega)), zy _ (by omega), by decide, by decide, by decide, trivial, fun H11 v11 k11 r11 => ?_⟩
        have k011 := k010.trans k11
        have zm : Sz 337 (((a.di i : Int) : Rat) * y (a.w + j) + y (a.w + a.w + i)) := sz_add (sz_mul (sz_int (by omega)) (zy _ (by omega))) (zy _ (by omega))
        have za : Sz 160 (- y j) := sz_neg (zy j (by omega))
        have gno := gt_no (fin.dual i j hi2 hj2)
        obtain ⟨mp, rfl, emp⟩ := r11
        have eap11 := k011 _ _ eap (by simp)
        refine ⟨_, rfl, ap, _, 0, _, rfl, rfl, eap11, rfl, _, rfl, mp, _, 1, _, rfl, rfl, emp, rfl, _, _, rfl, rfl, wide_mul za.1 (sz_den zm) (by decide) (by decide) (by decide), _, rfl, mp, _, 0, _, rfl, rfl, emp, rfl, _, rfl, ap, _, 1, _, rfl, rfl, eap11, rfl, _, _, rfl, rfl, wide_mul zm.1 (sz_den za) (by decide) (by decide) (by decide), _, _, rfl, rfl, _, rfl, iteB (c := false) (decide_eq_false gno) (iteF ?_)⟩
        exact ⟨_, _, rfl, k011, k68.trans (k9.trans (k10.trans k11))⟩
      · rintro σ H7 ⟨p8, p9, rfl, k7, k67⟩
        have b1 := ok.fk0 j hj2
        have b3 := ok.dk0 j hj2
        have b2 := mul_100 (x := a.fk j) (y := a.dk j) (by omega) (by omega) b3.1 b3.2
        -- found = plus(found, plus(by(..), by(..)))
        refine ⟨_, rfl, _, rfl, _, rfl, si, vi, _, .ref pi, rfl, rfl, k7 _ _ ei (by simp), by rw [z0]; exact ai, pi, _, 0, _, rfl, rfl, k7 _ _ epi (by simp), rfl, by show 2 ≤ sizeLine; decide, fun tp htp => ?_⟩
        have k8 : Kp [] H7 (upd H7 tp (.tup [.int (a.fk j), .int 1])) := .new htp
        have e8 : upd H7 tp (.tup [.int (a.fk j), .int 1]) tp = some (.tup [.int (a.fk j), .int 1]) := upd_same
        generalize upd H7 tp (.tup [.int (a.fk j), .int 1]) = H8 at k8 e8 ⊢
        have k08 := k7.trans k8
        refine ⟨_, rfl, .ref tp, .ref ap, _, _, 16, 160, rfl, .int e8, ra.kp0 k08, sz_int (by omega), sz_neg (zy j (by omega)), by decide, by decide, by decide, trivial, fun H9 v9 k9 r9 => ?_⟩
        have k09 := k08.trans k9
        refine ⟨_, rfl, _, rfl, si, vi, _, .ref pi, rfl, rfl, k09 _ _ ei (by simp), by rw [z0]; exact ai, pi, _, 0, _, rfl, rfl, k09 _ _ epi (by simp), rfl, _, rfl, _, rfl, si, vi, _, .ref pi, rfl, rfl, k09 _ _ ei (by simp), by rw [z0]; exact ai, pi, _, 1, _, rfl, rfl, k09 _ _ epi (by simp), rfl, _, _, rfl, rfl, wide_mul (a := 16) (b := 16) (by omega) (by omega) (by decide) (by decide) (by decide), _, _, rfl, rfl, by show 2 ≤ sizeLine; decide, fun tp2 htp2 => ?_⟩
        have k10 : Kp [] H9 (upd H9 tp2 (.tup [.int (0 - a.fk j * a.dk j), .int 1])) := .new htp2
        have e10 : upd H9 tp2 (.tup [.int (0 - a.fk j * a.dk j), .int 1]) tp2 = some (.tup [.int (0 - a.fk j * a.dk j), .int 1]) := upd_same
        generalize upd H9 tp2 (.tup [.int (0 - a.fk j * a.dk j), .int 1]) = H10 at k10 e10 ⊢
        have k010 := k09.trans k10
        refine ⟨_, rfl, .ref tp2, vb, _, _, 16, 160, rfl, .int e10, rb'.kp0 k010, sz_int (by omega), zy _ (by omega), by decide, by decide, by decide, trivial, fun H11 v11 k11 r11 => ?_⟩
        refine ⟨v9, v11, _, _, 176, 176, rfl, r9.kp0 (k10.trans k11), r11, sz_mul (sz_int (by omega)) (sz_neg (zy j (by omega))), sz_mul (sz_int (by omega)) (zy _ (by omega)), by decide, by decide, by decide, trivial, fun H12 v12 k12 r12 => ?_⟩
        have k612 := k67.trans (k8.trans (k9.trans (k10.trans (k11.trans k12))))
        refine ⟨vf, v12, _, _, j * 354 + 1, 353, rfl, rvf.kp0 k612, r12, sz_S' j fun i hi => zg i (by omega), zg j hj2, by omega, by decide, by omega, trivial, fun H13 v13 k13 r13 => ?_⟩
        exact ⟨v13, _, _, _, _, _, rfl, k6.trans (k612.trans k13), r13⟩
    · rintro σ H5 ⟨vf, o5, o6, o7, o8, o9, rfl, k5, rvf⟩
      have eo5 := k5 _ _ eo (by simp)
      have hl0 : ((vi.length : Nat) : Int).toNat = a.w := by omega
      rw [hl0] at rvf
      refine ⟨_, rfl, _, rfl, so, vo, rfl, eo5, _, rfl, by omega, by omega, fun D hD => lc_made walk_range (fun i H v => RatAt H v (((0 - a.fl i : Int) : Rat) * y (a.w + a.w + i))) (ratAt_E fun i => ((0 - a.fl i : Int) : Rat) * y (a.w + a.w + i)) hD (by simp; exact small1000 (by omega)) (fun _ _ => trivial) ?_ (fun _ _ _ _ => gName_mono) ?_⟩
      · rintro i z H6 H7 R hi k6 ⟨rfl, rfl⟩ hR
        have hi2 : i < a.p := by
          have : i < ((vo.length : Nat) : Int).toNat := hi
          omega
        obtain ⟨vo', po, eo', ao, epo⟩ := sO.at hi2
        rw [eo] at eo'
        cases eo'
        have k06 := k5.trans k6
        have b1 := ok.fl0 i hi2
        refine ⟨rfl, _, rfl, _, rfl, so, vo, _, .ref po, rfl, rfl, k06 _ _ eo (by simp), by rw [z0]; exact ao, po, _, 0, _, rfl, rfl, k06 _ _ epo (by simp), rfl, _, _, rfl, rfl, by show 2 ≤ sizeLine; decide, fun tp htp => ?_⟩
        have k7 : Kp [] H7 (upd H7 tp (.tup [.int (0 - a.fl i), .int 1])) := .new htp
        have e7 : upd H7 tp (.tup [.int (0 - a.fl i), .int 1]) tp = some (.tup [.int (0 - a.fl i), .int 1]) := upd_same
        have k07 := k06.trans k7
        obtain ⟨cv, vc, ecv, acv, rvc⟩ := (rc.kp0 k07).at hi2
        refine ⟨_, rfl, t, _, _, .ref cc, rfl, rfl, k07 _ _ et (by simp), rfl, _, rfl, cc, cv, _, vc, rfl, rfl, ecv, by rw [z0]; exact acv, ?_⟩
        exact ⟨.ref tp, vc, _, _, 16, 160, rfl, .int e7, rvc, sz_int (by omega), zy _ (by omega), by decide, by decide, by decide, trivial, fun H8 v8 k8 r8 => hR _ _ (k7.trans k8) r8⟩
      · intro H6 acc k6 hA hl hx
        have hp : acc.length = a.p := by rw [hl]; simp; exact lo
        have zf : ∀ i, i < a.p → Sz 176 (((0 - a.fl i : Int) : Rat) * y (a.w + a.w + i)) := fun i hi => sz_mul (sz_int (by have := ok.fl0 i hi; omega)) (zy _ (by omega))
        refine ⟨D, a.p, 176, _, rfl, ⟨_, hA, hp, hx⟩, zf, by decide, by omega, fun H7 v7 k7 r7 => ?_⟩
        refine ⟨vf, v7, _, _, a.w * 354 + 1, a.p * 177 + 1, rfl, rvf.kp0 (k6.trans k7), r7, sz_S' _ zg, sz_S' _ zf, by omega, by omega, by omega, trivial, fun H8 v8 k8 r8 => q H8 v8 (k5.trans (k6.trans (k7.trans k8))) ?_⟩
        rw [← fin.same]
        exact r8
end
end Wk

/-! ## WLaw7 -/
set_option Elab.async false
set_option linter.all false
set_option maxRecDepth 100000
set_option maxHeartbeats 4000000
namespace Wk
open PySem L2 Wt
theorem row_tab {K : PySem.W.Frag} {H H' : Hp} {ro sa Pt : Addr} {ns : List Int} (h : RowAt K H ro sa ns) (g : GxR.TabG H Pt) (k : Kp [Pt] H H') : RowAt K H' ro sa ns := by
  obtain ⟨p, sd, rest, e, hp, hs, n⟩ := h
  obtain ⟨ps, eP, _⟩ := g
  refine ⟨p, sd, rest, k _ _ e (by simp; exact ne_of e eP (by simp)), hp, ?_, n⟩
  rcases hs with (h | ⟨o, h⟩) | h
  · exact .inl (.inl (k _ _ h (by simp; exact ne_of h eP (by simp))))
  · exact .inl (.inr ⟨o, k _ _ h (by simp; exact ne_of h eP (by simp))⟩)
  · exact .inr h
theorem tab_row {K : PySem.W.Frag} {H H' : Hp} {ro sa Pt : Addr} {ns : List Int} (h : RowAt K H ro sa ns) (g : GxR.TabG H Pt) (k : Kp [ro] H H') : GxR.TabG H' Pt := by
  obtain ⟨p, sd, rest, e, _⟩ := h
  obtain ⟨ps, eP, r⟩ := g
  exact ⟨ps, k _ _ eP (by simp; exact ne_of eP e (by simp)), r⟩
def spLaw (K : PySem.W.Frag) (Pt : Addr) : Sp := fun vs H Q _ => ∃ (sa : Addr) (ns : List Int), vs = [.ref sa] ∧ SqL K H sa (ns.map V.int) ∧ GxR.TabG H Pt ∧ ∀ H', Q (.bl true) H'
section
variable {P : Program} {w : World} {K : PySem.W.Frag} {mg : Str → Option Value} {base : Heap} {f C : Addr} {fd : FuncData} {Pt : Addr}
abbrev NLaw : List Str := ["_law_script", "_law_row", "_law_turn", "_law_water_here", "_law_found"]
theorem scLaw : FnScope NLaw ["_law_script"] (defScope dLaw) := ⟨rfl, rfl, rfl, by decide +kernel, rfl, by decide +kernel, by decide +kernel⟩
theorem ok_law (F : Fun K "law" "law" dLaw f fd) (T : Tx K mg) (h_law_water : Has P w K mg base 3 "_law_water" ["_law_row"] (spLWater K)) (h_least_fresh : Has P w K mg base 9 "least_fresh" ["water"] (spLeast Pt)) (h_law_are_ratios : Has P w K mg base 2 "_law_are_ratios" ["_law_value", "_law_many", "_law_is_signed"] spAre)
    (h_law_alike : Has P w K mg base 2 "_law_alike" ["_law_found", "_law_due"] spAQ) (h_law_fresh : Has P w K mg base 4 "_law_fresh" ["_law_water_here", "_law_value"] spLFresh) (h_law_bound : Has P w K mg base 4 "_law_bound" ["_law_water_here", "_law_value"] spBound)
    (h_water_plan : Has P w K mg base 8 "water_plan" ["water"] (spWPlan Pt)) (h_water_paper : Has P w K mg base 8 "water_paper" ["water"] (spPaper Pt)) : FnOk P w K mg base CX0 10 f fd ["_law_script"] (spLaw K Pt) := by
  refine F.ok scLaw (fun vs H Q E h => ?_) (fun cdv A' outer s H vs Q E hr h => ?_)
  · obtain ⟨sa, ns, rfl, _⟩ := h
    rfl
  · obtain ⟨sa, ns, rfl, hs, hT, q⟩ := h
    have h_law_water := h_law_water.mono (show 3 ≤ 9 by decide)
    have h_law_are_ratios := h_law_are_ratios.mono (show 2 ≤ 9 by decide)
    have h_law_alike := h_law_alike.mono (show 2 ≤ 9 by decide)
    have h_law_fresh := h_law_fresh.mono (show 4 ≤ 9 by decide)
    have h_law_bound := h_law_bound.mono (show 4 ≤ 9 by decide)
    have h_water_plan := h_water_plan.mono (show 8 ≤ 9 by decide)
    have h_water_paper := h_water_paper.mono (show 8 ≤ 9 by decide)
    refine ⟨_, (pss_cons (ps_set (i := 1) scLaw.nd rfl (Or.inl rfl) (pe_lst (pa_cons (pv 0) (pa_cons pe_int (pa_cons pe_int (pa_cons pe_int pa_nil))))))
      (pss_cons (ps_for PassesOwn.never rfl (pi_range1 (by rfl) T.range (pa_cons pe_int pa_nil)) (pg_name (i := 2) scLaw.nd rfl (Or.inl rfl))
        (pss_cons (ps_set (i := 3) scLaw.nd rfl (Or.inl rfl) (pe_callH h_law_water hr (by rfl) (pa_cons (pv 1) pa_nil)))
        (pss_cons (ps_set (i := 4) scLaw.nd rfl (Or.inl rfl) (pe_callH h_least_fresh hr (by rfl) (pa_cons (pv 3) pa_nil)))
        (pss_cons (ps_if (pt_not (pt_val (pe_callH h_law_are_ratios hr (by rfl) (pa_cons (pe_tup (pa_cons (pv 4) pa_nil)) (pa_cons pe_int (pa_cons pe_bl pa_nil))))))
          (pss_one (ps_ret pe_bl))
          pss_nil)
        (pss_one (ps_if (PW.pt (pw_or (pt_not (pt_val (pe_callH h_law_alike hr (by rfl) (pa_cons (pe_callH h_law_fresh hr (by rfl) (pa_cons (pv 3) (pa_cons (pe_callH h_water_plan hr (by rfl) (pa_cons (pv 3) pa_nil)) pa_nil))) (pa_cons (pv 4) pa_nil))))) (pw_or1 (pt_not (pt_val (pe_callH h_law_alike hr (by rfl) (pa_cons (pe_callH h_law_bound hr (by rfl) (pa_cons (pv 3) (pa_cons (pe_callH h_water_paper hr (by rfl) (pa_cons (pv 3) pa_nil)) pa_nil))) (pa_cons (pv 4) pa_nil))))))))
          (pss_one (ps_ret pe_bl))
          pss_nil))))))
      (pss_one (ps_ret pe_bl)))), ?_⟩
    refine ⟨_, rfl, by show 4 ≤ sizeLine; decide, fun ro hro => ?_⟩
    have k1 : Kp [] H (upd H ro (.lst [.ref sa, .int 0, .int 4031, .int 0])) := .new hro
    have r1 : RowAt K (upd H ro (.lst [.ref sa, .int 0, .int 4031, .int 0])) ro sa ns := ⟨0, 4031, 0, upd_same, by decide, sqL_kp hs k1 (by simp), far_of hs hro⟩
    refine ⟨_, rfl, by decide, by decide, for_it walk_range (fun i σ H' => ∃ o2 o3 o4 : Option V, σ = [some (.ref sa), some (.ref ro), o2, o3, o4] ∧ RowAt K H' ro sa ns ∧ GxR.TabG H' Pt) ⟨none, none, none, rfl, r1, TabG.kp0 hT k1⟩ (fun _ _ _ _ _ => trivial) ?_ ?_⟩
    · rintro i x σ H1 H2 hi ⟨o2, o3, o4, rfl, r2, t2⟩ ⟨rfl, rfl⟩
      refine ⟨_, rfl, ro, sa, ns, rfl, r2, fun H3 wa a k3 r3 hw3 ok => ?_⟩
      have t3 := tab_row r2 t2 k3
      refine ⟨_, rfl, wa, a, rfl, hw3, ok, t3, fun H4 v x1 y1 k4 t4 fin1 zx1 rv => ?_⟩
      have r4 := row_tab r3 t3 k4
      have hw4 := hw3.kp k4 (TabG.mu t3)
      have w3 := ok.w3
      have zv : Sz 8999 (S a.w (fun j => x1 (a.F + j))) := (sz_S' (z := 160) a.w fun j _ => zx1 _).mono (by omega)
      have nv : 0 ≤ S a.w (fun j => x1 (a.F + j)) := S_nonneg fun j _ => fin1.nn _
      -- are_ratios((found,), 1, False)
      refine ⟨_, rfl, by show 1 ≤ sizeLine; decide, fun tp htp => ?_⟩
      have k5 : Kp [] H4 (upd H4 tp (.tup [v])) := .new htp
      have e5 : upd H4 tp (.tup [v]) tp = some (.tup [v]) := upd_same
      generalize upd H4 tp (.tup [v]) = H5 at k5 e5 ⊢
      refine ⟨tp, 1, false, fun _ => S a.w (fun j => x1 (a.F + j)), rfl, ⟨[v], e5, rfl, fun i z e => ?_⟩, fun _ _ => zv, fun _ _ _ => nv, fun H6 k6 => ⟨true, rfl, iteF ?_⟩⟩
      · have hz := List.mem_singleton.mp (List.mem_of_getElem? e)
        rw [hz]
        exact rv.kp0 k5
      have k46 := k5.trans k6
      have hw6 := hw4.kp0 k46
      have t6 := TabG.kp0 t4 k46
      have r6 := r4.kp0 k46
      have rv6 := rv.kp0 k46
      -- alike(fresh(water, water_plan(water)), found)
      refine ⟨_, rfl, _, rfl, wa, a, rfl, hw6, ok, t6, fun H7 pv x2 y2 k7 t7 fin2 zx2 pl => ?_⟩
      have hw7 := hw6.kp k7 (TabG.mu t6)
      have r7 := row_tab r6 t6 k7
      have rv7 := rv6.kp k7 (TabG.mu t6)
      refine ⟨wa, pv, a, x2, y2, rfl, hw7, ok, pl, fin2, zx2, fun H8 u k8 ru => ?_⟩
      rw [same ok fin2 fin1] at ru
      refine ⟨_, rfl, u, v, _, rfl, ru, rv7.kp0 k8, fun H9 k9 => ⟨true, rfl, iteF ?_⟩⟩
      have k79 := k8.trans k9
      have hw9 := hw7.kp0 k79
      have t9 := TabG.kp0 t7 k79
      have r9 := r7.kp0 k79
      have rv9 := rv7.kp0 k79
      -- alike(bound(water, water_paper(water)), found)
      refine ⟨_, rfl, _, rfl, wa, a, rfl, hw9, ok, t9, fun H10 pv2 x3 y3 k10 t10 fin3 zy3 pp => ?_⟩
      have hw10 := hw9.kp k10 (TabG.mu t9)
      have r10 := row_tab r9 t9 k10
      have rv10 := rv9.kp k10 (TabG.mu t9)
      refine ⟨wa, pv2, a, x3, y3, rfl, hw10, ok, pp, fin3, zy3, fun H11 u2 k11 ru2 => ?_⟩
      rw [same ok fin3 fin1] at ru2
      refine ⟨_, rfl, u2, v, _, rfl, ru2, rv10.kp0 k11, fun H12 k12 => ⟨true, rfl, iteF ?_⟩⟩
      have k1012 := k11.trans k12
      exact ⟨_, _, _, rfl, r10.kp0 k1012, TabG.kp0 t10 k1012⟩
    · rintro σ H1 ⟨o2, o3, o4, rfl, r2, t2⟩
      exact q H1
end
end Wk

/-! ## WAll -/
set_option Elab.async false
set_option linter.all false
set_option maxRecDepth 100000
set_option maxHeartbeats 4000000
namespace Wk
open PySem L2 Wt
structure Def (K : PySem.W.Frag) (x qual : Str) (st : Stmt) : Prop where
  ex : ∃ (f : Addr) (fd : FuncData), Fun K x qual st f fd ∧ PySem.W.nsIn K mainGlobals x = some (some (.ref f))
structure MDef (K : PySem.W.Frag) (C : Addr) (m qual : Str) (st : Stmt) : Prop where
  ex : ∃ (f : Addr) (fd : FuncData), Fun K m qual st f fd ∧ Meth K C m f
/-- a def that holds a generator expression: its code object at c, the table at P -/
structure GDef (K : PySem.W.Frag) (x qual : Str) (st : Stmt) (c P : Addr) : Prop where
  ex : ∃ (f : Addr) (fd : FuncData), Fun K x qual st f fd ∧ PySem.W.nsIn K mainGlobals x = some (some (.ref f)) ∧ fd.code = .ref c
  tab : PySem.W.tabIn K x = some (c, P)
  out : K.lookup P = none
section
variable {K : PySem.W.Frag} {x m qual : Str} {st : Stmt} {f C : Addr} {oc : Value} {od an : Option Addr} {osl : Array (Option Value)} {kV doc pm cdv ct : Value}
theorem def_mk (a : PySem.W.nsIn K mainGlobals x = some (some (.ref f))) (l : K.lookup f = some ⟨oc, od, .func (PySem.W.fnOf x qual (defArgs st) (defBody st) (defScope st) .none kV doc pm an cdv ct), osl⟩)
    (c : PySem.W.codeIn K cdv qual = true) (k : PySem.W.keepIn K (.ref f) = true) : Def K x qual st := ⟨f, _, fun_mk l c k, a⟩
theorem mdef_mk (a : PySem.W.findIn K (.ref C) m = some (some (.ref f))) (i : PySem.W.isFn K (.ref f) = true) (l : K.lookup f = some ⟨oc, od, .func (PySem.W.fnOf m qual (defArgs st) (defBody st) (defScope st) .none kV doc pm an cdv ct), osl⟩)
    (c : PySem.W.codeIn K cdv qual = true) (k : PySem.W.keepIn K (.ref f) = true) : MDef K C m qual st := ⟨f, _, fun_mk l c k, ⟨a, i, k⟩⟩
theorem gdef_mk {cc Pt : Addr} {e : Value} {dd : Option Addr} {vs : Array Value} {sl : Array (Option Value)} (a : PySem.W.nsIn K mainGlobals x = some (some (.ref f)))
    (l : K.lookup f = some ⟨oc, od, .func (PySem.W.fnOf x qual (defArgs st) (defBody st) (defScope st) .none kV doc pm an cdv ct), osl⟩)
    (c : PySem.W.codeIn K cdv qual = true) (k : PySem.W.keepIn K (.ref f) = true) (hc : cdv = .ref cc) (lc : K.lookup cc = some ⟨e, dd, .fields vs, sl⟩) (hv : (vs[11]? : Option Value) = some (.ref Pt)) (hP : K.lookup Pt = none) : GDef K x qual st cc Pt := by
  subst hc
  refine ⟨⟨f, _, fun_mk l c k, a, rfl⟩, ?_, hP⟩
  unfold PySem.W.tabIn
  rw [a]
  dsimp only
  rw [l]
  dsimp only [PySem.W.fnOf]
  rw [lc]
  dsimp only
  rw [hv]
end
section
variable {P : Program} {w : World} {K : PySem.W.Frag} {mg : Str → Option Value} {base h : Heap} {C : Addr} {x qual : Str} {st : Stmt} {ps : List Str} {sp : Sp} {k : Nat}
theorem has_of (X : K.In h) (G : h.Ns mainGlobals mg) (d : Def K x qual st) (hok : ∀ (f : Addr) (fd : FuncData), Fun K x qual st f fd → FnOk P w K mg base CX0 k f fd ps sp)
    (hb : ∀ (kV doc pm : Value) (an : Option Addr) (cdv ct : Value) (us : List Value), us.length = ps.length → bindArgs (PySem.W.fnOf x qual (defArgs st) (defBody st) (defScope st) .none kV doc pm an cdv ct) ⟨us, []⟩ = pure (ps.zip us)) : Has P w K mg base k x ps sp := by
  obtain ⟨f, fd, F, a⟩ := d.ex
  exact ⟨f, fd, hok f fd F, PySem.W.mg_of X G a, F.kp, F.binds hb⟩
theorem hasM_of (d : MDef K C x qual st) (hok : ∀ (f : Addr) (fd : FuncData), Fun K x qual st f fd → FnOk P w K mg base CX0 k f fd ps sp)
    (hb : ∀ (kV doc pm : Value) (an : Option Addr) (cdv ct : Value) (us : List Value), us.length = ps.length → bindArgs (PySem.W.fnOf x qual (defArgs st) (defBody st) (defScope st) .none kV doc pm an cdv ct) ⟨us, []⟩ = pure (ps.zip us)) : HasM P w K mg base C k x ps sp := by
  obtain ⟨f, fd, F, M⟩ := d.ex
  exact ⟨f, fd, hok f fd F, M, F.binds hb⟩
end

theorem all_mk {l : PySem.W.OpenLaw} {w : World} {K : PySem.W.Frag} {h : Heap} {mg : Str → Option Value} {fa C c Pt : Addr} {t1 t2 t3 : Tok} (X : K.In h) (G : h.Ns mainGlobals mg) (hfa : mg "law" = some (.ref fa))
    (aC : PySem.W.nsIn K mainGlobals "Program" = some (some (.ref C))) (d_isin : Def K "is_in" "is_in" dIsIn) (d_ratio : Def K "ratio" "ratio" dRatio) (d_plus : Def K "plus" "plus" dPlus) (d_minus : Def K "minus" "minus" dMinus) (d_by : Def K "by" "by" dBy) (d_over : Def K "over" "over" dOver) (d_less : Def K "less" "less" dLess) (d_total : Def K "total" "total" dTotal) (d_solved : Def K "solved" "solved" dSolved) (d_whole : Def K "whole_row" "whole_row" dWhole) (d_prog : Def K "program_of" "program_of" dProg) (d_plan : Def K "plan_of" "plan_of" dPlan) (d_fresh : Def K "fresh_of" "fresh_of" dFresh) (d_least : Def K "least_fresh" "least_fresh" dLeast) (d_wplan : Def K "water_plan" "water_plan" dWPlan) (d_paper : Def K "water_paper" "water_paper" dPaper) (d_taken : Def K "_law_taken" "_law_taken" dTaken) (d_pick : Def K "_law_pick" "_law_pick" dPick) (d_alike : Def K "_law_alike" "_law_alike" dAlike) (d_lratio : Def K "_law_ratio" "_law_ratio" dLR) (d_lplus : Def K "_law_plus" "_law_plus" dLPlus) (d_lby : Def K "_law_by" "_law_by" dLBy) (d_lsum : Def K "_law_sum" "_law_sum" dLSum) (d_lwater : Def K "_law_water" "_law_water" dLWater) (d_are : Def K "_law_are_ratios" "_law_are_ratios" dAre) (d_lfresh : Def K "_law_fresh" "_law_fresh" dLFresh) (d_bound : Def K "_law_bound" "_law_bound" dBound) (d_law : Def K "law" "law" dLaw) (d_need : GDef K "need_water" "need_water" dNeed c Pt)
    (m_init : MDef K C "__init__" "Program.__init__" mInit) (m_turn : MDef K C "turn" "Program.turn" mTurn) (m_mult : MDef K C "multiplier" "Program.multiplier" mMult) (m_climb : MDef K C "climb" "Program.climb" mClimb) (m_leave : MDef K C "leave_help" "Program.leave_help" mLeave) (m_amounts : MDef K C "amounts" "Program.amounts" mAmounts) (m_prices : MDef K C "prices" "Program.prices" mPrices)
    (pg : PySem.W.plainGet K C Str.empty = true) (hd : PySem.W.hasDictIn K C = true) (po : PySem.W.plainOver K C = true) (sa : PySem.W.findIn K (.ref C) "__setattr__" = some (some (.builtin "object.__setattr__"))) (mk : PySem.W.makesIn K C = true) (kc : PySem.W.keepIn K (.ref C) = true)
    (nM : PySem.W.findIn K (.ref C) "many" = some none) (nS : PySem.W.findIn K (.ref C) "signs" = some none) (nR : PySem.W.findIn K (.ref C) "rows" = some none) (nB : PySem.W.findIn K (.ref C) "basis" = some none)
    (zg : PySem.W.nsIn K mainGlobals "gcd" = some (some (.builtin "math.gcd"))) (z_range : PySem.W.nsIn K mainGlobals "range" = some none) (z_len : PySem.W.nsIn K mainGlobals "len" = some none) (z_enumerate : PySem.W.nsIn K mainGlobals "enumerate" = some none) (z_zip : PySem.W.nsIn K mainGlobals "zip" = some none) (z_tuple : PySem.W.nsIn K mainGlobals "tuple" = some none) (z_list : PySem.W.nsIn K mainGlobals "list" = some none) (z_dict : PySem.W.nsIn K mainGlobals "dict" = some none) (z_isinstance : PySem.W.nsIn K mainGlobals "isinstance" = some none) (z_abs : PySem.W.nsIn K mainGlobals "abs" = some none) (z_int : PySem.W.nsIn K mainGlobals "int" = some none) (z_bool : PySem.W.nsIn K mainGlobals "bool" = some none) (z_str : PySem.W.nsIn K mainGlobals "str" = some none) (z_all : PySem.W.nsIn K mainGlobals "all" = some none)
    (y1 : PySem.W.nsIn K mainGlobals "MOST_SIDE" = some (some (.int 4 t1))) (y2 : PySem.W.nsIn K mainGlobals "MOST_FLOW" = some (some (.int 1000 t2))) (y3 : PySem.W.nsIn K mainGlobals "MOST_DIRT" = some (some (.int 1000 t3))) :
    ∃ (c Pt : Addr) (fd : FuncData), PySem.W.tabIn K "need_water" = some (c, Pt) ∧ K.lookup Pt = none ∧ (∀ (s : Shared) (v : Value), BindsTo s fd ⟨[v], []⟩ [("_law_script", v)]) ∧
      ∀ base : Heap, K.In base → base.Ns mainGlobals mg → GxR.TabB base mg c Pt → FnOk l.prog w K mg base CX0 10 fa fd ["_law_script"] (spLaw K Pt) := by
  have T : Tx K mg := ⟨PySem.W.mg_of X G zg, PySem.W.mg_none_of X G z_range, PySem.W.mg_none_of X G z_len, PySem.W.mg_none_of X G z_enumerate, PySem.W.mg_none_of X G z_zip, PySem.W.mg_none_of X G z_tuple, PySem.W.mg_none_of X G z_list, PySem.W.mg_none_of X G z_dict, PySem.W.mg_none_of X G z_isinstance, PySem.W.mg_none_of X G z_abs, PySem.W.mg_none_of X G z_int, PySem.W.mg_none_of X G z_bool, PySem.W.mg_none_of X G z_str, PySem.W.mg_none_of X G z_all⟩
  have TM : Tm mg t1 t2 t3 := ⟨PySem.W.mg_of X G y1, PySem.W.mg_of X G y2, PySem.W.mg_of X G y3⟩
  have cf : Cf K C := ⟨⟨pg, hd, po, sa⟩, nM, nS, nR, nB⟩
  obtain ⟨fl, fdl, FL, al⟩ := d_law.ex
  have e := hfa.symm.trans (PySem.W.mg_of X G al)
  cases e
  obtain ⟨ocl, odl, kVl, docl, pml, anl, cdvl, ctl, osll, rfl, lkl, hcdl⟩ := FL.ex
  refine ⟨c, Pt, PySem.W.fnOf "law" "law" (defArgs dLaw) (defBody dLaw) (defScope dLaw) .none kVl docl pml anl cdvl ctl, d_need.tab, d_need.out, fun s v => .of_eq rfl, fun base _ _ TB => ?_⟩

  have h_ratio : Has l.prog w K mg base 1 "ratio" ["top", "bottom"] (spRatio) := has_of X G d_ratio (fun f fd F => ok_ratio F T) (fun _ _ _ _ _ _ us hl => match us, hl with | [_, _], _ => rfl)
  have h_plus : Has l.prog w K mg base 2 "plus" ["one", "other"] (spTwo (fun _ _ => True) (· + ·)) := has_of X G d_plus (fun f fd F => ok_plus F h_ratio) (fun _ _ _ _ _ _ us hl => match us, hl with | [_, _], _ => rfl)
  have h_minus : Has l.prog w K mg base 2 "minus" ["one", "other"] (spTwo (fun _ _ => True) (· - ·)) := has_of X G d_minus (fun f fd F => ok_minus F h_ratio) (fun _ _ _ _ _ _ us hl => match us, hl with | [_, _], _ => rfl)
  have h_by : Has l.prog w K mg base 2 "by" ["one", "other"] (spTwo (fun _ _ => True) (· * ·)) := has_of X G d_by (fun f fd F => ok_by F h_ratio) (fun _ _ _ _ _ _ us hl => match us, hl with | [_, _], _ => rfl)
  have h_over : Has l.prog w K mg base 2 "over" ["one", "other"] (spTwo (fun _ q => q ≠ 0) (· / ·)) := has_of X G d_over (fun f fd F => ok_over F h_ratio) (fun _ _ _ _ _ _ us hl => match us, hl with | [_, _], _ => rfl)
  have h_less : Has l.prog w K mg base 1 "less" ["one", "other"] (spLess) := has_of X G d_less (fun f fd F => ok_less F) (fun _ _ _ _ _ _ us hl => match us, hl with | [_, _], _ => rfl)
  have h_total : Has l.prog w K mg base 3 "total" ["some"] (spTotal) := has_of X G d_total (fun f fd F => ok_total F h_plus) (fun _ _ _ _ _ _ us hl => match us, hl with | [_], _ => rfl)
  have h_init : HasMk l.prog w K mg base C 3 "Program" ["self", "rows", "goals"] (spInit C) := by
    obtain ⟨f, fd, F, Mt⟩ := m_init.ex
    exact ⟨f, fd, ⟨mk, Mt.at_, Mt.fn, kc⟩, ok_init F T cf h_by, PySem.W.mg_of X G aC, F.binds (ps := ["self", "rows", "goals"]) (fun _ _ _ _ _ _ us hl => match us, hl with | [_, _, _], _ => rfl)⟩
  have h_mult : HasM l.prog w K mg base C 4 "multiplier" ["self", "costs", "k"] (spMult C) := hasM_of m_mult (fun f fd F => ok_mult F T cf h_by h_total) (fun _ _ _ _ _ _ us hl => match us, hl with | [_, _, _], _ => rfl)
  have h_turn : HasM l.prog w K mg base C 3 "turn" ["self", "j", "k"] (spTurn C) := hasM_of m_turn (fun f fd F => ok_turn F T cf h_by h_minus h_over) (fun _ _ _ _ _ _ us hl => match us, hl with | [_, _, _], _ => rfl)
  have h_prices : HasM l.prog w K mg base C 5 "prices" ["self", "costs"] (spPrices C) := hasM_of m_prices (fun f fd F => ok_prices F T cf h_by h_mult) (fun _ _ _ _ _ _ us hl => match us, hl with | [_, _], _ => rfl)
  have h_amounts : HasM l.prog w K mg base C 1 "amounts" ["self"] (spAmounts C) := hasM_of m_amounts (fun f fd F => ok_amounts F T cf) (fun _ _ _ _ _ _ us hl => match us, hl with | [_], _ => rfl)
  have h_climb : HasM l.prog w K mg base C 5 "climb" ["self", "costs", "columns"] (spClimb C) := hasM_of m_climb (fun f fd F => ok_climb F T cf h_less h_over h_mult (h_turn.mono (by decide))) (fun _ _ _ _ _ _ us hl => match us, hl with | [_, _, _], _ => rfl)
  have h_leave : HasM l.prog w K mg base C 4 "leave_help" ["self"] (spLeave C) := hasM_of m_leave (fun f fd F => ok_leave F T cf h_turn) (fun _ _ _ _ _ _ us hl => match us, hl with | [_], _ => rfl)
  have h_solved : Has l.prog w K mg base 6 "solved" ["rows", "goals", "costs"] (spSolved) := has_of X G d_solved (fun f fd F => ok_solved F T cf h_init h_mult h_climb h_leave h_amounts h_prices) (fun _ _ _ _ _ _ us hl => match us, hl with | [_, _, _], _ => rfl)
  have h_isin : Has l.prog w K mg base 1 "is_in" ["value", "least", "most"] (spIsIn) := has_of X G d_isin (fun f fd F => ok_isin F T) (fun _ _ _ _ _ _ us hl => match us, hl with | [_, _, _], _ => rfl)
  have h_need : Has l.prog w K mg base 2 "need_water" ["water"] (spNeed Pt) := by
    obtain ⟨f, fd, F, a, hc⟩ := d_need.ex
    exact ⟨f, fd, ok_need F T TM hc TB h_isin, PySem.W.mg_of X G a, F.kp, F.binds (ps := ["water"]) (fun _ _ _ _ _ _ us hl => match us, hl with | [_], _ => rfl)⟩
  have h_whole : Has l.prog w K mg base 1 "whole_row" ["many", "entries"] (spWhole) := has_of X G d_whole (fun f fd F => ok_whole F T) (fun _ _ _ _ _ _ us hl => match us, hl with | [_, _], _ => rfl)
  have h_prog : Has l.prog w K mg base 7 "program_of" ["water"] (spProg) := has_of X G d_prog (fun f fd F => ok_prog F T h_whole h_solved) (fun _ _ _ _ _ _ us hl => match us, hl with | [_], _ => rfl)
  have h_plan : Has l.prog w K mg base 1 "plan_of" ["water", "amounts"] (spPlan) := has_of X G d_plan (fun f fd F => ok_plan F T) (fun _ _ _ _ _ _ us hl => match us, hl with | [_, _], _ => rfl)
  have h_fresh : Has l.prog w K mg base 8 "fresh_of" ["water"] (spFresh) := has_of X G d_fresh (fun f fd F => ok_fresh F T h_total h_plan h_prog) (fun _ _ _ _ _ _ us hl => match us, hl with | [_], _ => rfl)
  have h_least : Has l.prog w K mg base 9 "least_fresh" ["water"] (spLeast Pt) := has_of X G d_least (fun f fd F => ok_least F h_need h_fresh) (fun _ _ _ _ _ _ us hl => match us, hl with | [_], _ => rfl)
  have h_wplan : Has l.prog w K mg base 8 "water_plan" ["water"] (spWPlan Pt) := has_of X G d_wplan (fun f fd F => ok_wplan F h_need h_plan h_prog) (fun _ _ _ _ _ _ us hl => match us, hl with | [_], _ => rfl)
  have h_paper : Has l.prog w K mg base 8 "water_paper" ["water"] (spPaper Pt) := has_of X G d_paper (fun f fd F => ok_paper F T h_need h_prog) (fun _ _ _ _ _ _ us hl => match us, hl with | [_], _ => rfl)
  have h_lratio : Has l.prog w K mg base 1 "_law_ratio" ["_law_top", "_law_bottom"] (spRatio) := has_of X G d_lratio (fun f fd F => ok_lratio F T) (fun _ _ _ _ _ _ us hl => match us, hl with | [_, _], _ => rfl)
  have h_lplus : Has l.prog w K mg base 2 "_law_plus" ["_law_one", "_law_other"] (spTwo (fun _ _ => True) (· + ·)) := has_of X G d_lplus (fun f fd F => ok_lplus F h_lratio) (fun _ _ _ _ _ _ us hl => match us, hl with | [_, _], _ => rfl)
  have h_lby : Has l.prog w K mg base 2 "_law_by" ["_law_one", "_law_other"] (spTwo (fun _ _ => True) (· * ·)) := has_of X G d_lby (fun f fd F => ok_lby F h_lratio) (fun _ _ _ _ _ _ us hl => match us, hl with | [_, _], _ => rfl)
  have h_lsum : Has l.prog w K mg base 3 "_law_sum" ["_law_some"] (spTotal) := has_of X G d_lsum (fun f fd F => ok_lsum F h_lplus) (fun _ _ _ _ _ _ us hl => match us, hl with | [_], _ => rfl)
  have h_taken : Has l.prog w K mg base 1 "_law_taken" ["_law_row", "_law_many"] (spTaken K) := has_of X G d_taken (fun f fd F => ok_taken F T) (fun _ _ _ _ _ _ us hl => match us, hl with | [_, _], _ => rfl)
  have h_pick : Has l.prog w K mg base 2 "_law_pick" ["_law_row", "_law_things"] (spPick K) := has_of X G d_pick (fun f fd F => ok_pick F T h_taken) (fun _ _ _ _ _ _ us hl => match us, hl with | [_, _], _ => rfl)
  have h_lwater : Has l.prog w K mg base 3 "_law_water" ["_law_row"] (spLWater K) := has_of X G d_lwater (fun f fd F => ok_lwater F T h_taken h_pick) (fun _ _ _ _ _ _ us hl => match us, hl with | [_], _ => rfl)
  have h_no : Has l.prog w K mg base 0 "_law_alike" ["_law_found", "_law_due"] (spNo) := has_of X G d_alike (fun f fd F => ok_no) (fun _ _ _ _ _ _ us hl => match us, hl with | [_, _], _ => rfl)
  have h_alikeI : Has l.prog w K mg base 1 "_law_alike" ["_law_found", "_law_due"] (spAI) := has_of X G d_alike (fun f fd F => ok_alikeI F T h_no) (fun _ _ _ _ _ _ us hl => match us, hl with | [_, _], _ => rfl)
  have h_alike : Has l.prog w K mg base 2 "_law_alike" ["_law_found", "_law_due"] (spAQ) := has_of X G d_alike (fun f fd F => ok_alikeQ F T h_alikeI) (fun _ _ _ _ _ _ us hl => match us, hl with | [_, _], _ => rfl)
  have h_are : Has l.prog w K mg base 2 "_law_are_ratios" ["_law_value", "_law_many", "_law_is_signed"] (spAre) := has_of X G d_are (fun f fd F => ok_are F T h_lratio) (fun _ _ _ _ _ _ us hl => match us, hl with | [_, _, _], _ => rfl)
  have h_lfresh : Has l.prog w K mg base 4 "_law_fresh" ["_law_water_here", "_law_value"] (spLFresh) := has_of X G d_lfresh (fun f fd F => ok_lfresh F T h_are h_lsum h_lby) (fun _ _ _ _ _ _ us hl => match us, hl with | [_, _], _ => rfl)
  have h_bound : Has l.prog w K mg base 4 "_law_bound" ["_law_water_here", "_law_value"] (spBound) := has_of X G d_bound (fun f fd F => ok_bound F T h_are h_lsum h_lplus h_lby) (fun _ _ _ _ _ _ us hl => match us, hl with | [_, _], _ => rfl)
  exact ok_law FL T h_lwater h_least h_are h_alike h_lfresh h_bound h_wplan h_paper
theorem walk {l : PySem.W.OpenLaw} {q : Program} {loose : List Str} {XP : (Str → Option Value) → Heap → Prop} {YP : World → Heap → Prop} {d : DefRec} {K : Params → PySem.W.Frag} (hn : l.most = some 63) (hdf : d.params.defaults = [])
    (hrec : ((PyProof.Rows.recsOf q).any fun e => e.name == ("need_water" : Str)) = true) (hY : ∀ (w : World) (h : Heap), YP w h → (K w.params).In h)
    (F : ∀ (w : World) (mg : Str → Option Value) (fa : Addr) (h : Heap), (K w.params).In h → h.Ns mainGlobals mg → mg d.name = some (.ref fa) →
      ∃ (c Pt : Addr) (fd : FuncData), PySem.W.tabIn (K w.params) "need_water" = some (c, Pt) ∧ (K w.params).lookup Pt = none ∧ (∀ (s : Shared) (v : Value), BindsTo s fd ⟨[v], []⟩ [("_law_script", v)]) ∧
        ∀ base : Heap, (K w.params).In base → base.Ns mainGlobals mg → GxR.TabB base mg c Pt → FnOk l.prog w (K w.params) mg base CX0 10 fa fd ["_law_script"] (spLaw (K w.params) Pt)) :
    PySem.W.WalkO q loose XP YP l.row.toRowW d [] (fun f vs => PySem.call f vs) := by
  refine Att.attach_callB hn hdf fun w s0 s1 mg mb fa o pm cd doc a vs ns G Y ho hd hcd hmg hobj hints hlen hbits hg => ?_
  have KX := hY w _ Y
  obtain ⟨c, Pt, fd, ht, nT, hb, hF⟩ := F w mg fa _ KX G.T.g hmg
  obtain ⟨dN, hdN⟩ : ∃ dN, (PyProof.Rows.recsOf q).find? (fun e => e.name == ("need_water" : Str)) = some dN := by
    cases hf : (PyProof.Rows.recsOf q).find? (fun e => e.name == ("need_water" : Str)) with
    | some z => exact ⟨z, rfl⟩
    | none =>
      obtain ⟨z, hz, hz2⟩ := List.any_eq_true.mp hrec
      exact absurd hz2 (List.find?_eq_none.mp hf z hz)
  obtain ⟨hC, hP⟩ := PySem.W.tab_of G.T KX hdN ht
  exact LamX.law_callTs (cs := [(c, Pt)]) KX G.T.g G.T.b G.T.builtins G.T.nolimit hg (fun p hp => by rw [List.mem_singleton.mp hp]; exact hP) (fun p hp => by rw [List.mem_singleton.mp hp]; exact nT) (fun p hp => by rw [List.mem_singleton.mp hp]; exact hC) G.T.bmain hobj hints
    (Nat.le_trans hlen (by decide)) (k := 10) ⟨rfl, by decide, by decide⟩ (fun base b1 b2 b3 => hF base b1 b2 (let t := b3 (c, Pt) (by simp); ⟨t.code, t.bm, t.gP⟩)) hb (fun H hH hS => ⟨a, ns, rfl, hS, ⟨#[], hH (c, Pt) (by simp), trivial⟩, fun _ => rfl⟩) fun H e s' z => z
end Wk
open PySem PySem.W PyProof.Rows in
set_option maxRecDepth 100000 in
set_option maxHeartbeats 0 in
theorem PySem.Challenge.cw_pinchworks_k31_whole_least_fresh_water_holds : PySem.Challenge.rw_pinchworks_k31_whole_least_fresh_water.Holds := by
  w_on; o_law; k_head; (case hw => w_witness2)
  k_fill
  refine Wk.walk (l := PySem.Challenge.rw_pinchworks_k31_whole_least_fresh_water) rfl rfl ?R (fun w h Y => PySem.W.kIn_of Y) ?F
  case R => decide +kernel
  case F =>
    intro w mg fa h KX G hmg
    refine' Wk.all_mk KX G hmg ?aC ?d_isin ?d_ratio ?d_plus ?d_minus ?d_by ?d_over ?d_less ?d_total ?d_solved ?d_whole ?d_prog ?d_plan ?d_fresh ?d_least ?d_wplan ?d_paper ?d_taken ?d_pick ?d_alike ?d_lratio ?d_lplus ?d_lby ?d_lsum ?d_lwater ?d_are ?d_lfresh ?d_bound ?d_law ?d_need ?m_init ?m_turn ?m_mult ?m_climb ?m_leave ?m_amounts ?m_prices ?pg ?hd ?po ?sa ?mk ?kc ?nM ?nS ?nR ?nB ?zg ?z_range ?z_len ?z_enumerate ?z_zip ?z_tuple ?z_list ?z_dict ?z_isinstance ?z_abs ?z_int ?z_bool ?z_str ?z_all ?y1 ?y2 ?y3
    (case aC => k_is)
    (case d_isin => refine' Wk.def_mk ?a ?l ?c ?k; (case a => k_is); (case l => k_is); (case c => k_is); (case k => k_is))
    (case d_ratio => refine' Wk.def_mk ?a ?l ?c ?k; (case a => k_is); (case l => k_is); (case c => k_is); (case k => k_is))
    (case d_plus => refine' Wk.def_mk ?a ?l ?c ?k; (case a => k_is); (case l => k_is); (case c => k_is); (case k => k_is))
    (case d_minus => refine' Wk.def_mk ?a ?l ?c ?k; (case a => k_is); (case l => k_is); (case c => k_is); (case k => k_is))
    (case d_by => refine' Wk.def_mk ?a ?l ?c ?k; (case a => k_is); (case l => k_is); (case c => k_is); (case k => k_is))
    (case d_over => refine' Wk.def_mk ?a ?l ?c ?k; (case a => k_is); (case l => k_is); (case c => k_is); (case k => k_is))
    (case d_less => refine' Wk.def_mk ?a ?l ?c ?k; (case a => k_is); (case l => k_is); (case c => k_is); (case k => k_is))
    (case d_total => refine' Wk.def_mk ?a ?l ?c ?k; (case a => k_is); (case l => k_is); (case c => k_is); (case k => k_is))
    (case d_solved => refine' Wk.def_mk ?a ?l ?c ?k; (case a => k_is); (case l => k_is); (case c => k_is); (case k => k_is))
    (case d_whole => refine' Wk.def_mk ?a ?l ?c ?k; (case a => k_is); (case l => k_is); (case c => k_is); (case k => k_is))
    (case d_prog => refine' Wk.def_mk ?a ?l ?c ?k; (case a => k_is); (case l => k_is); (case c => k_is); (case k => k_is))
    (case d_plan => refine' Wk.def_mk ?a ?l ?c ?k; (case a => k_is); (case l => k_is); (case c => k_is); (case k => k_is))
    (case d_fresh => refine' Wk.def_mk ?a ?l ?c ?k; (case a => k_is); (case l => k_is); (case c => k_is); (case k => k_is))
    (case d_least => refine' Wk.def_mk ?a ?l ?c ?k; (case a => k_is); (case l => k_is); (case c => k_is); (case k => k_is))
    (case d_wplan => refine' Wk.def_mk ?a ?l ?c ?k; (case a => k_is); (case l => k_is); (case c => k_is); (case k => k_is))
    (case d_paper => refine' Wk.def_mk ?a ?l ?c ?k; (case a => k_is); (case l => k_is); (case c => k_is); (case k => k_is))
    (case d_taken => refine' Wk.def_mk ?a ?l ?c ?k; (case a => k_is); (case l => k_is); (case c => k_is); (case k => k_is))
    (case d_pick => refine' Wk.def_mk ?a ?l ?c ?k; (case a => k_is); (case l => k_is); (case c => k_is); (case k => k_is))
    (case d_alike => refine' Wk.def_mk ?a ?l ?c ?k; (case a => k_is); (case l => k_is); (case c => k_is); (case k => k_is))
    (case d_lratio => refine' Wk.def_mk ?a ?l ?c ?k; (case a => k_is); (case l => k_is); (case c => k_is); (case k => k_is))
    (case d_lplus => refine' Wk.def_mk ?a ?l ?c ?k; (case a => k_is); (case l => k_is); (case c => k_is); (case k => k_is))
    (case d_lby => refine' Wk.def_mk ?a ?l ?c ?k; (case a => k_is); (case l => k_is); (case c => k_is); (case k => k_is))
    (case d_lsum => refine' Wk.def_mk ?a ?l ?c ?k; (case a => k_is); (case l => k_is); (case c => k_is); (case k => k_is))
    (case d_lwater => refine' Wk.def_mk ?a ?l ?c ?k; (case a => k_is); (case l => k_is); (case c => k_is); (case k => k_is))
    (case d_are => refine' Wk.def_mk ?a ?l ?c ?k; (case a => k_is); (case l => k_is); (case c => k_is); (case k => k_is))
    (case d_lfresh => refine' Wk.def_mk ?a ?l ?c ?k; (case a => k_is); (case l => k_is); (case c => k_is); (case k => k_is))
    (case d_bound => refine' Wk.def_mk ?a ?l ?c ?k; (case a => k_is); (case l => k_is); (case c => k_is); (case k => k_is))
    (case d_law => refine' Wk.def_mk ?a ?l ?c ?k; (case a => k_is); (case l => k_is); (case c => k_is); (case k => k_is))
    (case d_need => refine' Wk.gdef_mk ?a ?l ?c ?k ?qh ?ql ?qv ?qP; (case a => k_is); (case l => k_is); (case c => k_is); (case k => k_is); (case qh => exact rfl); (case ql => k_is); (case qv => exact rfl); (case qP => exact rfl))
    (case m_init => refine' Wk.mdef_mk ?a ?i ?l ?c ?k; (case a => k_is); (case i => k_is); (case l => k_is); (case c => k_is); (case k => k_is))
    (case m_turn => refine' Wk.mdef_mk ?a ?i ?l ?c ?k; (case a => k_is); (case i => k_is); (case l => k_is); (case c => k_is); (case k => k_is))
    (case m_mult => refine' Wk.mdef_mk ?a ?i ?l ?c ?k; (case a => k_is); (case i => k_is); (case l => k_is); (case c => k_is); (case k => k_is))
    (case m_climb => refine' Wk.mdef_mk ?a ?i ?l ?c ?k; (case a => k_is); (case i => k_is); (case l => k_is); (case c => k_is); (case k => k_is))
    (case m_leave => refine' Wk.mdef_mk ?a ?i ?l ?c ?k; (case a => k_is); (case i => k_is); (case l => k_is); (case c => k_is); (case k => k_is))
    (case m_amounts => refine' Wk.mdef_mk ?a ?i ?l ?c ?k; (case a => k_is); (case i => k_is); (case l => k_is); (case c => k_is); (case k => k_is))
    (case m_prices => refine' Wk.mdef_mk ?a ?i ?l ?c ?k; (case a => k_is); (case i => k_is); (case l => k_is); (case c => k_is); (case k => k_is))
    (case pg => k_is)
    (case hd => k_is)
    (case po => k_is)
    (case sa => k_is)
    (case mk => k_is)
    (case kc => k_is)
    (case nM => k_is)
    (case nS => k_is)
    (case nR => k_is)
    (case nB => k_is)
    (case zg => k_is)
    (case z_range => k_is)
    (case z_len => k_is)
    (case z_enumerate => k_is)
    (case z_zip => k_is)
    (case z_tuple => k_is)
    (case z_list => k_is)
    (case z_dict => k_is)
    (case z_isinstance => k_is)
    (case z_abs => k_is)
    (case z_int => k_is)
    (case z_bool => k_is)
    (case z_str => k_is)
    (case z_all => k_is)
    (case y1 => k_is)
    (case y2 => k_is)
    (case y3 => k_is)
